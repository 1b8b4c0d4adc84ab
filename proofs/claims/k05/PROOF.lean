import PyProof.Rows.All
import Wide.All
import OpenK.AllK
import Wide.FinOn
import HandS.ForMost
import HandS.ForExc
import HandS.IsInst
import HandS.WideBits
import HandS.TupAny
import HandS.TupMul
import HandS.Deep
import HandS.Rev
import HandS.Conv
import HandS.SetFor
import HandS.Dict
import HandS.DictComp
import HandS.Zip
import HandS.Strs
import HandS.Text
import KE.SortData
import KE.DataEq
import KE.DataMinMax
import KE.DataFind
import KE.KDictKeyed
import KE.GoesEnum
import KE.GoesMore
import HandS.TupLe
import HandS.TupSets
import HandS.ExcOwn
import PySem.Challenge.RW_havenorhunt_k05_hunt_judge
set_option Elab.async false
set_option linter.all false
set_option maxRecDepth 100000
set_option maxHeartbeats 4000000
section
namespace Pv
open PySem PySem.Spec PyProof.Rows L2

/-! ### outcomes -/
inductive Res (α : Type) where
  | st | ok (a : α) | ex (c : Str)
namespace Res
protected def bind {α β : Type} : Res α → (α → Res β) → Res β
  | .st, _ => .st
  | .ok a, f => f a
  | .ex c, _ => .ex c
instance : Monad Res where
  pure := Res.ok
  bind := Res.bind
@[simp] theorem ok_bind {α β : Type} (a : α) (f : α → Res β) : (Res.ok a >>= f) = f a := id rfl
@[simp] theorem st_bind {α β : Type} (f : α → Res β) : ((Res.st : Res α) >>= f) = Res.st := id rfl
@[simp] theorem ex_bind {α β : Type} (c : Str) (f : α → Res β) : ((Res.ex c : Res α) >>= f) = Res.ex c := id rfl
@[simp] theorem pure_eq {α : Type} (a : α) : (pure a : Res α) = Res.ok a := id rfl
def ofO {α : Type} : Option α → Res α
  | some a => .ok a
  | none => .st
@[simp] theorem ofO_some {α : Type} (a : α) : ofO (some a) = Res.ok a := id rfl
@[simp] theorem ofO_none {α : Type} : ofO (none : Option α) = Res.st := id rfl
end Res

abbrev D := PyData
def keyD : Key → D
  | .inl i => .int i
  | .inr x => .str x

/-! ### data in the heap, the mutable ones outside of A -/
/-- a list that is not at A (or one of the module's own) -/
def SqN (K : PySem.W.Frag) (H : Hp) (A : List Addr) (a : Addr) (xs : List V) : Prop := (Rd H a (.lst xs) ∧ a ∉ A) ∨
  ∃ (o : Obj) (its : Array Value) (n : Nat), K.lookup a = some o ∧ o.cls = .type "list" ∧ o.dict = none ∧ o.data = .seq its n ∧ its.size ≤ sizeLine ∧ Vals xs its.toList
theorem SqN.sq {K : PySem.W.Frag} {H : Hp} {A : List Addr} {a : Addr} {xs : List V} (h : SqN K H A a xs) : SqL K H a xs := by
  rcases h with ⟨h, _⟩ | h
  · exact .inl h
  · exact .inr h
theorem SqN.of {K : PySem.W.Frag} {H : Hp} {a : Addr} {xs : List V} (h : SqL K H a xs) : SqN K H [] a xs := by
  rcases h with h | h
  · exact .inl ⟨h, by simp⟩
  · exact .inr h
mutual
inductive Rp (K : PySem.W.Frag) (H : Hp) (A : List Addr) : V → D → Prop
  | non : Rp K H A .non .none
  | bl (b : Bool) : Rp K H A (.bl b) (.bool b)
  | int (i : Int) : Rp K H A (.int i) (.int i)
  | str (x : Str) : Rp K H A (.str x) (.str x)
  | lst {a : Addr} {xs : List V} {ds : List D} : SqN K H A a xs → RpL K H A xs ds → Rp K H A (.ref a) (.list ds)
  | tup {a : Addr} {xs : List V} {ds : List D} : SqT K H a xs → RpL K H A xs ds → Rp K H A (.ref a) (.tuple ds)
  | dic {a : Addr} {kvs : List (Key × V)} {ds : List D} {es : List (D × D)} : Rd H a (.dK kvs) → a ∉ A → RpL K H A (kvs.map (·.2)) ds → es = (kvs.map fun p => keyD p.1).zip ds → Rp K H A (.ref a) (.dict es)
inductive RpL (K : PySem.W.Frag) (H : Hp) (A : List Addr) : List V → List D → Prop
  | nil : RpL K H A [] []
  | cons {v : V} {vs : List V} {d : D} {ds : List D} : Rp K H A v d → RpL K H A vs ds → RpL K H A (v :: vs) (d :: ds)
end

section
variable {K : PySem.W.Frag} {H H' H1 H2 : Hp} {A A' : List Addr}
mutual
theorem Rp.imp (hl : ∀ a xs, SqN K H A a xs → SqN K H' A' a xs) (ht : ∀ a xs, SqT K H a xs → SqT K H' a xs) (hd : ∀ a kvs, a ∉ A → Rd H a (.dK kvs) → Rd H' a (.dK kvs) ∧ a ∉ A') : ∀ {v : V} {d : D}, Rp K H A v d → Rp K H' A' v d
  | _, _, .non => .non
  | _, _, .bl b => .bl b
  | _, _, .int b => .int b
  | _, _, .str b => .str b
  | _, _, .lst h r => .lst (hl _ _ h) (RpL.imp hl ht hd r)
  | _, _, .tup h r => .tup (ht _ _ h) (RpL.imp hl ht hd r)
  | _, _, .dic h n r e => .dic (hd _ _ n h).1 (hd _ _ n h).2 (RpL.imp hl ht hd r) e
theorem RpL.imp (hl : ∀ a xs, SqN K H A a xs → SqN K H' A' a xs) (ht : ∀ a xs, SqT K H a xs → SqT K H' a xs) (hd : ∀ a kvs, a ∉ A → Rd H a (.dK kvs) → Rd H' a (.dK kvs) ∧ a ∉ A') : ∀ {v : List V} {d : List D}, RpL K H A v d → RpL K H' A' v d
  | _, _, .nil => .nil
  | _, _, .cons h r => .cons (Rp.imp hl ht hd h) (RpL.imp hl ht hd r)
end

theorem Rd_same (e : Same H H') {a : Addr} {o : HO} (h : Rd H a o) : Rd H' a o := by
  rcases h with h | ⟨o', h⟩
  · exact .inl (e _ _ h)
  · exact .inr ⟨o', e _ _ h⟩
theorem Rd_there {a : Addr} {o : HO} (h : Rd H a o) : H a ≠ none := by
  rcases h with h | ⟨o', h⟩ <;> rw [h] <;> simp
theorem SqT_same (e : Same H H') {a : Addr} {xs : List V} (h : SqT K H a xs) : SqT K H' a xs := by
  rcases h with h | h
  · exact .inl (Rd_same e h)
  · exact .inr h

/-- what a tracked mutable object is -/
def IsM : HO → Prop
  | .lst _ => True
  | .dK _ => True
  | _ => False
def AOk (H : Hp) (A : List Addr) : Prop := ∀ p ∈ A, ∃ o, H p = some o ∧ IsM o
theorem AOk.same (e : Same H H') (h : AOk H A) : AOk H' A := fun p hp => let ⟨o, q, m⟩ := h p hp; ⟨o, e _ _ q, m⟩
theorem AOk.nil : AOk H [] := fun p hp => absurd hp (by simp)
/-- all but what stands at B stays -/
def But (B : List Addr) (H H' : Hp) : Prop := ∀ b o, b ∉ B → H b = some o → H' b = some o
theorem But.of_same {B : List Addr} (e : Same H H') : But B H H' := fun b o _ h => e b o h
theorem But.refl {B : List Addr} : But B H H := fun _ _ _ h => h
theorem But.trans {B : List Addr} (a : But B H H1) (b : But B H1 H2) : But B H H2 := fun c o n h => b c o n (a c o n h)
theorem But.upd {B : List Addr} {p : Addr} {o : HO} (h : p ∈ B) : But B H (upd H p o) := fun b u n e => by
  rw [upd_ne (fun z => n (by rw [z]; exact h))]; exact e
theorem Rd_but {B : List Addr} (e : But B H H') {a : Addr} {o : HO} (n : a ∉ B) (h : Rd H a o) : Rd H' a o := by
  rcases h with h | ⟨o', h⟩
  · exact .inl (e _ _ n h)
  · exact .inr ⟨o', e _ _ n h⟩
theorem SqT_but {B : List Addr} (e : But B H H') (hB : AOk H B) {a : Addr} {xs : List V} (h : SqT K H a xs) : SqT K H' a xs := by
  rcases h with h | h
  · refine .inl (Rd_but e (fun z => ?_) h)
    obtain ⟨o, q, m⟩ := hB _ z
    rcases h with h | ⟨o', h⟩
    · rw [h] at q; cases q; exact m
    · rw [h] at q; cases q; exact m
  · exact .inr h
theorem SqL_but {B : List Addr} (e : But B H H') {a : Addr} {xs : List V} (n : a ∉ B) (h : SqL K H a xs) : SqL K H' a xs := by
  rcases h with h | h
  · exact .inl (Rd_but e n h)
  · exact .inr h
/-- what is said of the heap H, outside of A, holds later: only what is at B (in A) changed, what is at A' was at A or is new -/
theorem Rp.go {B : List Addr} (s : ∀ b ∈ B, b ∈ A) (hB : AOk H B) (e : But B H H') (w : ∀ p ∈ A', p ∈ A ∨ H p = none) {v : V} {d : D} (h : Rp K H A v d) : Rp K H' A' v d := by
  have key : ∀ a o, Rd H a o → a ∉ A → a ∉ A' := fun a o h n z => (w a z).elim n (Rd_there h)
  refine h.imp (fun a xs q => ?_) (fun _ _ q => SqT_but e hB q) fun a kvs n q => ⟨Rd_but e (fun z => n (s _ z)) q, key _ _ q n⟩
  rcases q with ⟨q, n⟩ | q
  · exact .inl ⟨Rd_but e (fun z => n (s _ z)) q, key _ _ q n⟩
  · exact .inr q
theorem RpL.go {B : List Addr} (s : ∀ b ∈ B, b ∈ A) (hB : AOk H B) (e : But B H H') (w : ∀ p ∈ A', p ∈ A ∨ H p = none) : ∀ {v : List V} {d : List D}, RpL K H A v d → RpL K H' A' v d
  | _, _, .nil => .nil
  | _, _, .cons h r => .cons (h.go s hB e w) (RpL.go s hB e w r)
theorem Rp.same (e : Same H H') {v : V} {d : D} (h : Rp K H A v d) : Rp K H' A v d := h.go (B := []) (by simp) AOk.nil (But.of_same e) fun _ z => .inl z
theorem RpL.same (e : Same H H') {v : List V} {d : List D} (h : RpL K H A v d) : RpL K H' A v d := h.go (B := []) (by simp) AOk.nil (But.of_same e) fun _ z => .inl z
theorem Rp.sub (e : ∀ a ∈ A', a ∈ A) {v : V} {d : D} (h : Rp K H A v d) : Rp K H A' v d := h.go (B := []) (by simp) AOk.nil But.refl fun _ z => .inl (e _ z)
theorem RpL.sub (e : ∀ a ∈ A', a ∈ A) {v : List V} {d : List D} (h : RpL K H A v d) : RpL K H A' v d := h.go (B := []) (by simp) AOk.nil But.refl fun _ z => .inl (e _ z)
theorem Rp.but {B : List Addr} (e : But B H H') (hB : AOk H B) (s : ∀ b ∈ B, b ∈ A) {v : V} {d : D} (h : Rp K H A v d) : Rp K H' A v d := h.go s hB e fun _ z => .inl z
theorem RpL.but {B : List Addr} (e : But B H H') (hB : AOk H B) (s : ∀ b ∈ B, b ∈ A) {v : List V} {d : List D} (h : RpL K H A v d) : RpL K H' A v d := h.go s hB e fun _ z => .inl z
theorem Rp.new {p : Addr} (n : H p = none) {v : V} {d : D} (h : Rp K H A v d) : Rp K H (p :: A) v d := h.go (B := []) (by simp) AOk.nil But.refl fun q z => by
  rcases List.mem_cons.mp z with rfl | z
  · exact .inr n
  · exact .inl z
theorem RpL.new {p : Addr} (n : H p = none) {v : List V} {d : List D} (h : RpL K H A v d) : RpL K H (p :: A) v d := h.go (B := []) (by simp) AOk.nil But.refl fun q z => by
  rcases List.mem_cons.mp z with rfl | z
  · exact .inr n
  · exact .inl z
theorem same_upd {p : Addr} {o : HO} (h : H p = none) : Same H (upd H p o) := fun b x e => by
  rw [upd_ne (ne_of_none e h)]; exact e
theorem AOk.fresh {p : Addr} (h : AOk H A) (n : H p = none) : p ∉ A := fun z => by
  obtain ⟨o, q, _⟩ := h p z
  rw [n] at q; cases q

/-! lists -/
theorem RpL.length : ∀ {v : List V} {d : List D}, RpL K H A v d → v.length = d.length
  | _, _, .nil => rfl
  | _, _, .cons _ r => by rw [List.length_cons, List.length_cons, RpL.length r]
theorem RpL.get : ∀ {v : List V} {d : List D} {i : Nat} {x : V}, RpL K H A v d → v[i]? = some x → ∃ y, d[i]? = some y ∧ Rp K H A x y
  | _, _, _, _, .nil, e => by simp at e
  | _, _, 0, _, .cons h _, e => by simp at e; subst e; exact ⟨_, rfl, h⟩
  | _, _, i + 1, x, .cons _ r, e => by
    obtain ⟨y, e1, h⟩ := RpL.get (i := i) (x := x) r (by simpa using e)
    exact ⟨y, by simpa using e1, h⟩
theorem RpL.get' : ∀ {v : List V} {d : List D} {i : Nat} {y : D}, RpL K H A v d → d[i]? = some y → ∃ x, v[i]? = some x ∧ Rp K H A x y
  | _, _, _, _, .nil, e => by simp at e
  | _, _, 0, _, .cons h _, e => by simp at e; subst e; exact ⟨_, rfl, h⟩
  | _, _, i + 1, x, .cons _ r, e => by
    obtain ⟨y, e1, h⟩ := RpL.get' (i := i) (y := x) r (by simpa using e)
    exact ⟨y, by simpa using e1, h⟩
theorem RpL.append : ∀ {v v' : List V} {d d' : List D}, RpL K H A v d → RpL K H A v' d' → RpL K H A (v ++ v') (d ++ d')
  | _, _, _, _, .nil, h => h
  | _, _, _, _, .cons h r, q => .cons h (RpL.append r q)
theorem RpL.take : ∀ {v : List V} {d : List D} (n : Nat), RpL K H A v d → RpL K H A (v.take n) (d.take n)
  | _, _, 0, _ => .nil
  | _, _, _ + 1, .nil => .nil
  | _, _, n + 1, .cons h r => .cons h (RpL.take n r)
theorem RpL.drop : ∀ {v : List V} {d : List D} (n : Nat), RpL K H A v d → RpL K H A (v.drop n) (d.drop n)
  | _, _, 0, r => r
  | _, _, _ + 1, .nil => .nil
  | _, _, n + 1, .cons h r => RpL.drop n r
theorem RpL.set : ∀ {v : List V} {d : List D} {x : V} {y : D} (n : Nat), Rp K H A x y → RpL K H A v d → RpL K H A (v.set n x) (d.set n y)
  | _, _, _, _, _, _, .nil => .nil
  | _, _, _, _, 0, q, .cons _ r => .cons q r
  | _, _, _, _, n + 1, q, .cons h r => .cons h (RpL.set n q r)
theorem RpL.reverse {v : List V} {d : List D} (h : RpL K H A v d) : RpL K H A v.reverse d.reverse := by
  have go : ∀ {v : List V} {d : List D} {v' : List V} {d' : List D}, RpL K H A v d → RpL K H A v' d' → RpL K H A (v.reverseAux v') (d.reverseAux d') := by
    intro v
    induction v with
    | nil => intro d v' d' h q; cases h; exact q
    | cons x v ih =>
      intro d v' d' h q
      cases h with
      | @cons _ _ y ds h r => exact ih (d := ds) (v' := x :: v') (d' := y :: d') r (.cons h q)
  exact go h .nil
theorem RpL.rep {v : List V} {d : List D} (h : RpL K H A v d) : ∀ k : Nat, RpL K H A (List.replicate k v).flatten (List.replicate k d).flatten
  | 0 => .nil
  | k + 1 => by rw [List.replicate_succ, List.replicate_succ, List.flatten_cons, List.flatten_cons]; exact h.append (RpL.rep h k)
theorem RpL.ints : ∀ {ns : List Int} {v : List V}, RpL K H A v (ns.map PyData.int) → v = ns.map V.int
  | [], _, .nil => rfl
  | n :: ns, _, .cons h r => by cases h; rw [RpL.ints r]; rfl

/-! pure data: nothing mutable in it -/
mutual
def pureD : D → Bool
  | .list _ => false
  | .dict _ => false
  | .tuple xs => pureL xs
  | _ => true
def pureL : List D → Bool
  | [] => true
  | x :: xs => pureD x && pureL xs
end
mutual
theorem Rp.pure : ∀ {v : V} {d : D}, pureD d = true → Rp K H A v d → Rp K H A' v d
  | _, _, _, .non => .non
  | _, _, _, .bl b => .bl b
  | _, _, _, .int b => .int b
  | _, _, _, .str b => .str b
  | _, _, p, .lst h r => by simp [pureD] at p
  | _, _, p, .tup h r => .tup h (RpL.pure (by simpa [pureD] using p) r)
  | _, _, p, .dic h n r e => by simp [pureD] at p
theorem RpL.pure : ∀ {v : List V} {d : List D}, pureL d = true → RpL K H A v d → RpL K H A' v d
  | _, _, _, .nil => .nil
  | _, _, p, .cons h r => by
    have p' := p
    simp only [pureL, Bool.and_eq_true] at p'
    exact .cons (Rp.pure p'.1 h) (RpL.pure p'.2 r)
end
end

/-! ### data that == looks into -/
section
variable {K : PySem.W.Frag} {H : Hp} {A : List Addr}
mutual
theorem Rp.dp : ∀ {v : V} {d : D}, d.plain = true → Rp K H A v d → Dp K H v d
  | _, _, _, .non => .non
  | _, _, _, .bl b => .bl b
  | _, _, _, .int b => .int b
  | _, _, _, .str b => .str b
  | _, _, p, .lst h r => .lst h.sq (RpL.dp (by simpa [PyData.plain] using p) r)
  | _, _, p, .tup h r => .tup h (RpL.dp (by simpa [PyData.plain] using p) r)
  | _, _, p, .dic h n r e => by simp [PyData.plain] at p
theorem RpL.dp : ∀ {v : List V} {d : List D}, PyData.plainAll d = true → RpL K H A v d → DpAll K H v d
  | _, _, _, .nil => .nil
  | _, _, p, .cons h r => by
    have p' := p
    simp only [PyData.plainAll, Bool.and_eq_true] at p'
    exact .cons (Rp.dp p'.1 h) (RpL.dp p'.2 r)
end
end

/-! ### slots -/
abbrev Env := List (Option (Bool × D))
inductive Slot (K : PySem.W.Frag) (H : Hp) (A : List Addr) : Option V → Option (Bool × D) → Option Addr → Prop
  | non {x : Option V} : Slot K H A x none none
  | shared {v : V} {d : D} : Rp K H A v d → Slot K H A (some v) (some (false, d)) none
  | ownL {a : Addr} {xs : List V} {ds : List D} : a ∈ A → H a = some (.lst xs) → RpL K H A xs ds → Slot K H A (some (.ref a)) (some (true, .list ds)) (some a)
  | ownD {a : Addr} {kvs : List (Key × V)} {ds : List D} {es : List (D × D)} : a ∈ A → H a = some (.dK kvs) → RpL K H A (kvs.map (·.2)) ds → es = (kvs.map fun p => keyD p.1).zip ds → Slot K H A (some (.ref a)) (some (true, .dict es)) (some a)
inductive Slots (K : PySem.W.Frag) (H : Hp) (A : List Addr) : L2.St → Env → List (Option Addr) → Prop
  | nil : Slots K H A [] [] []
  | cons {x : Option V} {y : Option (Bool × D)} {r : Option Addr} {xs : L2.St} {ys : Env} {rs : List (Option Addr)} : Slot K H A x y r → Slots K H A xs ys rs → Slots K H A (x :: xs) (y :: ys) (r :: rs)
structure EnvOk (K : PySem.W.Frag) (H : Hp) (A : List Addr) (O : List (Option Addr)) (σ : L2.St) (ρ : Env) : Prop where
  sl : Slots K H A σ ρ O
  nd : ∀ (i j : Nat) (a : Addr), O[i]? = some (some a) → O[j]? = some (some a) → i = j

section
variable {K : PySem.W.Frag} {H H' : Hp} {A A' : List Addr}
theorem Slot.same (e : Same H H') {x : Option V} {y : Option (Bool × D)} {r : Option Addr} : Slot K H A x y r → Slot K H' A x y r
  | .non => .non
  | .shared h => .shared (h.same e)
  | .ownL m h r => .ownL m (e _ _ h) (r.same e)
  | .ownD m h r q => .ownD m (e _ _ h) (r.same e) q
theorem Slots.same (e : Same H H') : ∀ {σ : L2.St} {ρ : Env} {O : List (Option Addr)}, Slots K H A σ ρ O → Slots K H' A σ ρ O
  | _, _, _, .nil => .nil
  | _, _, _, .cons h r => .cons (h.same e) (Slots.same e r)
theorem EnvOk.same {O : List (Option Addr)} {σ : L2.St} {ρ : Env} (e : Same H H') (h : EnvOk K H A O σ ρ) : EnvOk K H' A O σ ρ := ⟨h.sl.same e, h.nd⟩
theorem Slots.get : ∀ {σ : L2.St} {ρ : Env} {O : List (Option Addr)} {i : Nat} {y : Option (Bool × D)}, Slots K H A σ ρ O → ρ[i]? = some y → ∃ x r, σ[i]? = some x ∧ O[i]? = some r ∧ Slot K H A x y r
  | _, _, _, _, _, .nil, e => by simp at e
  | _, _, _, 0, _, .cons h _, e => by simp at e; subst e; exact ⟨_, _, rfl, rfl, h⟩
  | _, _, _, i + 1, y, .cons _ r, e => by
    obtain ⟨x, r', e1, e2, h⟩ := Slots.get (i := i) (y := y) r (by simpa using e)
    exact ⟨x, r', by simpa using e1, by simpa using e2, h⟩
theorem Slots.len : ∀ {σ : L2.St} {ρ : Env} {O : List (Option Addr)}, Slots K H A σ ρ O → σ.length = ρ.length ∧ O.length = ρ.length
  | _, _, _, .nil => ⟨rfl, rfl⟩
  | _, _, _, .cons _ r => by
    obtain ⟨h1, h2⟩ := Slots.len r
    exact ⟨by rw [List.length_cons, List.length_cons, h1], by rw [List.length_cons, List.length_cons, h2]⟩
/-- all flags down -/
def clr (ρ : Env) : Env := ρ.map fun o => o.map fun p => (false, p.2)
theorem Slots.clr : ∀ {σ : L2.St} {ρ : Env} {O : List (Option Addr)}, Slots K H A σ ρ O → Slots K H [] σ (clr ρ) (O.map fun _ => none)
  | _, _, _, .nil => .nil
  | _, _, _, .cons .non r => .cons .non r.clr
  | _, _, _, .cons (.shared h) r => .cons (.shared (h.sub (by simp))) r.clr
  | _, _, _, .cons (.ownL m h q) r => .cons (.shared (.lst (.inl ⟨.inl h, by simp⟩) (q.sub (by simp)))) r.clr
  | _, _, _, .cons (.ownD m h q e) r => .cons (.shared (.dic (.inl h) (by simp) (q.sub (by simp)) e)) r.clr
theorem EnvOk.clr {O : List (Option Addr)} {σ : L2.St} {ρ : Env} (h : EnvOk K H A O σ ρ) : EnvOk K H [] (O.map fun _ => none) σ (clr ρ) := ⟨h.sl.clr, fun i j a e _ => by
  rw [List.getElem?_map] at e
  cases q : O[i]? with
  | none => rw [q] at e; cases e
  | some _ => rw [q] at e; cases e⟩
/-- one slot stored anew -/
theorem Slots.set : ∀ {σ : L2.St} {ρ : Env} {O : List (Option Addr)} {x : Option V} {y : Option (Bool × D)} {r : Option Addr} (i : Nat), Slot K H A x y r → Slots K H A σ ρ O → Slots K H A (σ.set i x) (ρ.set i y) (O.set i r)
  | _, _, _, _, _, _, _, _, .nil => .nil
  | _, _, _, _, _, _, 0, h, .cons _ q => .cons h q
  | _, _, _, _, _, _, i + 1, h, .cons g q => .cons g (Slots.set i h q)
theorem EnvOk.set {O : List (Option Addr)} {σ : L2.St} {ρ : Env} {v : V} {d : D} (i : Nat) (h : EnvOk K H A O σ ρ) (r : Rp K H A v d) : EnvOk K H A (O.set i none) (σ.set i (some v)) (ρ.set i (some (false, d))) := ⟨h.sl.set i (.shared r), fun j k a e1 e2 => by
  rw [List.getElem?_set] at e1 e2
  split at e1
  · split at e1 <;> simp_all
  · split at e2
    · split at e2 <;> simp_all
    · exact h.nd j k a e1 e2⟩
theorem EnvOk.gone {O : List (Option Addr)} {σ : L2.St} {ρ : Env} (x : Option V) (i : Nat) (h : EnvOk K H A O σ ρ) : EnvOk K H A (O.set i none) (σ.set i x) (ρ.set i none) := ⟨h.sl.set i .non, fun j k a e1 e2 => by
  rw [List.getElem?_set] at e1 e2
  split at e1
  · split at e1 <;> simp_all
  · split at e2
    · split at e2 <;> simp_all
    · exact h.nd j k a e1 e2⟩
/-- only what stands at B, where nothing is owned, has changed -/
theorem Slot.go {B : List Addr} (s : ∀ b ∈ B, b ∈ A) (hB : AOk H B) (e : But B H H') (w : ∀ p ∈ A', p ∈ A ∨ H p = none) {x : Option V} {y : Option (Bool × D)} {r : Option Addr} (ho : ∀ a, r = some a → a ∉ B ∧ a ∈ A') : Slot K H A x y r → Slot K H' A' x y r
  | .non => .non
  | .shared h => .shared (h.go s hB e w)
  | .ownL m h r => .ownL (ho _ rfl).2 (e _ _ (ho _ rfl).1 h) (r.go s hB e w)
  | .ownD m h r q => .ownD (ho _ rfl).2 (e _ _ (ho _ rfl).1 h) (r.go s hB e w) q
theorem Slots.go {B : List Addr} (s : ∀ b ∈ B, b ∈ A) (hB : AOk H B) (e : But B H H') (w : ∀ p ∈ A', p ∈ A ∨ H p = none) : ∀ {σ : L2.St} {ρ : Env} {O : List (Option Addr)}, (∀ a, some a ∈ O → a ∉ B ∧ a ∈ A') → Slots K H A σ ρ O → Slots K H' A' σ ρ O
  | _, _, _, _, .nil => .nil
  | _, _, _, ho, .cons h r => .cons (h.go s hB e w fun a z => ho a (by rw [← z]; simp)) (Slots.go s hB e w (fun a z => ho a (by simp [z])) r)
theorem EnvOk.go {B : List Addr} (s : ∀ b ∈ B, b ∈ A) (hB : AOk H B) (e : But B H H') (w : ∀ p ∈ A', p ∈ A ∨ H p = none) {O : List (Option Addr)} {σ : L2.St} {ρ : Env} (ho : ∀ a, some a ∈ O → a ∉ B ∧ a ∈ A') (h : EnvOk K H A O σ ρ) : EnvOk K H' A' O σ ρ := ⟨h.sl.go s hB e w ho, h.nd⟩
theorem Slots.inA : ∀ {σ : L2.St} {ρ : Env} {O : List (Option Addr)}, Slots K H A σ ρ O → ∀ a, some a ∈ O → a ∈ A
  | _, _, _, .nil, _, h => by simp at h
  | _, _, _, .cons g r, a, h => by
    rcases List.mem_cons.mp h with e | h
    · subst e
      cases g with
      | ownL m _ _ => exact m
      | ownD m _ _ _ => exact m
    · exact Slots.inA r a h
theorem EnvOk.new {p : Addr} (n : H p = none) {O : List (Option Addr)} {σ : L2.St} {ρ : Env} (h : EnvOk K H A O σ ρ) : EnvOk K H (p :: A) O σ ρ :=
  h.go (B := []) (by simp) AOk.nil But.refl (fun q z => by
    rcases List.mem_cons.mp z with rfl | z
    · exact .inr n
    · exact .inl z) fun a ha => ⟨by simp, List.mem_cons_of_mem _ (h.sl.inA a ha)⟩
end
end Pv

end
section
namespace Pv
open PySem PySem.Spec PyProof.Rows L2

/-! ### dicts with keys that are numbers or texts -/
def keyO : D → Option Key
  | .int i => some (.inl i)
  | .str s => some (.inr s)
  | _ => none
@[simp] theorem keyO_D (k : Key) : keyO (keyD k) = some k := by cases k <;> exact id rfl
def getE (es : List (D × D)) (k : Key) : Option D := (es.find? fun p => decide (keyO p.1 = some k)).map (·.2)
def putE (es : List (D × D)) (k : Key) (d : D) : List (D × D) :=
  if es.any (fun p => decide (keyO p.1 = some k)) then es.map (fun p => if keyO p.1 = some k then (p.1, d) else p) else es ++ [(keyD k, d)]
section
variable {K : PySem.W.Frag} {H : Hp} {A : List Addr}
def zipE (kvs : List (Key × V)) (ds : List D) : List (D × D) := (kvs.map fun p => keyD p.1).zip ds
theorem get_zip {k : Key} : ∀ {kvs : List (Key × V)} {ds : List D}, RpL K H A (kvs.map (·.2)) ds → (∀ d, getE (zipE kvs ds) k = some d → ∃ v, valV kvs k = some v ∧ Rp K H A v d) ∧ (getE (zipE kvs ds) k = none → valV kvs k = none)
  | [], _, .nil => ⟨fun d h => by simp [getE, zipE] at h, fun _ => rfl⟩
  | p :: kvs, _, .cons (ds := ds) (d := e) h r => by
    obtain ⟨i1, i2⟩ := get_zip (k := k) r
    by_cases hk : p.1 = k
    · refine ⟨fun d hd => ⟨p.2, valV_pos hk, ?_⟩, fun hd => ?_⟩
      · have : getE (zipE (p :: kvs) (e :: ds)) k = some e := by simp [getE, zipE, hk]
        rw [this] at hd; cases hd; exact h
      · have : getE (zipE (p :: kvs) (e :: ds)) k = some e := by simp [getE, zipE, hk]
        rw [this] at hd; cases hd
    · have e1 : getE (zipE (p :: kvs) (e :: ds)) k = getE (zipE kvs ds) k := by simp [getE, zipE, hk]
      rw [e1, valV_neg hk]
      exact ⟨i1, i2⟩
theorem any_zip {k : Key} : ∀ {kvs : List (Key × V)} {ds : List D}, kvs.length = ds.length → (zipE kvs ds).any (fun p => decide (keyO p.1 = some k)) = kvs.any fun kv => decide (kv.1 = k)
  | [], [], _ => rfl
  | p :: kvs, d :: ds, h => by
    have ih := any_zip (k := k) (kvs := kvs) (ds := ds) (by simpa using h)
    show (decide (keyO (keyD p.1) = some k) || (zipE kvs ds).any _) = _
    rw [ih, keyO_D, List.any_cons]
    simp
  | [], _ :: _, h => by simp at h
  | _ :: _, [], h => by simp at h
theorem put_zip {k : Key} {v : V} {d : D} {kvs : List (Key × V)} {ds : List D} (h : RpL K H A (kvs.map (·.2)) ds) (hv : Rp K H A v d) : ∃ ds', RpL K H A ((putK kvs k v).map (·.2)) ds' ∧ putE (zipE kvs ds) k d = zipE (putK kvs k v) ds' := by
  have hl : kvs.length = ds.length := by have := h.length; simpa using this
  unfold putE putK
  rw [any_zip hl]
  by_cases ha : (kvs.any fun kv => decide (kv.1 = k)) = true
  · rw [if_pos ha, if_pos ha]
    have go : ∀ {kvs : List (Key × V)} {ds : List D}, RpL K H A (kvs.map (·.2)) ds → ∃ ds', RpL K H A ((kvs.map fun kv => if kv.1 = k then (kv.1, v) else kv).map (·.2)) ds' ∧ (zipE kvs ds).map (fun p => if keyO p.1 = some k then (p.1, d) else p) = zipE (kvs.map fun kv => if kv.1 = k then (kv.1, v) else kv) ds' := by
      intro kvs
      induction kvs with
      | nil => intro ds h; cases h; exact ⟨[], .nil, rfl⟩
      | cons p kvs ih =>
        intro ds h
        cases h with
        | @cons _ _ e ds h r =>
          obtain ⟨ds', r1, r2⟩ := ih r
          by_cases hk : p.1 = k
          · refine ⟨d :: ds', ?_, ?_⟩
            · simp only [List.map_cons, if_pos hk]; exact .cons hv r1
            · simp only [List.map_cons, zipE, List.zip_cons_cons, keyO_D] at r2 ⊢
              rw [if_pos (by rw [hk]), if_pos hk, r2]
          · refine ⟨e :: ds', ?_, ?_⟩
            · simp only [List.map_cons, if_neg hk]; exact .cons h r1
            · simp only [List.map_cons, zipE, List.zip_cons_cons, keyO_D] at r2 ⊢
              rw [if_neg (by simpa using hk), if_neg hk, r2]
    exact go h
  · rw [if_neg ha, if_neg ha]
    refine ⟨ds ++ [d], ?_, ?_⟩
    · rw [List.map_append]; exact h.append (.cons hv .nil)
    · unfold zipE
      rw [List.map_append, List.zip_append (by simpa using hl)]
      rfl
end
end Pv

end
section
namespace Pv
open PySem PySem.Spec PyProof.Rows L2

/-! ### operations on data -/
def sm (n : Nat) : Bool := decide (n ≤ 1000000)
def i64 (i : Int) : Bool := decide (-(2 ^ 64) < i) && decide (i < 2 ^ 64)
def binop : Operator → D → D → Option D
  | .Add, .int i, .int j => some (.int (i + j))
  | .Add, .str x, .str y => if sm (x.length + y.length) then some (.str (x ++ y)) else none
  | .Add, .list xs, .list ys => if sm (xs.length + ys.length) then some (.list (xs ++ ys)) else none
  | .Add, .tuple xs, .tuple ys => if sm (xs.length + ys.length) then some (.tuple (xs ++ ys)) else none
  | .Sub, .int i, .int j => some (.int (i - j))
  | .Mult, .int i, .int j => if i64 i || i64 j then some (.int (i * j)) else none
  | .Mult, .list xs, .int k => if decide (0 ≤ k) && decide (k ≤ 1000) && decide (xs.length ≤ 1000) then some (.list (List.replicate k.toNat xs).flatten) else none
  | .FloorDiv, .int i, .int j => if decide (0 < j) && decide (j < 1073741824) then some (.int (i / j)) else none
  | .Mod, .int i, .int j => if 0 < j then some (.int (i % j)) else none
  | .Pow, .int i, .int j => if decide (0 ≤ j) && decide (j ≤ 1000000) && i64 i then some (.int (i ^ j.toNat)) else none
  | .LShift, .int i, .int j => if decide (0 ≤ j) && decide (j ≤ 1000000) && i64 i then some (.int (i * 2 ^ j.toNat)) else none
  | .RShift, .int i, .int j => if 0 ≤ j then some (.int (i / 2 ^ j.toNat)) else none
  | .BitAnd, .int i, .int j => some (.int (Builtin.bitAnd i j))
  | .BitOr, .int i, .int j => some (.int (Builtin.bitOr i j))
  | .BitXor, .int i, .int j => some (.int (Builtin.bitXor i j))
  | _, _, _ => none
def unop : UnaryOp → D → Option D
  | .USub, .int i => some (.int (-i))
  | .Invert, .int i => some (.int (Builtin.bitNot i))
  | _, _ => none
/-- flat data: what == and in tell apart without looking in -/
def inD (d : D) (ds : List D) : Bool := ds.any fun e => PyData.eqv e d
def okD (d : D) : Bool := d.plain && decide (d.depth ≤ 60)
def isN : D → Bool
  | .none => true
  | _ => false
def cmpop : CmpOp → D → D → Option Bool
  | .Lt, .int i, .int j => some (decide (i < j))
  | .LtE, .int i, .int j => some (decide (i ≤ j))
  | .Gt, .int i, .int j => some (decide (j < i))
  | .GtE, .int i, .int j => some (decide (j ≤ i))
  | .Eq, .int i, .int j => some (i == j)
  | .NotEq, .int i, .int j => some (!(i == j))
  | .Eq, .str i, .str j => some (i == j)
  | .NotEq, .str i, .str j => some (!(i == j))
  | .Eq, d, e => if okD d && okD e then some (PyData.eqv d e) else none
  | .NotEq, d, e => if okD d && okD e then some (!PyData.eqv d e) else none
  | .Is, .bool a, .bool b => some (decide (a = b))
  | .IsNot, .bool a, .bool b => some (!decide (a = b))
  | .Is, d, .none => some (isN d)
  | .IsNot, d, .none => some (!isN d)
  | .In, d, .list ds => if okD d && okD (.list ds) then some (inD d ds) else none
  | .NotIn, d, .list ds => if okD d && okD (.list ds) then some (!inD d ds) else none
  | .In, d, .tuple ds => if okD d && okD (.tuple ds) then some (inD d ds) else none
  | .NotIn, d, .tuple ds => if okD d && okD (.tuple ds) then some (!inD d ds) else none
  | .In, d, .dict es => (keyO d).map fun k => (getE es k).isSome
  | .NotIn, d, .dict es => (keyO d).map fun k => !(getE es k).isSome
  | .In, .str c, .str z => if c.length == 1 then some (decide (c.cps.toList.headD 0 ∈ z.cps.toList)) else none
  | .NotIn, .str c, .str z => if c.length == 1 then some (!decide (c.cps.toList.headD 0 ∈ z.cps.toList)) else none
  | _, _, _ => none

theorem sm_le {n : Nat} (h : sm n = true) : n ≤ sizeLine := by
  have h' : n ≤ 1000000 := of_decide_eq_true h
  rw [sizeLine_eq]; omega
theorem i64_lt {i : Int} (h : i64 i = true) : -(2 ^ 64) < i ∧ i < 2 ^ 64 := by
  unfold i64 at h
  rw [Bool.and_eq_true] at h
  exact ⟨of_decide_eq_true h.1, of_decide_eq_true h.2⟩
theorem i64_nat {i : Int} (h : i64 i = true) : i.natAbs < 2 ^ 64 := by
  have := i64_lt h
  omega

section
variable {X : Cx} {A : List Addr}
abbrev Wish := V → Hp → Prop
/-- the answer of an operation, by data -/
def rOp (K : PySem.W.Frag) (A : List Addr) (f : D → D → Option D) : R2 := fun x y H Q => AOk H A ∧ ∃ d e r, Rp K H A x d ∧ Rp K H A y e ∧ f d e = some r ∧ ∀ v H', Same H H' → Rp K H' A v r → Q v H'
def rUn (K : PySem.W.Frag) (A : List Addr) (f : D → Option D) : V → Hp → VK → Prop := fun x H Q => AOk H A ∧ ∃ d r, Rp K H A x d ∧ f d = some r ∧ ∀ v H', Same H H' → Rp K H' A v r → Q v H'

/-! list + list, list * k where the list may be one of the module's own -/
theorem list_add_any (l : Addr) (items : Array Value) (n : Nat) (b : Addr) (items2 : Array Value) (n2 : Nat) (sl sl2 : Array (Option Value)) (hc0 : items.size + items2.size ≤ sizeLine) :
    Meets (Builtin.«list.__add__» ⟨[.ref l, .ref b], []⟩) (fun _ R s => s.heap.get? l = some { cls := .type "list", dict := none, data := .seq items n, slots := sl } ∧ s.heap.get? b = some { cls := .type "list", dict := none, data := .seq items2 n2, slots := sl2 } ∧ R (.ok (.ret (Value.ref s.heap.objs.size))) { s with heap := s.heap.push { cls := Value.type "list", data := Data.seq (items ++ items2) }, toks := s.toks }) :=
  .of_wp fun prog w A R s h => by obtain ⟨hp, g, d, tk, os⟩ := s; obtain ⟨hl, hb, h⟩ := h; have f1 := AutoSeq1.idx_int; have f2 := AutoSeq1.sub_tuple_tuple; have f3 := AutoSeq1.sub_list_list; have f4 := AutoSeq1.sub_tuple_list; have f5 := AutoSeq1.sub_list_tuple; wp_walk using AutoSeq1.wpAny_loadPart' hl, AutoSeq1.wpAny_loadPart' hb; exact ⟨_, rfl, h⟩
end
end Pv

end
section
namespace Pv
open PySem PySem.Spec PyProof.Rows L2

theorem ite_some {c : Prop} [Decidable c] {α : Type} {a r : α} (h : (if c then some a else none) = some r) : c ∧ a = r := by
  by_cases hc : c
  · rw [if_pos hc] at h; exact ⟨hc, Option.some.inj h⟩
  · rw [if_neg hc] at h; cases h
theorem and2 {a b : Bool} (h : (a && b) = true) : a = true ∧ b = true := by rwa [Bool.and_eq_true] at h
theorem and3 {a b c : Bool} (h : (a && b && c) = true) : a = true ∧ b = true ∧ c = true := by
  rw [Bool.and_eq_true, Bool.and_eq_true] at h; exact ⟨h.1.1, h.1.2, h.2⟩

theorem list_mul_any (l : Addr) (items : Array Value) (n : Nat) (x : Int) (u : Tok) (sl : Array (Option Value)) (hc0 : ¬(!Builtin.List.listFitsIndex x) = true) (hc1 : ¬items.size * x.toNat > (2 ^ 63 - 1) / 8) (hc2 : ¬Builtin.List.listTooLong (items.size * x.toNat) = true)
    (hsz : (List.foldl (fun x1 x2 => x1 ++ x2) #[] (List.replicate (if items.isEmpty = true then 0 else x.toNat) items)).size ≤ sizeLine) :
    Meets (Builtin.«list.__mul__» ⟨[.ref l, .int x u], []⟩) (fun _ R s => s.heap.get? l = some { cls := .type "list", dict := none, data := .seq items n, slots := sl } ∧ R (.ok (.ret (Value.ref s.heap.objs.size))) { s with heap := s.heap.push { cls := Value.type "list", data := Data.seq (List.foldl (fun x1 x2 => x1 ++ x2) #[] (List.replicate (if items.isEmpty = true then 0 else x.toNat) items)) }, toks := s.toks }) :=
  .of_wp fun prog w A R s h => by
    obtain ⟨hp, g, d, tk, os⟩ := s; obtain ⟨hl, h⟩ := h
    have f1 := AutoSeq1.idx_int
    wp_walk using AutoSeq1.wpAny_loadPart' hl; refine wpAny_ite_false (decide_eq_false (Nat.not_lt.mpr hsz)) ?_; wp_walk using AutoSeq1.wpAny_loadPart' hl; exact ⟨_, rfl, h⟩
theorem int_rmul_list_any (a : Int) (t : Tok) (l : Addr) (items : Array Value) (n : Nat) (sl : Array (Option Value)) :
    Meets (Builtin.«int.__rmul__» ⟨[.int a t, .ref l], []⟩) (fun _ R s => s.heap.get? l = some { cls := .type "list", dict := none, data := .seq items n, slots := sl } ∧ R (.ok (.ret Value.notImplemented)) s) :=
  .of_wp fun prog w A R s h => by obtain ⟨hp, g, d, tk, os⟩ := s; obtain ⟨hl, h⟩ := h; wp_walk using AutoSeq1.wpAny_loadPart' hl; exact ⟨_, rfl, h⟩
section
variable {X : Cx} {A : List Addr}
theorem op_catL : OpR X (binaryOp .Add) (fun x y H Q => ∃ l b xs zs, x = .ref l ∧ y = .ref b ∧ SqL X.K H l xs ∧ SqL X.K H b zs ∧ xs.length + zs.length ≤ sizeLine ∧ ∀ p, H p = none → Q (.ref p) (upd H p (.lst (xs ++ zs)))) := by
  intro pins s σ H x y v u Q I rx ry h
  obtain ⟨l, b, xs, zs, rfl, rfl, hH, hB, hz, q⟩ := h
  cases rx
  cases ry
  obtain ⟨its, r, ⟨⟨c1, d1, t1, sl1⟩, n, e, hc, hd, hs⟩, hl⟩ := I.list hH
  obtain ⟨its2, r2, ⟨⟨c2, d2, t2, sl2⟩, n2, e2, hc2, hd2, hs2⟩, hl2⟩ := I.list hB
  simp only at hc hd hs hc2 hd2 hs2
  subst hc hd hs hc2 hd2 hs2
  have z1 := r.length
  have z2 := r2.length
  refine concat_meets ⟨_, e, rfl⟩ ⟨_, e2, rfl⟩ noFill_list_add seq_list_add F.slot_list_add F.entry_list_add (F.args_list_add_2 _ _) (list_add_any l its.toArray n b its2.toArray n2 sl1 sl2 (by rw [List.size_toArray, List.size_toArray]; omega)) ⟨e, e2, ?_⟩
  have ea : its.toArray ++ its2.toArray = (its ++ its2).toArray := by simp
  rw [ea]
  exact ⟨.ref _, _, I.lnew (t' := s.toks) (r.append r2) (by rw [List.length_append]; omega), rfl, q _ I.fresh⟩
theorem op_repL : OpR X (binaryOp .Mult) (fun x y H Q => ∃ l k xs, x = .ref l ∧ y = .int k ∧ SqL X.K H l xs ∧ 0 ≤ k ∧ k ≤ 1000 ∧ xs.length ≤ 1000 ∧ ∀ p, H p = none → Q (.ref p) (upd H p (.lst (List.replicate k.toNat xs).flatten))) := by
  intro pins s σ H x y v u Q I rx ry h
  obtain ⟨l, k, xs, rfl, rfl, hH, h1, h2, h3, q⟩ := h
  cases rx
  obtain ⟨t, rfl⟩ := ry
  obtain ⟨its, r, ⟨⟨c1, d1, t1, sl1⟩, n, e, hc, hd, hs⟩, hl'⟩ := I.list hH
  simp only at hc hd hs
  subst hc hd hs
  have hl := r.length
  have hm : xs.length * k.toNat ≤ 1000000 := Nat.le_trans (Nat.mul_le_mul h3 (by omega : k.toNat ≤ 1000)) (by decide)
  have hz : xs.length * k.toNat ≤ sizeLine := by rw [sizeLine_eq]; omega
  have hlen : its.toArray.size * k.toNat ≤ sizeLine := by rw [List.size_toArray, ← hl]; exact hz
  have hcap : ¬ its.toArray.size * k.toNat > (2 ^ 63 - 1) / 8 := by
    have : (sizeLine : Nat) ≤ (2 ^ 63 - 1) / 8 := by decide
    omega
  have hfit : ¬ (!Builtin.List.listFitsIndex k) = true := by
    rw [fitsIndex_both (by omega) (by omega)]
    exact Bool.false_ne_true
  have hlong : ¬ Builtin.List.listTooLong (its.toArray.size * k.toNat) = true := by
    rw [notLongL hlen]
    exact Bool.false_ne_true
  have hnew : List.foldl (fun x1 x2 => x1 ++ x2) #[] (List.replicate (if its.toArray.isEmpty = true then 0 else k.toNat) its.toArray) = (List.replicate k.toNat its).flatten.toArray := by
    have f0 : ∀ m : Nat, List.foldl (fun x1 x2 => x1 ++ x2) #[] (List.replicate m its.toArray) = (List.replicate m its).flatten.toArray := fun m => by
      have := foldl_rep its m []
      rw [List.nil_append] at this
      exact this
    rw [f0]
    cases its with
    | nil => simp
    | cons a r' => rw [if_neg (by simp)]
  have hsz : (List.foldl (fun x1 x2 => x1 ++ x2) #[] (List.replicate (if its.toArray.isEmpty = true then 0 else k.toNat) its.toArray)).size ≤ sizeLine := by
    rw [hnew, List.size_toArray, PyProof.Rows.lm_len_rep_flat, ← hl, Nat.mul_comm]; exact hz
  refine wpAny_binaryOp_repeat_ref (T := "list") (U := "int") (by decide) ⟨_, e, rfl⟩ (fun s' => typeIs_int s' k t) noFill_list_mul F.fills_int_mul F.slot_int_rmul repeat_list F.slot_int_index.lookup
    (call_meets F.slot_int_rmul (typeIs_int s k t) F.entry_int_rmul (F.args_int_rmul_2 _ _) (int_rmul_list_any k t l its.toArray n sl1)
      ⟨e, rfl, ⟨_, e, rfl⟩, call_meets F.slot_list_mul ⟨_, e, rfl⟩ F.entry_list_mul (F.args_list_mul_2 _ _) (list_mul_any l its.toArray n k t sl1 hfit hcap hlong hsz) ⟨e, ?_⟩⟩)
  rw [hnew]
  exact ⟨.ref _, _, I.lnew (t' := s.toks) (r.rep k.toNat) (by rw [PyProof.Rows.lm_len_rep_flat, Nat.mul_comm]; exact hz), rfl, q _ I.fresh⟩


theorem opr_bin (op : Operator) : OpR X (binaryOp op) (rOp X.K A (binop op)) := by
  intro pins s σ H x y v u Q I rx ry h
  obtain ⟨hA, d, e, r, hd, he, hf, q⟩ := h
  cases op <;> cases hd <;> cases he <;> first
    | (simp [binop] at hf; done)
    | skip
  case Add.int.int i j =>
    cases hf
    exact op_add pins s σ H _ _ v u Q I rx ry ⟨i, j, rfl, rfl, q _ _ (Same.refl _) (.int _)⟩
  case Add.str.str i j =>
    obtain ⟨h1, rfl⟩ := ite_some (by simpa [binop] using hf)
    exact op_add_str pins s σ H _ _ v u Q I rx ry ⟨i, j, rfl, rfl, sm_le h1, q _ _ (Same.refl _) (.str _)⟩
  case Add.lst.lst a xs ds hx lx b ys es hy ly =>
    obtain ⟨h1, rfl⟩ := ite_some (by simpa [binop] using hf)
    refine op_catL pins s σ H _ _ v u Q I rx ry ⟨a, b, xs, ys, rfl, rfl, hx.sq, hy.sq, ?_, fun p np => ?_⟩
    · rw [lx.length, ly.length]; exact sm_le h1
    · exact q _ _ (same_upd np) (.lst (.inl ⟨.inl upd_same, hA.fresh np⟩) ((lx.same (same_upd np)).append (ly.same (same_upd np))))
  case Add.tup.tup a xs ds hx lx b ys es hy ly =>
    obtain ⟨h1, rfl⟩ := ite_some (by simpa [binop] using hf)
    refine op_catA pins s σ H _ _ v u Q I rx ry ⟨a, b, xs, ys, rfl, rfl, hx, hy, ?_, fun e => ?_, fun _ e => ?_, fun _ _ p np => ?_⟩
    · rw [lx.length, ly.length]; exact sm_le h1
    · subst e
      cases lx
      exact q _ _ (Same.refl _) (.tup hy ly)
    · subst e
      cases ly
      rw [List.append_nil] at q
      exact q _ _ (Same.refl _) (.tup hx lx)
    · exact q _ _ (same_upd np) (.tup (.inl (.inl upd_same)) ((lx.same (same_upd np)).append (ly.same (same_upd np))))
  case Sub.int.int i j =>
    cases hf
    exact op_sub pins s σ H _ _ v u Q I rx ry ⟨i, j, rfl, rfl, q _ _ (Same.refl _) (.int _)⟩
  case Mult.int.int i j =>
    obtain ⟨h1, rfl⟩ := ite_some (c := (i64 i || i64 j) = true) hf
    refine op_mul pins s σ H _ _ v u Q I rx ry ⟨i, j, rfl, rfl, ?_, q _ _ (Same.refl _) (.int _)⟩
    rw [Bool.or_eq_true] at h1
    rcases h1 with h1 | h1
    · exact .inl (i64_lt h1)
    · exact .inr (i64_lt h1)
  case Mult.lst.int a xs ds hx lx k =>
    obtain ⟨h1, rfl⟩ := ite_some (c := (decide (0 ≤ k) && decide (k ≤ 1000) && decide (ds.length ≤ 1000)) = true) hf
    obtain ⟨h1, h2, h3⟩ := and3 h1
    refine op_repL pins s σ H _ _ v u Q I rx ry ⟨a, k, xs, rfl, rfl, hx.sq, of_decide_eq_true h1, of_decide_eq_true h2, ?_, fun p np => ?_⟩
    · rw [lx.length]; exact of_decide_eq_true h3
    · exact q _ _ (same_upd np) (.lst (.inl ⟨.inl upd_same, hA.fresh np⟩) ((lx.same (same_upd np)).rep _))
  case Mod.int.int i j =>
    obtain ⟨h1, rfl⟩ := ite_some (c := 0 < j) hf
    exact op_mod pins s σ H _ _ v u Q I rx ry ⟨i, j, rfl, rfl, h1, q _ _ (Same.refl _) (.int _)⟩
  case Pow.int.int i j =>
    obtain ⟨h1, rfl⟩ := ite_some (c := (decide (0 ≤ j) && decide (j ≤ 1000000) && i64 i) = true) hf
    obtain ⟨h1, h2, h3⟩ := and3 h1
    exact op_pow pins s σ H _ _ v u Q I rx ry ⟨i, j, rfl, rfl, ⟨of_decide_eq_true h1, of_decide_eq_true h2, i64_nat h3⟩, q _ _ (Same.refl _) (.int _)⟩
  case LShift.int.int i j =>
    obtain ⟨h1, rfl⟩ := ite_some (c := (decide (0 ≤ j) && decide (j ≤ 1000000) && i64 i) = true) hf
    obtain ⟨h1, h2, h3⟩ := and3 h1
    exact op_shl pins s σ H _ _ v u Q I rx ry ⟨i, j, rfl, rfl, ⟨of_decide_eq_true h1, of_decide_eq_true h2, i64_nat h3⟩, q _ _ (Same.refl _) (.int _)⟩
  case RShift.int.int i j =>
    obtain ⟨h1, rfl⟩ := ite_some (c := 0 ≤ j) hf
    exact op_shr pins s σ H _ _ v u Q I rx ry ⟨i, j, rfl, rfl, h1, q _ _ (Same.refl _) (.int _)⟩
  case BitOr.int.int i j =>
    cases hf
    exact op_or pins s σ H _ _ v u Q I rx ry ⟨i, j, rfl, rfl, q _ _ (Same.refl _) (.int _)⟩
  case BitXor.int.int i j =>
    cases hf
    exact op_xor pins s σ H _ _ v u Q I rx ry ⟨i, j, rfl, rfl, q _ _ (Same.refl _) (.int _)⟩
  case BitAnd.int.int i j =>
    cases hf
    exact op_and pins s σ H _ _ v u Q I rx ry ⟨i, j, rfl, rfl, q _ _ (Same.refl _) (.int _)⟩
  case FloorDiv.int.int i j =>
    obtain ⟨h1, rfl⟩ := ite_some (c := (decide (0 < j) && decide (j < 1073741824)) = true) hf
    obtain ⟨h1, h2⟩ := and2 h1
    exact op_fdiv pins s σ H _ _ v u Q I rx ry ⟨i, j, rfl, rfl, ⟨of_decide_eq_true h1, of_decide_eq_true h2⟩, q _ _ (Same.refl _) (.int _)⟩
theorem unr_un (op : UnaryOp) (hop : op ≠ .Not) : UnR X (unaryOp op) (rUn X.K A (unop op)) := by
  intro pins s σ H x v Q I rx h
  obtain ⟨hA, d, r, hd, hf, q⟩ := h
  cases op <;> cases hd <;> first
    | (simp [unop] at hf; done)
    | skip
  case USub.int i =>
    cases hf
    exact un_neg pins s σ H _ v Q I rx ⟨i, rfl, q _ _ (Same.refl _) (.int _)⟩
  case Invert.int i =>
    cases hf
    exact un_inv pins s σ H _ v Q I rx ⟨i, rfl, q _ _ (Same.refl _) (.int _)⟩

/-! comparisons -/
def rCmp (K : PySem.W.Frag) (f : D → D → Option Bool) : R2 := fun x y H Q => ∃ A d e r, Rp K H A x d ∧ Rp K H A y e ∧ f d e = some r ∧ Q (.bl r) H
theorem okD_pl {d : D} (h : okD d = true) : d.plain = true := (and2 h).1
theorem okD_dep {d : D} (h : okD d = true) : d.depth ≤ 60 := of_decide_eq_true (and2 h).2
theorem cmp_eqD (hu : X.A.units + 70 < cLine) {pins : List (Addr × Obj)} {s : Shared} {σ : L2.St} {H : Hp} {x y : V} {v u : Value} {Q : VK} {A : List Addr} {d e : D} (I : Inv X pins σ H s) (rx : RelV x v) (ry : RelV y u)
    (hd : Rp X.K H A x d) (he : Rp X.K H A y e) (h : (okD d && okD e) = true) :
    (Q (.bl (PyData.eqv d e)) H → wpAny (model X.prog X.w) X.A (compareOp .Eq v u) (EP X pins σ Q) X.xe s) ∧ (Q (.bl (!PyData.eqv d e)) H → wpAny (model X.prog X.w) X.A (compareOp .NotEq v u) (EP X pins σ Q) X.xe s) := by
  obtain ⟨as, r1⟩ := Dp.reads I d x v (hd.dp (okD_pl (and2 h).1)) rx
  obtain ⟨bs, r2⟩ := Dp.reads I e y u (he.dp (okD_pl (and2 h).2)) ry
  have hz := okD_dep (and2 h).1
  have room : X.A.units + min d.depth e.depth < cLine := by
    have := Nat.min_le_left d.depth e.depth
    omega
  exact ⟨fun q => SeqAt.eq_plain r1 r2 (okD_pl (and2 h).1) (okD_pl (and2 h).2) room ⟨.bl _, H, I, rfl, q⟩, fun q => SeqAt.ne_plain r1 r2 (okD_pl (and2 h).1) (okD_pl (and2 h).2) room ⟨.bl _, H, I, rfl, q⟩⟩
theorem cmp_in (hu : X.A.units + 70 < cLine) {pins : List (Addr × Obj)} {s : Shared} {σ : L2.St} {H : Hp} {x y : V} {v u : Value} {Q : VK} {A : List Addr} {d e : D} {ds : List D} (I : Inv X pins σ H s) (rx : RelV x v) (ry : RelV y u)
    (hd : Rp X.K H A x d) (he : Rp X.K H A y e) (ee : e = .list ds ∨ e = .tuple ds) (h : (okD d && okD e) = true) :
    (Q (.bl (inD d ds)) H → wpAny (model X.prog X.w) X.A (compareOp .In v u) (EP X pins σ Q) X.xe s) ∧ (Q (.bl (!inD d ds)) H → wpAny (model X.prog X.w) X.A (compareOp .NotIn v u) (EP X pins σ Q) X.xe s) := by
  obtain ⟨as, r1⟩ := Dp.reads I d x v (hd.dp (okD_pl (and2 h).1)) rx
  obtain ⟨bs, r2⟩ := Dp.reads I e y u (he.dp (okD_pl (and2 h).2)) ry
  have l1 := okD_pl (and2 h).1
  have l2 := okD_pl (and2 h).2
  have hz := okD_dep (and2 h).1
  have room : X.A.units + 1 + min (PyData.depthAll ds) d.depth < cLine := by
    have := Nat.min_le_right (PyData.depthAll ds) d.depth
    omega
  rcases ee with rfl | rfl
  · have l3 : PyData.plainAll ds = true := by simpa [PyData.plain] using l2
    exact ⟨fun q => SeqAt.in_list_data r2 r1 l3 l1 room ⟨.bl _, H, I, rfl, q⟩, fun q => SeqAt.notIn_list_data r2 r1 l3 l1 room ⟨.bl _, H, I, rfl, q⟩⟩
  · have l3 : PyData.plainAll ds = true := by simpa [PyData.plain] using l2
    exact ⟨fun q => SeqAt.in_tuple_data r2 r1 l3 l1 room ⟨.bl _, H, I, rfl, q⟩, fun q => SeqAt.notIn_tuple_data r2 r1 l3 l1 room ⟨.bl _, H, I, rfl, q⟩⟩
theorem non_iff {K : PySem.W.Frag} {H : Hp} {A : List Addr} {x : V} {d : D} (h : Rp K H A x d) : decide (x = .non) = isN d := by
  cases h <;> simp [isN]
theorem one_sign {c : Str} (h : (c.length == 1) = true) : ∃ k, c = ⟨#[k]⟩ := by
  obtain ⟨⟨l⟩⟩ := c
  have h' : l.length = 1 := by
    have := beq_iff_eq.mp h
    simpa [Str.length] using this
  match l, h' with
  | [k], _ => exact ⟨k, rfl⟩
theorem key_V {K : PySem.W.Frag} {H : Hp} {A : List Addr} {v : V} {d : D} {k : Key} (h : Rp K H A v d) (e : keyO d = some k) : v = kV k := by
  cases d with
  | int i => cases h; cases e; rfl
  | str i => cases h; cases e; rfl
  | _ => cases e
theorem get_isSome {K : PySem.W.Frag} {H : Hp} {A : List Addr} {kvs : List (Key × V)} {ds : List D} {k : Key} (h : RpL K H A (kvs.map (·.2)) ds) : (getE (zipE kvs ds) k).isSome = (valV kvs k).isSome := by
  obtain ⟨h1, h2⟩ := get_zip (k := k) h
  cases e : getE (zipE kvs ds) k with
  | none => rw [h2 e]; rfl
  | some d => obtain ⟨v, q, _⟩ := h1 d e; rw [q]; rfl
theorem opr_cmp (hu : X.A.units + 70 < cLine) (op : CmpOp) : OpR X (compareOp op) (rCmp X.K (cmpop op)) := by
  intro pins s σ H x y v u Q I rx ry h
  obtain ⟨A, d, e, r, hd, he, hf, q⟩ := h
  cases op
  case Eq =>
    by_cases h2 : (∃ i j, d = .int i ∧ e = .int j) ∨ ∃ i j, d = .str i ∧ e = .str j
    · rcases h2 with ⟨i, j, rfl, rfl⟩ | ⟨i, j, rfl, rfl⟩
      · cases hd; cases he; cases hf
        exact op_eq pins s σ H _ _ v u Q I rx ry ⟨rfl, by rw [dec_int]; exact q⟩
      · cases hd; cases he; cases hf
        exact op_eq pins s σ H _ _ v u Q I rx ry ⟨rfl, by rw [dec_str]; exact q⟩
    · have hf' : (if (okD d && okD e) = true then some (PyData.eqv d e) else none) = some r := by
        rw [← hf]
        unfold cmpop
        split <;> simp_all
      obtain ⟨h1, rfl⟩ := ite_some hf'
      exact (cmp_eqD hu I rx ry hd he h1).1 q
  case NotEq =>
    by_cases h2 : (∃ i j, d = .int i ∧ e = .int j) ∨ ∃ i j, d = .str i ∧ e = .str j
    · rcases h2 with ⟨i, j, rfl, rfl⟩ | ⟨i, j, rfl, rfl⟩
      · cases hd; cases he; cases hf
        exact op_ne pins s σ H _ _ v u Q I rx ry ⟨rfl, by rw [dec_int]; exact q⟩
      · cases hd; cases he; cases hf
        exact op_ne pins s σ H _ _ v u Q I rx ry ⟨rfl, by rw [dec_str]; exact q⟩
    · have hf' : (if (okD d && okD e) = true then some (!PyData.eqv d e) else none) = some r := by
        rw [← hf]
        unfold cmpop
        split <;> simp_all
      obtain ⟨h1, rfl⟩ := ite_some hf'
      exact (cmp_eqD hu I rx ry hd he h1).2 q
  case Lt =>
    cases hd <;> cases he <;> first
      | (simp [cmpop] at hf; done)
      | skip
    cases hf
    exact op_lt pins s σ H _ _ v u Q I rx ry ⟨_, _, rfl, rfl, q⟩
  case LtE =>
    cases hd <;> cases he <;> first
      | (simp [cmpop] at hf; done)
      | skip
    cases hf
    exact op_le pins s σ H _ _ v u Q I rx ry ⟨_, _, rfl, rfl, q⟩
  case Gt =>
    cases hd <;> cases he <;> first
      | (simp [cmpop] at hf; done)
      | skip
    cases hf
    exact op_gt pins s σ H _ _ v u Q I rx ry ⟨_, _, rfl, rfl, q⟩
  case GtE =>
    cases hd <;> cases he <;> first
      | (simp [cmpop] at hf; done)
      | skip
    cases hf
    exact op_ge pins s σ H _ _ v u Q I rx ry ⟨_, _, rfl, rfl, q⟩
  case Is =>
    cases he <;> first
      | (simp [cmpop] at hf; done)
      | skip
    case bl b =>
      cases hd <;> first
        | (simp [cmpop] at hf; done)
        | skip
      cases hf
      exact op_is_bl pins s σ H _ _ v u Q I rx ry ⟨_, _, rfl, rfl, q⟩
    case non =>
    have hf : some (isN d) = some r := by rw [← hf]; cases d <;> rfl
    cases hf
    exact op_isN pins s σ H _ _ v u Q I rx ry ⟨rfl, by rw [non_iff hd]; exact q⟩
  case IsNot =>
    cases he <;> first
      | (simp [cmpop] at hf; done)
      | skip
    case bl b =>
      cases hd <;> first
        | (simp [cmpop] at hf; done)
        | skip
      cases hf
      exact op_isnot_bl pins s σ H _ _ v u Q I rx ry ⟨_, _, rfl, rfl, q⟩
    case non =>
    have hf : some (!isN d) = some r := by rw [← hf]; cases d <;> rfl
    cases hf
    exact op_notN pins s σ H _ _ v u Q I rx ry ⟨rfl, by rw [non_iff hd]; exact q⟩
  case In =>
    have hd' := hd
    have he' := he
    cases he with
    | @lst a xs ds h1 h2 =>
      obtain ⟨h1, rfl⟩ := ite_some (c := (okD d && okD (.list ds)) = true) (a := inD d ds) (by rw [← hf]; cases d <;> simp [cmpop])
      exact (cmp_in hu I rx ry hd' he' (.inl rfl) h1).1 q
    | @tup a xs ds h1 h2 =>
      obtain ⟨h1, rfl⟩ := ite_some (c := (okD d && okD (.tuple ds)) = true) (a := inD d ds) (by rw [← hf]; cases d <;> simp [cmpop])
      exact (cmp_in hu I rx ry hd' he' (.inr rfl) h1).1 q
    | str z =>
      cases hd <;> first
        | (simp [cmpop] at hf; done)
        | skip
      rename_i c
      obtain ⟨h1, rfl⟩ := ite_some (c := (c.length == 1) = true) hf
      obtain ⟨k, rfl⟩ := one_sign h1
      exact op_in_sign pins s σ H _ _ v u Q I rx ry ⟨k, z, rfl, rfl, q⟩
    | @dic a kvs ds es h1 h2 h3 h4 =>
      subst h4
      obtain ⟨k, hk, rfl⟩ := Option.map_eq_some_iff.mp (show (keyO d).map (fun k => (getE (zipE kvs ds) k).isSome) = some r by rw [← hf]; cases d <;> simp [cmpop, zipE])
      have hx := key_V hd hk
      subst hx
      cases ry
      exact d_in (X := X) (by omega) I (.inl ⟨kvs, k, h1, rfl, rfl⟩) rx fun s' I' => ⟨.bl (valV kvs k).isSome, H, I', rfl, by rw [← get_isSome h3]; exact q⟩
    | _ => cases hd <;> simp [cmpop] at hf
  case NotIn =>
    have hd' := hd
    have he' := he
    cases he with
    | @lst a xs ds h1 h2 =>
      obtain ⟨h1, rfl⟩ := ite_some (c := (okD d && okD (.list ds)) = true) (a := !inD d ds) (by rw [← hf]; cases d <;> simp [cmpop])
      exact (cmp_in hu I rx ry hd' he' (.inl rfl) h1).2 q
    | @tup a xs ds h1 h2 =>
      obtain ⟨h1, rfl⟩ := ite_some (c := (okD d && okD (.tuple ds)) = true) (a := !inD d ds) (by rw [← hf]; cases d <;> simp [cmpop])
      exact (cmp_in hu I rx ry hd' he' (.inr rfl) h1).2 q
    | str z =>
      cases hd <;> first
        | (simp [cmpop] at hf; done)
        | skip
      rename_i c
      obtain ⟨h1, rfl⟩ := ite_some (c := (c.length == 1) = true) hf
      obtain ⟨k, rfl⟩ := one_sign h1
      exact op_notIn_sign pins s σ H _ _ v u Q I rx ry ⟨k, z, rfl, rfl, q⟩
    | @dic a kvs ds es h1 h2 h3 h4 =>
      subst h4
      obtain ⟨k, hk, rfl⟩ := Option.map_eq_some_iff.mp (show (keyO d).map (fun k => !(getE (zipE kvs ds) k).isSome) = some r by rw [← hf]; cases d <;> simp [cmpop, zipE])
      have hx := key_V hd hk
      subst hx
      cases ry
      exact d_notIn (X := X) (by omega) I (.inl ⟨kvs, k, h1, rfl, rfl⟩) rx fun s' I' => ⟨.bl (!(valV kvs k).isSome), H, I', rfl, by rw [← get_isSome h3]; exact q⟩
    | _ => cases hd <;> simp [cmpop] at hf
end
end Pv

end
section
namespace Pv
open PySem PySem.Spec PyProof.Rows L2

/-! ### sorted(tuple), over data -/
section
variable {prog : Program} {w : World} {A : Around} {E : Value → Shared → Prop} {s : Shared}
theorem collect_tup {l : Addr} {vs : List Value} {Q : List Value → Shared → Prop} (hl : s.heap.IsTuple l vs.toArray) (hz : vs.length ≤ sizeLine)
    (h : Q vs { s with heap := (s.heap.push (seqObj "list" #[] 0)).update s.heap.objs.size (Obj.mapSeq (· ++ vs.toArray)) }) : wpAny (model prog w) A (collect (.ref l)) Q E s := by
  obtain ⟨o, ho, hc, n, hd⟩ := id hl
  have ho' : (s.heap.push (seqObj "list" #[] 0)).get? l = some o := Heap.get?_push_of_some _ ho
  have hn : (s.heap.push (seqObj "list" #[] 0)).get? s.heap.objs.size = some (seqObj "list" #[] 0) := Heap.get?_push_size _ rfl
  unfold collect
  refine wpAny_bind (wpAny_runValue (codeAny_builtin entry_proto_collect' (show wpAny _ _ (do again (.builtin "list.__iadd__" ⟨[← newList [], .ref l], []⟩)) _ _ s from
    wpAny_bind (wpAny_newList (wpAny_pure ⟨Code.quiet_builtin _ (by decide +kernel), codeAny_builtin entry_list_iadd' ?_⟩)))))
  show wpAny _ _ (Builtin.List.listExtendWith _ _ _) _ _ { s with heap := s.heap.push (seqObj "list" #[] 0) }
  unfold Builtin.List.listExtendWith
  refine wpAny_bind (wpAny_typeOf (T := "tuple") ⟨o, ho', hc⟩ (wp_if_pos ?_ (wpAny_bind (listItems_at ho' hd (wpAny_bind (listItems_at (xs := #[]) (n := 0) hn rfl ?_))))))
  · have : (Value.type "tuple" == Value.type "tuple") = true := rfl
    rw [this]; simp
  refine wp_if_neg (by simp) (wpAny_bind (listUpdate_at (xs := #[]) (n := 0) hn rfl (wpAny_pure ?_) (Nat.zero_le _) (by simp; omega)))
  show wpAny (model prog w) A (do
      let o ← load s.heap.objs.size
      match o.data with
      | .seq xs _ => pure xs.toList
      | _ => unsupported "internal:collect") Q E _
  refine wpAny_bind (wpAny_load (get?_update_seq hn _) (show wpAny _ _ (pure ((#[] : Array Value) ++ vs.toArray).toList) Q E _ from ?_))
  have e : ((#[] : Array Value) ++ vs.toArray).toList = vs := by simp
  rw [e]
  exact wpAny_pure h
open PySem.W in
theorem sorted_tup {β : Type} {vs : List Value} {bs : List β} {enc : β → PyData} {R : Value → β → Prop} {l : Addr} {Q : Value → Shared → Prop} (hl : s.heap.IsTuple l vs.toArray) (e : EachIs R vs bs) (er : EachIs (fun v b => ∃ as, Reads s.heap v (enc b) as) vs bs) (hal : AllAlike (bs.map enc)) (hk : Sortable (bs.map enc)) (hL : bs.length ≤ sizeLine)
    (hu : ∀ b, b ∈ bs → A.units + 2 + (enc b).depth < cLine) (h : ∀ out, out.length = bs.length → EachIs R out (bs.mergeSort (dataLe false enc)) → Q (.ref (s.heap.objs.size + 1)) { s with heap := sortedAll s.heap vs (List.toArray out) }) :
    wpAny (model prog w) A (call (.builtin "sorted") [.ref l]) Q E s := by
  have er' : EachIs (fun v b => ∃ as, Reads (sortingHeap (copyHeap s.heap vs) (s.heap.objs.size + 1) vs) v (enc b) as) vs bs := er.mono fun _ _ ⟨as, r⟩ => ⟨as, PyProof.Rows.Reads.keeps (fun _ _ => sorting_copy_old) r⟩
  have hz : vs.length ≤ sizeLine := by rw [e.length]; exact hL
  have S := SortsAt.data (prog := prog) (w := w) (A := A.in1.in1) (s := { s with heap := sortingHeap (copyHeap s.heap vs) (s.heap.objs.size + 1) vs }) (each_map (R := fun v d => ∃ as, Reads (sortingHeap (copyHeap s.heap vs) (s.heap.objs.size + 1) vs) v d as) enc er') hal hk (bound_map hu)
  refine PyProof.Rows.call_function_entry_kw kind_sorted plain_sorted entry_sorted (args_sorted1 _) ?_
  unfold Builtin.«sorted»
  refine wpAny_bind (m := checkCount "sorted" 1 1 _) (wpAny_pure (wpAny_bind (collect_tup hl hz (wpAny_bind (wpAny_newList ?_ hz)))))
  have hsz : ((s.heap.push (seqObj "list" #[] 0)).update s.heap.objs.size (Obj.mapSeq (· ++ vs.toArray))).objs.size = s.heap.objs.size + 1 := by rw [Heap.size_update, size_push']
  show wpAny _ _ _ _ _ { s with heap := copyHeap s.heap vs }
  rw [hsz]
  refine wpAny_bind (wpAny_holding (wpAny_call_entry_kw slot_list_sort ⟨_, copyHeap_at s.heap vs, rfl⟩ entry_list_sort ?_ (args_list_sort _)))
  refine list_sort_vals (s := { s with heap := copyHeap s.heap vs }) (copyHeap_at s.heap vs) S hz ⟨_, rfl, wpAny_pure ⟨_, rfl, ?_⟩⟩
  exact h _ (by rw [sortVals_length false rfl]; exact e.length) (sortVals_data false e er' hal)
end
end Pv

end
section
namespace Pv
open PySem PySem.Spec PyProof.Rows L2

/-! ### a value that is only looked at: its root may be one that is owned -/
def RpB (K : PySem.W.Frag) (H : Hp) (A : List Addr) (v : V) : D → Prop
  | .list ds => ∃ a xs, v = .ref a ∧ SqL K H a xs ∧ RpL K H A xs ds
  | .dict es => ∃ a kvs ds, v = .ref a ∧ Rd H a (.dK kvs) ∧ RpL K H A (kvs.map (·.2)) ds ∧ es = (kvs.map fun p => keyD p.1).zip ds
  | d => Rp K H A v d
inductive RpBs (K : PySem.W.Frag) (H : Hp) (A : List Addr) : List V → List D → Prop
  | nil : RpBs K H A [] []
  | cons {v : V} {vs : List V} {d : D} {ds : List D} : RpB K H A v d → RpBs K H A vs ds → RpBs K H A (v :: vs) (d :: ds)
section
variable {K : PySem.W.Frag} {H H' : Hp} {A A' : List Addr}
theorem Rp.b {v : V} {d : D} (h : Rp K H A v d) : RpB K H A v d := by
  cases h with
  | lst h r => exact ⟨_, _, rfl, h.sq, r⟩
  | dic h n r e => exact ⟨_, _, _, rfl, h, r, e⟩
  | non => exact .non
  | bl b => exact .bl b
  | int i => exact .int i
  | str x => exact .str x
  | tup h r => exact .tup h r
theorem RpB.same (e : Same H H') {v : V} {d : D} (h : RpB K H A v d) : RpB K H' A v d := by
  cases d with
  | list ds => obtain ⟨a, xs, e1, e2, e3⟩ := h; exact ⟨a, xs, e1, e.seq e2, e3.same e⟩
  | dict es => obtain ⟨a, kvs, ds, e1, e2, e3, e4⟩ := h; exact ⟨a, kvs, ds, e1, Rd_same e e2, e3.same e, e4⟩
  | none => exact Rp.same e h
  | bool _ => exact Rp.same e h
  | int _ => exact Rp.same e h
  | str _ => exact Rp.same e h
  | tuple _ => exact Rp.same e h
theorem RpBs.same (e : Same H H') : ∀ {v : List V} {d : List D}, RpBs K H A v d → RpBs K H' A v d
  | _, _, .nil => .nil
  | _, _, .cons h r => .cons (h.same e) (RpBs.same e r)
theorem RpBs.one {vs : List V} {d : D} (h : RpBs K H A vs [d]) : ∃ v, vs = [v] ∧ RpB K H A v d := by
  cases h with
  | cons h r => cases r; exact ⟨_, rfl, h⟩
theorem RpBs.two {vs : List V} {d e : D} (h : RpBs K H A vs [d, e]) : ∃ v u, vs = [v, u] ∧ RpB K H A v d ∧ RpB K H A u e := by
  cases h with
  | cons h r => cases r with | cons h' r => cases r; exact ⟨_, _, rfl, h, h'⟩
theorem RpB.int {v : V} {i : Int} (h : RpB K H A v (.int i)) : v = .int i := by cases (show Rp K H A v (.int i) from h); rfl
theorem RpB.bool {v : V} {i : Bool} (h : RpB K H A v (.bool i)) : v = .bl i := by cases (show Rp K H A v (.bool i) from h); rfl
theorem RpB.str {v : V} {i : Str} (h : RpB K H A v (.str i)) : v = .str i := by cases (show Rp K H A v (.str i) from h); rfl
theorem RpB.tuple {v : V} {ds : List D} (h : RpB K H A v (.tuple ds)) : ∃ a xs, v = .ref a ∧ SqT K H a xs ∧ RpL K H A xs ds := by cases (show Rp K H A v (.tuple ds) from h) with | tup h' r => exact ⟨_, _, rfl, h', r⟩
end

/-! ### indices, slices -/
def ixop : D → D → Option D
  | .list xs, .int i => atI xs i
  | .tuple xs, .int i => atI xs i
  | .str z, .int i => if sm z.length then (atI z.cps.toList i).map fun c => .str ⟨#[c]⟩ else none
  | .dict es, k => (keyO k).bind (getE es)
  | _, _ => none
def cutL (xs : List D) (lo hi : Option Int) : List D := (xs.drop (HT.sIx xs.length 0 lo)).take (HT.sIx xs.length xs.length hi - HT.sIx xs.length 0 lo)
def slop : D → Option Int → Option Int → Option D
  | .list xs, lo, hi => some (.list (cutL xs lo hi))
  | .tuple xs, lo, hi => some (.tuple (cutL xs lo hi))
  | .str z, lo, hi => if sm z.length then some (.str (cutS z lo hi)) else none
  | _, _, _ => none
section
variable {X : Cx} {A : List Addr}
def rIxB (K : PySem.W.Frag) (A : List Addr) : R2 := fun x y H Q => ∃ d e r, RpB K H A x d ∧ RpB K H A y e ∧ ixop d e = some r ∧ ∀ v, Rp K H A v r → Q v H
theorem RpL.at {K : PySem.W.Frag} {H : Hp} {xs : List V} {ds : List D} {i : Int} {r : D} (h : RpL K H A xs ds) (e : atI ds i = some r) : ∃ v, atI xs i = some v ∧ Rp K H A v r := by
  unfold atI at e ⊢
  rw [h.length]
  cases q : ixN ds.length i with
  | none => rw [q] at e; cases e
  | some j =>
    rw [q] at e
    exact h.get' e
/-- d[k], the key there -/
theorem ix_dict (hu : X.A.units + 1 < cLine) : IxR X (fun x y H Q => ∃ a kvs k v, x = .ref a ∧ Rd H a (.dK kvs) ∧ y = kV k ∧ valV kvs k = some v ∧ Q v H) := by
  intro value slice pins s σ H x y v u Q I rx ry h hs
  obtain ⟨a, kvs, k, w, rfl, e, rfl, hv, q⟩ := h
  cases rx
  have g : DGet H a (kV k) (some w) := .inl ⟨kvs, k, e, rfl, hv.symm⟩
  have hT := dict_typeIs I g
  unfold subscriptTail
  refine wpAny_bind ?_
  rw [getitemInPython_of_ne hT.not_modules]
  refine wpAny_bind (wpAny_specialOf hT PySem.F.slot_dict_getitem.lookup ?_)
  have h2 : wpAny (model X.prog X.w) X.A (getItem (.ref a) u) (EP X pins σ Q) X.xe s := d_getItem hu I g ry fun w' s3 I3 rw' => ⟨w, H, I3, rw', q⟩
  have fin : wpAny (model X.prog X.w) X.A (subscripted slice false (.ref a) u) (fun r s₃ => wpAny (model X.prog X.w) X.A (letTemporaryGo value (.ref a) r >>= fun _ => pure r) (EP X pins σ Q) X.xe s₃) X.xe s := by
    rw [hs]
    exact wpAny_operating (wpAny_mono h2 (fun r s₃ h₃ => wpAny_bind (wpAny_letTemporaryGo (wpAny_pure h₃))) fun _ _ x => x)
  first
    | exact wpAny_pure (wpAny_bind fin)
    | exact wpAny_bind (wpAny_pure (wpAny_bind fin))
    | exact wpAny_bind fin
theorem ixr_dyn (hu : X.A.units + 70 < cLine) : IxR X (rIxB X.K A) := by
  intro value slice pins s σ H x y v u Q I rx ry h hs
  obtain ⟨d, e, r, hd, he, hf, q⟩ := h
  by_cases hdic : ∃ es, d = .dict es
  · obtain ⟨es, rfl⟩ := hdic
    obtain ⟨a, kvs, ds, rfl, hx, hr, rfl⟩ := hd
    have hf : (keyO e).bind (getE (zipE kvs ds)) = some r := hf
    cases e with
    | int i =>
      obtain ⟨w, e1, rw'⟩ := (get_zip (k := .inl i) hr).1 r hf
      exact ix_dict (by omega) value slice pins s σ H _ y v u Q I rx ry ⟨a, kvs, .inl i, w, rfl, hx, he.int, e1, q _ rw'⟩ hs
    | str i =>
      obtain ⟨w, e1, rw'⟩ := (get_zip (k := .inr i) hr).1 r hf
      exact ix_dict (by omega) value slice pins s σ H _ y v u Q I rx ry ⟨a, kvs, .inr i, w, rfl, hx, he.str, e1, q _ rw'⟩ hs
    | _ => cases hf
  cases d <;> first
    | exact absurd ⟨_, rfl⟩ hdic
    | skip
  all_goals cases e <;> first
    | (simp [ixop] at hf; done)
    | skip
  case str.int z i =>
    obtain ⟨h1, h2⟩ := (show sm z.length = true ∧ (atI z.cps.toList i).map (fun c => PyData.str ⟨#[c]⟩) = some r by
      have hf' : (if sm z.length = true then (atI z.cps.toList i).map fun c => PyData.str ⟨#[c]⟩ else none) = some r := hf
      by_cases hz : sm z.length = true
      · rw [if_pos hz] at hf'; exact ⟨hz, hf'⟩
      · rw [if_neg hz] at hf'; cases hf')
    obtain ⟨c, e1, rfl⟩ := Option.map_eq_some_iff.mp h2
    exact ix_str value slice pins s σ H x y v u Q I rx ry ⟨z, i, c, hd.str, he.int, sm_le h1, e1, q _ (.str _)⟩ hs
  case list.int ds i =>
    obtain ⟨a, xs, rfl, hx, hr⟩ := hd
    obtain ⟨w, e1, rw'⟩ := hr.at (show atI ds i = some r from hf)
    exact ix_list value slice pins s σ H _ y v u Q I rx ry ⟨a, xs, i, w, rfl, he.int, hx, e1, q _ rw'⟩ hs
  case tuple.int ds i =>
    obtain ⟨a, xs, rfl, hx, hr⟩ := hd.tuple
    obtain ⟨w, e1, rw'⟩ := hr.at (show atI ds i = some r from hf)
    exact ix_tup value slice pins s σ H _ y v u Q I rx ry ⟨a, xs, i, w, rfl, he.int, hx, e1, q _ rw'⟩ hs
theorem RpL.cut {K : PySem.W.Frag} {H : Hp} {xs : List V} {ds : List D} (h : RpL K H A xs ds) (lo hi : Option Int) : RpL K H A (cutV xs lo hi) (cutL ds lo hi) := by
  unfold cutV cutL
  rw [h.length]
  exact (h.drop _).take _
def rSlB (K : PySem.W.Frag) (A : List Addr) : V → Option Int → Option Int → Hp → VK → Prop := fun x lo hi H Q => AOk H A ∧ ∃ d r, RpB K H A x d ∧ slop d lo hi = some r ∧ ∀ v H', Same H H' → Rp K H' A v r → Q v H'
theorem sIx_full {n : Nat} {lo hi : Option Int} {α : Type} (xs : List α) (hn : xs.length = n) (h : HT.sIx n 0 lo = 0 ∧ HT.sIx n n hi = n) : (xs.drop (HT.sIx xs.length 0 lo)).take (HT.sIx xs.length xs.length hi - HT.sIx xs.length 0 lo) = xs := by
  rw [hn, h.1, h.2, List.drop_zero, ← hn, Nat.sub_zero, List.take_length]
theorem slr_dyn : SlR X (rSlB X.K A) := by
  intro pins s σ H x v vl vu lo hi sl Q I rx hs pl pu h
  obtain ⟨hA, d, r, hd, hf, q⟩ := h
  cases d <;> first
    | (simp [slop] at hf; done)
    | skip
  case str z =>
    obtain ⟨h1, rfl⟩ := ite_some (c := sm z.length = true) hf
    exact sl_str pins s σ H x v vl vu lo hi sl Q I rx hs pl pu ⟨z, hd.str, sm_le h1, q _ _ (Same.refl _) (.str _)⟩
  case list ds =>
    cases hf
    obtain ⟨a, xs, rfl, hx, hr⟩ := hd
    exact sl_list pins s σ H _ v vl vu lo hi sl Q I rx hs pl pu ⟨a, xs, rfl, hx, fun p np => q _ _ (same_upd np) (.lst (.inl ⟨.inl upd_same, hA.fresh np⟩) ((hr.cut lo hi).same (same_upd np)))⟩
  case tuple ds =>
    cases hf
    obtain ⟨a, xs, rfl, hx, hr⟩ := hd.tuple
    refine sl_tupA pins s σ H _ v vl vu lo hi sl Q I rx hs pl pu ⟨a, xs, rfl, hx, fun e => ?_, fun _ p np => q _ _ (same_upd np) (.tup (.inl (.inl upd_same)) ((hr.cut lo hi).same (same_upd np)))⟩
    have e2 : cutL ds lo hi = ds := sIx_full ds hr.length.symm e
    rw [e2] at q
    exact q _ _ (Same.refl _) (.tup hx hr)
end

/-! ### built-in calls -/
def intsOf : List D → Option (List Int)
  | [] => some []
  | .int i :: r => (intsOf r).map (i :: ·)
  | _ :: _ => none
def alikeB (xs : List D) : Bool := xs.all fun x => xs.all fun y => PySem.W.alike x y
def plainB (xs : List D) : Bool := xs.all fun x => x.plain && decide (x.depth ≤ 60)
def sortB (xs : List D) : Bool := xs.all (fun d => match d with | .tuple (_ :: _) => true | _ => false) || xs.all (fun d => match d with | .tuple _ => false | .none => false | _ => true)
def noNone (xs : List D) : Bool := xs.all fun d => match d with | .none => false | _ => true
def sortD (xs : List D) : List D := xs.mergeSort fun a b => !PySem.W.dataLt b a
inductive Bn where
  | len | int | str | list | tuple | sum | max | min | sorted
def bltop : Bn → List D → Option D
  | .len, [.list xs] => some (.int xs.length)
  | .len, [.tuple xs] => some (.int xs.length)
  | .len, [.str z] => if sm z.length then some (.int z.length) else none
  | .len, [.dict es] => some (.int es.length)
  | .int, [.int i] => some (.int i)
  | .int, [.bool b] => some (.int (if b then 1 else 0))
  | .int, [.str z] => if decide (z.length ≤ 600) then (PySem.intText? z).map .int else none
  | .str, [.int i] => if decide (i.natAbs.log2 < 1920) then some (.str (toString i)) else none
  | .list, [.list xs] => some (.list xs)
  | .list, [.tuple xs] => some (.list xs)
  | .tuple, [.list xs] => some (.tuple xs)
  | .tuple, [.tuple xs] => some (.tuple xs)
  | .sum, [.list xs] => (intsOf xs).map fun ns => .int ns.sum
  | .max, [.int i, .int j] => some (.int (if j > i then j else i))
  | .min, [.int i, .int j] => some (.int (if j < i then j else i))
  | .max, [.list (x :: xs)] => if alikeB (x :: xs) && plainB (x :: xs) && noNone (x :: xs) then some (PySem.W.maxD x xs) else none
  | .min, [.list (x :: xs)] => if alikeB (x :: xs) && plainB (x :: xs) && noNone (x :: xs) then some (PySem.W.minD x xs) else none
  | .max, [.tuple (x :: xs)] => if alikeB (x :: xs) && plainB (x :: xs) && noNone (x :: xs) then some (PySem.W.maxD x xs) else none
  | .min, [.tuple (x :: xs)] => if alikeB (x :: xs) && plainB (x :: xs) && noNone (x :: xs) then some (PySem.W.minD x xs) else none
  | .sorted, [.list xs] => if alikeB xs && plainB xs && sortB xs then some (.list (sortD xs)) else none
  | .sorted, [.tuple xs] => if alikeB xs && plainB xs && sortB xs then some (.list (sortD xs)) else none
  | _, _ => none
theorem intsOf_eq : ∀ {xs : List D} {ns : List Int}, intsOf xs = some ns → xs = ns.map PyData.int
  | [], _, h => by cases h; rfl
  | .int i :: r, ns, h => by
    unfold intsOf at h
    obtain ⟨ms, e, rfl⟩ := Option.map_eq_some_iff.mp h
    rw [intsOf_eq e]
    rfl
  | .none :: _, _, h => by cases h
  | .bool _ :: _, _, h => by cases h
  | .str _ :: _, _, h => by cases h
  | .list _ :: _, _, h => by cases h
  | .tuple _ :: _, _, h => by cases h
  | .dict _ :: _, _, h => by cases h

def Bn.val : Bn → Value
  | .len => .builtin "len" | .int => .type "int" | .str => .type "str" | .list => .type "list" | .tuple => .type "tuple"
  | .sum => .builtin "sum" | .max => .builtin "max" | .min => .builtin "min" | .sorted => .builtin "sorted"
def rBn (K : PySem.W.Frag) (A : List Addr) (b : Bn) : List V → Hp → VK → Prop := fun vs H Q => AOk H A ∧ ∃ ds r, RpBs K H A vs ds ∧ bltop b ds = some r ∧ ∀ v H', Same H H' → Rp K H' A v r → Q v H'

theorem alike_all {xs : List D} (h : alikeB xs = true) : PySem.W.AllAlike xs := fun d hd d' hd' => by
  unfold alikeB at h
  rw [List.all_eq_true] at h
  have h1 := h d hd
  rw [List.all_eq_true] at h1
  exact h1 d' hd'
theorem plain_all {xs : List D} (h : plainB xs = true) : ∀ x ∈ xs, x.plain = true ∧ x.depth ≤ 60 := fun x hx => by
  unfold plainB at h
  rw [List.all_eq_true] at h
  exact ⟨(and2 (h x hx)).1, of_decide_eq_true (and2 (h x hx)).2⟩
theorem plainAll_of : ∀ {xs : List D}, (∀ x ∈ xs, x.plain = true) → PyData.plainAll xs = true
  | [], _ => rfl
  | x :: xs, h => by
    simp only [PyData.plainAll, Bool.and_eq_true]
    exact ⟨h x (by simp), plainAll_of fun y hy => h y (by simp [hy])⟩
theorem depthAll_of : ∀ {xs : List D}, (∀ x ∈ xs, x.depth ≤ 60) → PyData.depthAll xs ≤ 60
  | [], _ => by simp [PyData.depthAll]
  | x :: xs, h => by
    have h1 := h x (by simp)
    have h2 := depthAll_of (xs := xs) fun y hy => h y (by simp [hy])
    simp only [PyData.depthAll]
    omega
theorem sort_all {xs : List D} (h : sortB xs = true) : PySem.W.Sortable xs := by
  unfold sortB at h
  rw [Bool.or_eq_true, List.all_eq_true, List.all_eq_true] at h
  rcases h with h | h
  · refine .inl fun d hd => ?_
    have := h d hd
    split at this
    · exact ⟨_, _, rfl⟩
    · cases this
  · refine .inr fun d hd => ?_
    have := h d hd
    split at this
    · cases this
    · cases this
    · rename_i h1 h2
      exact ⟨h2, h1⟩
theorem none_all {xs : List D} (h : noNone xs = true) : ∀ x ∈ xs, x ≠ .none := fun x hx e => by
  unfold noNone at h
  rw [List.all_eq_true] at h
  have := h x hx
  subst e
  cases this

section
variable {X : Cx} {A : List Addr}
theorem each_zip {K : PySem.W.Frag} {H : Hp} : ∀ {vs : List V} {ds : List D} {its : List Value}, RpL K H A vs ds → Vals vs its → PySem.W.EachIs (fun v (b : V × D) => RelV b.1 v ∧ Rp K H A b.1 b.2) its (vs.zip ds)
  | _, _, _, .nil, .nil => .nil
  | _, _, _, .cons h r, .cons q t => .cons ⟨q, h⟩ (each_zip r t)
theorem each_back {K : PySem.W.Frag} {H : Hp} : ∀ {its : List Value} {bs : List (V × D)}, PySem.W.EachIs (fun v (b : V × D) => RelV b.1 v ∧ Rp K H A b.1 b.2) its bs → Vals (bs.map (·.1)) its ∧ RpL K H A (bs.map (·.1)) (bs.map (·.2))
  | _, _, .nil => ⟨.nil, .nil⟩
  | _, _, .cons h r => ⟨.cons h.1 (each_back r).1, .cons h.2 (each_back r).2⟩
theorem each_reads {pins : List (Addr × Obj)} {s : Shared} {σ : L2.St} {H : Hp} (I : Inv X pins σ H s) : ∀ {its : List Value} {bs : List (V × D)}, (∀ b ∈ bs, b.2.plain = true) → PySem.W.EachIs (fun v (b : V × D) => RelV b.1 v ∧ Rp X.K H A b.1 b.2) its bs → PySem.W.EachIs (fun v (b : V × D) => ∃ as, Reads s.heap v b.2 as) its bs
  | _, _, _, .nil => .nil
  | _, _, p, .cons h r => .cons (Dp.reads I _ _ _ (h.2.dp (p _ (by simp))) h.1) (each_reads I (fun b hb => p b (by simp [hb])) r)
theorem snd_zip {vs : List V} {ds : List D} (h : vs.length = ds.length) : (vs.zip ds).map (·.2) = ds := List.map_snd_zip (by omega)
theorem zip_mem {vs : List V} {ds : List D} {b : V × D} (h : b ∈ vs.zip ds) : b.2 ∈ ds := (List.of_mem_zip h).2
theorem sort_zip {vs : List V} {ds : List D} (h : vs.length = ds.length) : ((vs.zip ds).mergeSort (PySem.W.dataLe false (fun b : V × D => b.2))).map (·.2) = sortD ds := by
  unfold sortD
  have e := List.map_mergeSort (r := PySem.W.dataLe false (fun b : V × D => b.2)) (s := fun a b : D => !PySem.W.dataLt b a) (f := fun x : V × D => x.2) (l := vs.zip ds) (fun a _ b _ => rfl)
  rw [e, snd_zip h]

theorem cr_sortedD (hu : X.A.units + 70 < cLine) : CallR X (.builtin "sorted") (fun vs H Q => AOk H A ∧ ∃ a xs ds, vs = [.ref a] ∧ SqL X.K H a xs ∧ RpL X.K H A xs ds ∧ (alikeB ds && plainB ds && sortB ds) = true ∧ ∀ v H', Same H H' → Rp X.K H' A v (.list (sortD ds)) → Q v H') := by
  intro pins s σ H vs us Q I r h
  obtain ⟨hA, a, xs, ds, rfl, hx, hr, hc, q⟩ := h
  obtain ⟨h1, h2, h3⟩ := and3 hc
  obtain ⟨its, rv, hl, hz⟩ := I.list hx
  rw [Vals.ref1 r]
  have hlen := hr.length
  have e := each_zip hr rv
  have hp := plain_all h2
  have er := each_reads I (fun b hb => (hp _ (zip_mem hb)).1) e
  have hm := snd_zip hlen
  refine PySem.W.sorted_data (enc := fun b : V × D => b.2) hl.isList e er (by rw [hm]; exact alike_all h1) (by rw [hm]; exact sort_all h3) (by rw [List.length_zip]; omega)
    (fun b hb => by have := (hp _ (zip_mem hb)).2; show X.A.units + 2 + b.2.depth < cLine; omega) fun out ho eo => ?_
  obtain ⟨ep, he'⟩ := PyProof.Rows.sortedAll_at s.heap its out.toArray
  obtain ⟨v1, r1⟩ := each_back eo
  rw [sort_zip hlen] at r1
  have np : H (s.heap.objs.size + 1) = none := I.hok.fresh (Nat.le_succ _)
  have hlen2 : (((xs.zip ds).mergeSort (PySem.W.dataLe false (fun b : V × D => b.2))).map (·.1)).length ≤ sizeLine := by
    rw [List.length_map, List.length_mergeSort, List.length_zip]; omega
  exact ⟨.ref _, upd H (s.heap.objs.size + 1) (.lst (((xs.zip ds).mergeSort (PySem.W.dataLe false (fun b : V × D => b.2))).map (·.1))), I.laid (t' := s.toks) (fun _ _ => PyProof.Rows.sortedAll_old) (Nat.le_succ _) ⟨hlen2, out, ep, v1, by simpa using he'⟩, rfl,
    q _ _ (same_upd np) (.lst (.inl ⟨.inl upd_same, hA.fresh np⟩) (r1.same (same_upd np)))⟩

theorem cr_sortedDT (hu : X.A.units + 70 < cLine) : CallR X (.builtin "sorted") (fun vs H Q => AOk H A ∧ ∃ a xs ds, vs = [.ref a] ∧ SqT X.K H a xs ∧ RpL X.K H A xs ds ∧ (alikeB ds && plainB ds && sortB ds) = true ∧ ∀ v H', Same H H' → Rp X.K H' A v (.list (sortD ds)) → Q v H') := by
  intro pins s σ H vs us Q I r h
  obtain ⟨hA, a, xs, ds, rfl, hx, hr, hc, q⟩ := h
  obtain ⟨h1, h2, h3⟩ := and3 hc
  obtain ⟨its, rv, hl, hz⟩ := I.tuple hx
  rw [Vals.ref1 r]
  have hlen := hr.length
  have e := each_zip hr rv
  have hp := plain_all h2
  have er := each_reads I (fun b hb => (hp _ (zip_mem hb)).1) e
  have hm := snd_zip hlen
  refine sorted_tup (enc := fun b : V × D => b.2) (show s.heap.IsTuple a its.toArray from hl) e er (by rw [hm]; exact alike_all h1) (by rw [hm]; exact sort_all h3) (by rw [List.length_zip]; omega)
    (fun b hb => by have := (hp _ (zip_mem hb)).2; show X.A.units + 2 + b.2.depth < cLine; omega) fun out ho eo => ?_
  obtain ⟨ep, he'⟩ := PyProof.Rows.sortedAll_at s.heap its out.toArray
  obtain ⟨v1, r1⟩ := each_back eo
  rw [sort_zip hlen] at r1
  have np : H (s.heap.objs.size + 1) = none := I.hok.fresh (Nat.le_succ _)
  have hlen2 : (((xs.zip ds).mergeSort (PySem.W.dataLe false (fun b : V × D => b.2))).map (·.1)).length ≤ sizeLine := by
    rw [List.length_map, List.length_mergeSort, List.length_zip]; omega
  exact ⟨.ref _, upd H (s.heap.objs.size + 1) (.lst (((xs.zip ds).mergeSort (PySem.W.dataLe false (fun b : V × D => b.2))).map (·.1))), I.laid (t' := s.toks) (fun _ _ => PyProof.Rows.sortedAll_old) (Nat.le_succ _) ⟨hlen2, out, ep, v1, by simpa using he'⟩, rfl,
    q _ _ (same_upd np) (.lst (.inl ⟨.inl upd_same, hA.fresh np⟩) (r1.same (same_upd np)))⟩

theorem best_at {pins : List (Addr × Obj)} {s : Shared} {σ : L2.St} {H : Hp} {xs : List V} {ds : List D} {its : List Value} {i : Nat} {v : Value} {h' : Heap} {bs : List Addr} {m : D} (I : Inv X pins σ H s) (hr : RpL X.K H A xs ds) (rv : Vals xs its)
    (hp : ∀ x ∈ ds, x.plain = true ∧ x.depth ≤ 60) (hv : its.toArray[i]? = some v) (rd : Reads h' v m bs) (k : ∀ b o, s.heap.get? b = some o → h'.get? b = some o) : ∃ y, RelV y v ∧ Rp X.K H A y m := by
  have hv' : its[i]? = some v := by simpa using hv
  have hi : i < xs.length := by
    have := (List.getElem?_eq_some_iff.mp hv').1
    rw [rv.length]; exact this
  have hx : xs[i]? = some xs[i] := List.getElem?_eq_getElem hi
  obtain ⟨u, e1, r1⟩ := rv.get hx
  rw [hv'] at e1
  cases e1
  obtain ⟨d, e2, r2⟩ := hr.get hx
  have pd := (hp d (List.mem_of_getElem? e2)).1
  obtain ⟨as, rd2⟩ := Dp.reads I d xs[i] v (r2.dp pd) r1
  have : d = m := SeqAt.plain_unique d m v as bs pd (PyProof.Rows.Reads.keeps k rd2) rd
  subst this
  exact ⟨_, r1, r2⟩
theorem best_pre {pins : List (Addr × Obj)} {s : Shared} {σ : L2.St} {H : Hp} {xs : List V} {ds : List D} {its : List Value} (I : Inv X pins σ H s) (hr : RpL X.K H A xs ds) (rv : Vals xs its) (h : (alikeB ds && plainB ds && noNone ds) = true) :
    (∃ as, ReadsAll s.heap its.toArray.toList ds as) ∧ PySem.W.AlikeAll ds ∧ PyData.depthAll ds ≤ 60 := by
  obtain ⟨h1, h2, h3⟩ := and3 h
  have hp := plain_all h2
  refine ⟨Dp.readsAll I ds xs its (hr.dp (plainAll_of fun x hx => (hp x hx).1)) rv, ⟨fun x hx y hy => alike_all h1 x hx y hy, none_all h3⟩, depthAll_of fun x hx => (hp x hx).2⟩

theorem clr_bn (hc : X.calm = true) (hu : X.A.units + 70 < cLine) (b : Bn) : CallR X b.val (rBn X.K A b) := by
  intro pins s σ H vs us Q I r h
  obtain ⟨hA, ds, d, hd, hf, q⟩ := h
  have hh := I.ok.hd hc
  unfold bltop at hf
  split at hf
  · cases hf
    obtain ⟨v, rfl, x⟩ := hd.one
    obtain ⟨a, xs, rfl, hx, hr⟩ := x
    exact call_len_seq pins s σ H _ us Q I r ⟨a, xs, rfl, .inl hx, by rw [hr.length]; exact q _ _ (Same.refl _) (.int _)⟩
  · cases hf
    obtain ⟨v, rfl, x⟩ := hd.one
    obtain ⟨a, xs, rfl, hx, hr⟩ := x.tuple
    exact call_len_seq pins s σ H _ us Q I r ⟨a, xs, rfl, .inr hx, by rw [hr.length]; exact q _ _ (Same.refl _) (.int _)⟩
  · obtain ⟨h1, rfl⟩ := ite_some hf
    obtain ⟨v, rfl, x⟩ := hd.one
    exact call_len_str pins s σ H _ us Q I r ⟨_, by rw [x.str], sm_le h1, q _ _ (Same.refl _) (.int _)⟩
  · cases hf
    obtain ⟨v, rfl, x⟩ := hd.one
    obtain ⟨a, kvs, ds, rfl, hx, hr, rfl⟩ := x
    rw [Vals.ref1 r]
    refine d_len I hx fun t s' I' => ⟨.int kvs.length, H, I', ⟨t, rfl⟩, ?_⟩
    have e : ((kvs.map fun p => keyD p.1).zip ds).length = kvs.length := by
      have := hr.length
      rw [List.length_map] at this
      rw [List.length_zip, List.length_map, this, Nat.min_self]
    rw [e] at q
    exact q _ _ (Same.refl _) (.int _)
  · cases hf
    obtain ⟨v, rfl, x⟩ := hd.one
    exact call_int1 pins s σ H _ us Q I r (.inl ⟨_, by rw [x.int], q _ _ (Same.refl _) (.int _)⟩)
  · cases hf
    obtain ⟨v, rfl, x⟩ := hd.one
    exact call_int1 pins s σ H _ us Q I r (.inr ⟨_, by rw [x.bool], q _ _ (Same.refl _) (.int _)⟩)
  · obtain ⟨h1, hf⟩ := (show _ ∧ _ from (by
      rename_i z
      by_cases hz : decide (z.length ≤ 600) = true
      · rw [if_pos hz] at hf; exact ⟨hz, hf⟩
      · rw [if_neg hz] at hf; cases hf))
    obtain ⟨n, e1, rfl⟩ := Option.map_eq_some_iff.mp hf
    obtain ⟨v, rfl, x⟩ := hd.one
    exact call_int_str pins s σ H _ us Q I r ⟨_, n, by rw [x.str], e1, Nat.le_trans (of_decide_eq_true h1) (by decide), q _ _ (Same.refl _) (.int _)⟩
  · obtain ⟨h1, rfl⟩ := ite_some hf
    obtain ⟨v, rfl, x⟩ := hd.one
    exact call_str_int pins s σ H _ us Q I r ⟨_, by rw [x.int], of_decide_eq_true h1, q _ _ (Same.refl _) (.str _)⟩
  · cases hf
    obtain ⟨v, rfl, x⟩ := hd.one
    obtain ⟨a, xs, rfl, hx, hr⟩ := x
    exact call_list_of pins s σ H _ us Q I r ⟨a, xs, rfl, .inl hx, fun p np => q _ _ (same_upd np) (.lst (.inl ⟨.inl upd_same, hA.fresh np⟩) (hr.same (same_upd np)))⟩
  · cases hf
    obtain ⟨v, rfl, x⟩ := hd.one
    obtain ⟨a, xs, rfl, hx, hr⟩ := x.tuple
    exact call_list_of pins s σ H _ us Q I r ⟨a, xs, rfl, .inr hx, fun p np => q _ _ (same_upd np) (.lst (.inl ⟨.inl upd_same, hA.fresh np⟩) (hr.same (same_upd np)))⟩
  · cases hf
    obtain ⟨v, rfl, x⟩ := hd.one
    obtain ⟨a, xs, rfl, hx, hr⟩ := x
    exact call_tuple_of pins s σ H _ us Q I r ⟨a, xs, rfl, .inl ⟨hx, fun p np => q _ _ (same_upd np) (.tup (.inl (.inl upd_same)) (hr.same (same_upd np)))⟩⟩
  · cases hf
    obtain ⟨v, rfl, x⟩ := hd.one
    obtain ⟨a, xs, rfl, hx, hr⟩ := x.tuple
    exact call_tuple_of pins s σ H _ us Q I r ⟨a, xs, rfl, .inr ⟨hx, q _ _ (Same.refl _) (.tup hx hr)⟩⟩
  · obtain ⟨ns, e1, rfl⟩ := Option.map_eq_some_iff.mp hf
    obtain ⟨v, rfl, x⟩ := hd.one
    obtain ⟨a, xs, rfl, hx, hr⟩ := x
    have e2 := intsOf_eq e1
    subst e2
    rw [hr.ints] at hx
    exact cr_sum hc pins s σ H _ us Q I r ⟨a, ns, rfl, hx, q _ _ (Same.refl _) (.int _)⟩
  · cases hf
    obtain ⟨v, u, rfl, x, y⟩ := hd.two
    exact call_max2 hc pins s σ H _ us Q I r ⟨_, _, by rw [x.int, y.int], q _ _ (Same.refl _) (.int _)⟩
  · cases hf
    obtain ⟨v, u, rfl, x, y⟩ := hd.two
    exact call_min2 hc pins s σ H _ us Q I r ⟨_, _, by rw [x.int, y.int], q _ _ (Same.refl _) (.int _)⟩
  · obtain ⟨h1, rfl⟩ := ite_some hf
    obtain ⟨v, rfl, x⟩ := hd.one
    obtain ⟨a, xs, rfl, hx, hr⟩ := x
    obtain ⟨its, rv, pl, _⟩ := I.list hx
    obtain ⟨⟨as, p1⟩, p2, p3⟩ := best_pre I hr rv h1
    rw [Vals.ref1 r]
    refine PySem.W.max_list_data hh pl.isList p1 p2 (by omega) fun i v h' tk bs e1 e2 e3 => ?_
    obtain ⟨y, r1, r2⟩ := best_at I hr rv (plain_all (and3 h1).2.1) e1 e2 e3
    exact ⟨y, H, I.kept (t' := tk) e3, r1, q _ _ (Same.refl _) r2⟩
  · obtain ⟨h1, rfl⟩ := ite_some hf
    obtain ⟨v, rfl, x⟩ := hd.one
    obtain ⟨a, xs, rfl, hx, hr⟩ := x
    obtain ⟨its, rv, pl, _⟩ := I.list hx
    obtain ⟨⟨as, p1⟩, p2, p3⟩ := best_pre I hr rv h1
    rw [Vals.ref1 r]
    refine PySem.W.min_list_data hh pl.isList p1 p2 (by omega) fun i v h' tk bs e1 e2 e3 => ?_
    obtain ⟨y, r1, r2⟩ := best_at I hr rv (plain_all (and3 h1).2.1) e1 e2 e3
    exact ⟨y, H, I.kept (t' := tk) e3, r1, q _ _ (Same.refl _) r2⟩
  · obtain ⟨h1, rfl⟩ := ite_some hf
    obtain ⟨v, rfl, x⟩ := hd.one
    obtain ⟨a, xs, rfl, hx, hr⟩ := x.tuple
    obtain ⟨its, rv, pl, _⟩ := I.tuple hx
    obtain ⟨⟨as, p1⟩, p2, p3⟩ := best_pre I hr rv h1
    rw [Vals.ref1 r]
    refine PySem.W.max_tuple_data hh (show s.heap.IsTuple a its.toArray from pl) p1 p2 (by omega) fun i v h' tk bs e1 e2 e3 => ?_
    obtain ⟨y, r1, r2⟩ := best_at I hr rv (plain_all (and3 h1).2.1) e1 e2 e3
    exact ⟨y, H, I.kept (t' := tk) e3, r1, q _ _ (Same.refl _) r2⟩
  · obtain ⟨h1, rfl⟩ := ite_some hf
    obtain ⟨v, rfl, x⟩ := hd.one
    obtain ⟨a, xs, rfl, hx, hr⟩ := x.tuple
    obtain ⟨its, rv, pl, _⟩ := I.tuple hx
    obtain ⟨⟨as, p1⟩, p2, p3⟩ := best_pre I hr rv h1
    rw [Vals.ref1 r]
    refine PySem.W.min_tuple_data hh (show s.heap.IsTuple a its.toArray from pl) p1 p2 (by omega) fun i v h' tk bs e1 e2 e3 => ?_
    obtain ⟨y, r1, r2⟩ := best_at I hr rv (plain_all (and3 h1).2.1) e1 e2 e3
    exact ⟨y, H, I.kept (t' := tk) e3, r1, q _ _ (Same.refl _) r2⟩
  · obtain ⟨h1, rfl⟩ := ite_some hf
    obtain ⟨v, rfl, x⟩ := hd.one
    obtain ⟨a, xs, rfl, hx, hr⟩ := x
    exact cr_sortedD hu pins s σ H _ us Q I r ⟨hA, a, xs, _, rfl, hx, hr, h1, q⟩
  · obtain ⟨h1, rfl⟩ := ite_some hf
    obtain ⟨v, rfl, x⟩ := hd.one
    obtain ⟨a, xs, rfl, hx, hr⟩ := x.tuple
    exact cr_sortedDT hu pins s σ H _ us Q I r ⟨hA, a, xs, _, rfl, hx, hr, h1, q⟩
  · cases hf
end
end Pv

end
section
namespace Pv
open PySem PySem.Spec PyProof.Rows L2

/-! ### set(list of numbers) -/
abbrev ob0 (w : World) : Obj := { cls := .type "set", dict := none, data := .set #[] 0 (.fresh 0 0 (!w.params.followText "set-order")) }
section
variable {P : Program} {w : World} {A : Around} {E : Value → Shared → Prop} {s : Shared}
set_option maxHeartbeats 3200000 in
theorem set_of_list {l : Addr} {xs : Array Value} (ns : List Int) {Q : Value → Shared → Prop} (hh : A.handled = none) (hl : s.heap.IsList l xs) (hit : IntsAre xs.toList ns) (hb : ns.length + 1 < scanBound)
    (h : ∀ (h' : Heap) (tk c : Nat), SetR w h' s.heap.objs.size (fun j => decide (j ∈ ns)) c → c ≤ ns.length → (∀ b o, s.heap.get? b = some o → h'.get? b = some o) → Q (.ref s.heap.objs.size) { s with heap := h', toks := tk }) :
    wpAny (model P w) A (call (.type "set") [.ref l]) Q E s := by
  have hsz : xs.size = ns.length := by have q := IntsAre.length hit; rw [Array.length_toList] at q; exact q
  have hm1 := F.called_set.made; have hs1 := F.called_set.sub; obtain ⟨c, tl, hmro⟩ := F.called_set.mro
  have h1 := F.called_set.notType; have h2 := F.called_set.canCreate; have hct := F.typeCall_set_1 (.ref l)
  refine wpAny_call (codeAny_of_tree (show wpAny _ _ (callAny (.type "set") _) _ _ _ from ?_))
  refine wpAny_pure ⟨Code.quiet_builtin _ (by decide +kernel), codeAny_builtin F.entry_type_call ?_⟩
  rw [Around.under_plain (weight_type_call_type "set" [.ref l] []) rfl]
  repeat (any_goals (first | assumption | wp_step))
  refine codeAny_mono (code_set_led1 (.ref l) (E := E) (Q₁ := fun obj s₁ => obj = .ref s.heap.objs.size ∧ s₁ = { s with heap := s.heap.push (ob0 w) }) ⟨rfl, rfl⟩) fun r s₁ hr => ?_
  cases r with
  | error e => exact hr
  | ok fl =>
    cases fl with
    | ret obj =>
      obtain ⟨rfl, rfl⟩ := hr
      have hS : (s.heap.push (ob0 w)).get? s.heap.objs.size = some (ob0 w) := Heap.get?_push_size _ rfl
      have hT : Shared.TypeIs { s with heap := s.heap.push (ob0 w) } (.ref s.heap.objs.size) "set" := ⟨_, hS, rfl⟩
      have hli := F.called_set.init.lookup; have hbi := F.called_set.init.bind (.ref s.heap.objs.size)
      repeat (any_goals (first | assumption | wp_step))
      refine codeAny_mono (codeAny_call_builtin (R := wants (fun r s₂ => r = .none ∧ ∃ h' tk c, s₂ = { s with heap := h', toks := tk } ∧ SetR w h' s.heap.objs.size (fun j => decide (j ∈ ns)) c ∧ c ≤ ns.length ∧ (∀ b o, s.heap.get? b = some o → h'.get? b = some o)) E) F.called_set.init.plain F.entry_set_init (check_set_init_1 hT ?_)) fun r₂ s₂ hr₂ => ?_
      · obtain ⟨⟨ocls, odict, odata, oslots⟩, hol, hcl, nl, hdl⟩ := hl
        simp only at hcl hdl
        subst hcl
        subst hdl
        have hol' : (s.heap.push (ob0 w)).get? l = some { cls := .type "list", dict := odict, data := .seq xs nl, slots := oslots } := Heap.get?_push_of_some _ hol
        have g1 := F.sub_list_set; have g2 := F.sub_list_frozenset; have g3 : (Value.type "list" == Value.type "dict") = false := by decide
        have hl1 : (s.heap.push (ob0 w)).IsList l xs := ⟨_, hol', rfl, nl, rfl⟩
        unfold Builtin.«set.__init__» noKeywords Builtin.Frozenset.updateFrom
        generalize hPI : pyIter = PI
        wp_walk
        subst hPI
        refine wpAny_pyIter_list hl1 (wpAny_bind (wpAny_runValue ?_))
        have hlS : l < s.heap.objs.size := Heap.lt_size hol
        have hh3 : A.in1.in1.in1.handled = none := by simp [hh]
        have hz1 : (s.heap.push (ob0 w)).objs.size = s.heap.objs.size + 1 := Heap.size_push ..
        have hne : l ≠ (s.heap.push (ob0 w)).objs.size := by rw [hz1]; exact Nat.ne_of_lt (Nat.lt_succ_of_lt hlS)
        have hSf : s.heap.objs.size ∉ [(s.heap.push (ob0 w)).objs.size, l] := by
          rw [hz1]; simp only [List.mem_cons, List.mem_singleton, List.not_mem_nil, or_false, not_or]; exact ⟨Nat.ne_of_lt (Nat.lt_succ_self _), Nat.ne_of_gt hlS⟩
        have hval : ∀ (i : Nat) (v : Value), xs[i]? = some v → ∃ k t, ns[i]? = some k ∧ v = .int k t := fun i v hv => by
          have hi : i < ns.length := by rw [← hsz]; exact (Array.getElem?_eq_some_iff.mp hv).1
          obtain ⟨t, e⟩ := PyProof.Rows.IntsAre.int_at hit i v (by rw [Array.getElem?_toList]; exact hv)
          exact ⟨ns[i], t, List.getElem?_eq_getElem hi, by rw [e, List.getD_eq_getElem?_getD, List.getElem?_eq_getElem hi] <;> rfl⟩
        refine set_update_ints ((Walks.list hh3 _ l hne xs).toS) s.heap.objs.size hSf ns hsz hb hval (xs.size - 0) 0 _ (by omega) (Nat.zero_le _) ⟨⟨_, Heap.get?_push_size _ rfl, rfl, rfl⟩, (hl1.push _)⟩ ?hS0 ?hR
        case hS0 => exact ⟨0, Nat.le_refl 0, setR_new_at (Heap.get?_push_of_some _ hS)⟩
        case hR =>
          intro s' c' hm hc' hS'
          obtain ⟨h', g2, d', tk', os'⟩ := s'
          have eg : g2 = s.gens := hm.gens
          have ed : d' = s.drawn := hm.drawn
          have eo : os' = s.os := hm.os
          subst eg; subst ed; subst eo
          show wpAny _ _ _ _ _ _
          refine wpAny_pure ?_
          show wpAny _ _ (ret Value.none) _ _ _
          rw [hsz] at hc'
          refine wpAny_pure ⟨rfl, h', tk', c', rfl, hS', hc', fun b o e => ?_⟩
          have hb0 : b < s.heap.objs.size := Heap.lt_size e
          refine hm.heap b o ?_ (Heap.get?_push_of_some _ (Heap.get?_push_of_some _ e))
          rw [hz1]; simp only [List.mem_cons, List.mem_singleton, List.not_mem_nil, or_false, not_or]; exact ⟨Nat.ne_of_lt hb0, Nat.ne_of_lt (Nat.lt_succ_of_lt hb0)⟩
      · cases r₂ with
        | error e => exact hr₂
        | ok fl₂ =>
          cases fl₂ with
          | ret r =>
            obtain ⟨rfl, h', tk, c', rfl, hS', hc', hk'⟩ := hr₂
            repeat (any_goals (first | assumption | wp_step))
            exact h _ _ _ hS' hc' hk'
          | _ => exact hr₂.elim
    | _ => exact hr.elim
end
end Pv

end
section
namespace Pv
open PySem PySem.Spec PyProof.Rows L2

/-! ### the judgements by data -/
abbrev Calls := Str → List D → Res D
def Rt (mg : Str → Option Value) (W : WX) (P : Hp → V → D → Prop) (H : Hp) (σ : L2.St) (Q : VK) : Res D → Prop
  | .st => False
  | .ok d => ∀ v H', Same H H' → P H' v d → Q v H'
  | .ex c => ∀ C H', Same H H' → mg c = some (.ref C) → W (.ref C) none σ H'
def RtL (mg : Str → Option Value) (W : WX) (P : Hp → List V → List D → Prop) (H : Hp) (σ : L2.St) (Q : List V → Hp → Prop) : Res (List D) → Prop
  | .st => False
  | .ok d => ∀ v H', Same H H' → P H' v d → Q v H'
  | .ex c => ∀ C H', Same H H' → mg c = some (.ref C) → W (.ref C) none σ H'
def RtB (mg : Str → Option Value) (W : WX) (H : Hp) (σ : L2.St) (Q : Bool → Hp → Prop) : Res D → Prop
  | .st => False
  | .ok (.bool b) => ∀ H', Same H H' → Q b H'
  | .ok _ => False
  | .ex c => ∀ C H', Same H H' → mg c = some (.ref C) → W (.ref C) none σ H'
abbrev PSh := PySem.W.Frag → List Addr → Hp → V → D → Prop
abbrev pE : PSh := fun K A H v d => Rp K H A v d
abbrev pB : PSh := fun K A H v d => RpB K H A v d
abbrev PLh := PySem.W.Frag → List Addr → Hp → List V → List D → Prop
abbrev pEs : PLh := fun K A H v d => RpL K H A v d
abbrev pBs : PLh := fun K A H v d => RpBs K H A v d
def tX (K : PySem.W.Frag) (mg : Str → Option Value) (W : WX) (P : PSh) (f : Env → Res D) : TE := fun σ H Q => ∃ A O ρ, AOk H A ∧ EnvOk K H A O σ ρ ∧ Rt mg W (P K A) H σ Q (f ρ)
def tXs (K : PySem.W.Frag) (mg : Str → Option Value) (W : WX) (P : PLh) (f : Env → Res (List D)) : TA := fun σ H Q => ∃ A O ρ, AOk H A ∧ EnvOk K H A O σ ρ ∧ RtL mg W (P K A) H σ Q (f ρ)
def tXT (K : PySem.W.Frag) (mg : Str → Option Value) (W : WX) (f : Env → Res D) : TT := fun σ H Q => ∃ A O ρ, AOk H A ∧ EnvOk K H A O σ ρ ∧ RtB mg W H σ Q (f ρ)

section
variable {K : PySem.W.Frag} {mg : Str → Option Value} {W : WX} {P P1 : Hp → V → D → Prop} {PL : Hp → List V → List D → Prop} {H H1 : Hp} {σ : L2.St} {Q Q1 : VK} {QL QL1 : List V → Hp → Prop} {QB : Bool → Hp → Prop}
theorem Rt.same {r : Res D} (h : Rt mg W P H σ Q r) (s : Same H H1) : Rt mg W P H1 σ Q r := by
  cases r with
  | st => exact h
  | ok d => exact fun v H' s' p => h v H' (s.trans s') p
  | ex c => exact fun C H' s' p => h C H' (s.trans s') p
theorem RtL.same {r : Res (List D)} (h : RtL mg W PL H σ QL r) (s : Same H H1) : RtL mg W PL H1 σ QL r := by
  cases r with
  | st => exact h
  | ok d => exact fun v H' s' p => h v H' (s.trans s') p
  | ex c => exact fun C H' s' p => h C H' (s.trans s') p
theorem RtB.same {r : Res D} (h : RtB mg W H σ QB r) (s : Same H H1) : RtB mg W H1 σ QB r := by
  cases r with
  | st => exact h
  | ok d => cases d <;> first | exact h | exact fun H' s' => h H' (s.trans s')
  | ex c => exact fun C H' s' p => h C H' (s.trans s') p
/-- from the whole to its first part -/
theorem Rt.bind {m : Res D} {g : D → Res D} (h : Rt mg W P H σ Q (m >>= g)) (k : ∀ d v H1, Same H H1 → P1 H1 v d → Rt mg W P H1 σ Q (g d) → Q1 v H1) : Rt mg W P1 H σ Q1 m := by
  cases m with
  | st => exact h
  | ok d => exact fun v H1 s p => k d v H1 s p (Rt.same h s)
  | ex c => exact h
theorem Rt.bindL {m : Res (List D)} {g : List D → Res D} (h : Rt mg W P H σ Q (m >>= g)) (k : ∀ d v H1, Same H H1 → PL H1 v d → Rt mg W P H1 σ Q (g d) → QL v H1) : RtL mg W PL H σ QL m := by
  cases m with
  | st => exact h
  | ok d => exact fun v H1 s p => k d v H1 s p (Rt.same h s)
  | ex c => exact h
theorem RtL.bind {m : Res D} {g : D → Res (List D)} (h : RtL mg W PL H σ QL (m >>= g)) (k : ∀ d v H1, Same H H1 → P1 H1 v d → RtL mg W PL H1 σ QL (g d) → Q1 v H1) : Rt mg W P1 H σ Q1 m := by
  cases m with
  | st => exact h
  | ok d => exact fun v H1 s p => k d v H1 s p (RtL.same h s)
  | ex c => exact h
theorem RtL.bindL {PL1 : Hp → List V → List D → Prop} {m : Res (List D)} {g : List D → Res (List D)} (h : RtL mg W PL H σ QL (m >>= g)) (k : ∀ d v H1, Same H H1 → PL1 H1 v d → RtL mg W PL H1 σ QL (g d) → QL1 v H1) : RtL mg W PL1 H σ QL1 m := by
  cases m with
  | st => exact h
  | ok d => exact fun v H1 s p => k d v H1 s p (RtL.same h s)
  | ex c => exact h
theorem RtB.bind {m : Res D} {g : D → Res D} (h : RtB mg W H σ QB (m >>= g)) (k : ∀ d v H1, Same H H1 → P1 H1 v d → RtB mg W H1 σ QB (g d) → Q1 v H1) : Rt mg W P1 H σ Q1 m := by
  cases m with
  | st => exact h
  | ok d => exact fun v H1 s p => k d v H1 s p (RtB.same h s)
  | ex c => exact h
/-- a test that comes first -/
theorem Rt.test {m : Res D} {g : Bool → Res D} {QB : Bool → Hp → Prop} (h : Rt mg W P H σ Q (m >>= fun d => match d with | .bool b => g b | _ => .st)) (k : ∀ b H1, Same H H1 → Rt mg W P H1 σ Q (g b) → QB b H1) : RtB mg W H σ QB m := by
  cases m with
  | st => exact h
  | ok d => cases d <;> first | exact h | exact fun H1 s => k _ H1 s (Rt.same h s)
  | ex c => exact h
theorem RtB.test {m : Res D} {g : Bool → Res D} {QB1 : Bool → Hp → Prop} (h : RtB mg W H σ QB (m >>= fun d => match d with | .bool b => g b | _ => .st)) (k : ∀ b H1, Same H H1 → RtB mg W H1 σ QB (g b) → QB1 b H1) : RtB mg W H σ QB1 m := by
  cases m with
  | st => exact h
  | ok d => cases d <;> first | exact h | exact fun H1 s => k _ H1 s (RtB.same h s)
  | ex c => exact h
theorem Rt.ofO {o : Option D} (h : Rt mg W P H σ Q (Res.ofO o)) : ∃ r, o = some r ∧ ∀ v H', Same H H' → P H' v r → Q v H' := by
  cases o with
  | none => exact h.elim
  | some r => exact ⟨r, rfl, h⟩
end

/-! ### the context of an expression -/
structure Ctx where
  N : List Str
  sc : Scope
  fns : List Str
  lent : List Str
  gl : List (Str × D)
  blts : List Str
  cok : List Str
  exc : List Str
/-- x names an exception class of the module -/
def ExcHas (K : PySem.W.Frag) (mg : Str → Option Value) (x : Str) : Prop := ∃ (C : Addr) (bmB : List Value) (B newId initId : String), mg x = some (.ref C) ∧ PySem.W.keepIn K (.ref C) = true ∧ PySem.W.subIn K (.ref C) (.type "BaseException") = some true ∧ PySem.W.typeIn K (.ref C) = some (.type "type")
  ∧ ExcBaseFacts B newId initId bmB ∧ PySem.W.excIn K C bmB newId = true
/-- what the def f promises: what Φ says -/
def spC (K : PySem.W.Frag) (mg : Str → Option Value) (Φ : Calls) (f : Str) : Sp := fun vs H Q E => ∃ A ds, AOk H A ∧ RpL K H A vs ds ∧ match Φ f ds with
  | .st => False
  | .ok d => ∀ v H', Same H H' → Rp K H' A v d → Q v H'
  | .ex c => ∀ C H', Same H H' → mg c = some (.ref C) → E (.ref C) none H'
def FnHas (X : Cx) (Φ : Calls) (f : Str) : Prop := ∃ k fa fd ps, FnOk X.prog X.w X.K X.mg X.base (L2.CX X.prog X.w) k fa fd ps (spC X.K X.mg Φ f) ∧ Room k X.A ∧ X.mg f = some (.ref fa) ∧ PySem.W.keepIn X.K (.ref fa) = true ∧ Binds X.K fd ps []
structure Ok (c : Ctx) (X : Cx) (Φ : Calls) : Prop where
  hN : X.N = c.N
  nd : c.N.Nodup
  sc : X.env.scope = c.sc
  calm : X.calm = true
  hu : X.A.units + 70 < cLine
  blt : ∀ x, x ∈ c.blts → X.mg x = none
  gl : ∀ x d, (x, d) ∈ c.gl → ∃ u v, X.mg x = some u ∧ RelV v u ∧ ∀ H A, Rp X.K H A v d
  fns : ∀ f, f ∈ c.fns → FnHas X Φ f
  exc : ∀ x, x ∈ c.exc → ExcHas X.K X.mg x
  cok : ∀ x, x ∈ c.cok → X.fn x = true
abbrev EvE := Calls → Env → Res D
abbrev EvL := Calls → Env → Res (List D)
def SX (P : PSh) (c : Ctx) (e : Expr) (f : EvE) : Prop := ∀ X Φ W, Ok c X Φ → Takes X W → PE X e (tX X.K X.mg W P (f Φ))
def SXs (P : PLh) (c : Ctx) (es : List Expr) (f : EvL) : Prop := ∀ X Φ W, Ok c X Φ → Takes X W → PA X es (tXs X.K X.mg W P (f Φ))
def ST (c : Ctx) (e : Expr) (f : EvE) : Prop := ∀ X Φ W, Ok c X Φ → Takes X W → PT X e (tXT X.K X.mg W (f Φ))
abbrev SE := SX pE
abbrev SB := SX pB

theorem peI {X : Cx} {e : Expr} {t t' : TE} (h : PE X e t) (q : ∀ σ H Q, t' σ H Q → t σ H Q) : PE X e t' := ⟨fun pins s σ H Q I x => h.run pins s σ H Q I (q σ H Q x)⟩
theorem ptI {X : Cx} {e : Expr} {t t' : TT} (h : PT X e t) (q : ∀ σ H Q, t' σ H Q → t σ H Q) : PT X e t' := ⟨fun pins s σ H Q I x => h.run pins s σ H Q I (q σ H Q x)⟩
theorem pwI {X : Cx} {e : Expr} {t t' : TT} (h : PW X e t) (q : ∀ σ H Q, t' σ H Q → t σ H Q) : PW X e t' := ⟨fun wh pins s σ H Q I x => h.run wh pins s σ H Q I (q σ H Q x)⟩
theorem paI {X : Cx} {e : List Expr} {t t' : TA} (h : PA X e t) (q : ∀ σ H Q, t' σ H Q → t σ H Q) : PA X e t' := ⟨fun pos pins s σ H Q I x => h.run pos pins s σ H Q I (q σ H Q x)⟩
theorem opX {ι : Type} {X : Cx} {f : Value → Value → Sem Value} {r : ι → R2} (h : ∀ a, OpR X f (r a)) : OpR X f (fun x y H Q => ∃ a, r a x y H Q) := fun pins s σ H x y v u Q I rx ry ⟨a, q⟩ => h a pins s σ H x y v u Q I rx ry q
theorem unX {ι : Type} {X : Cx} {f : Value → Sem Value} {r : ι → V → Hp → VK → Prop} (h : ∀ a, UnR X f (r a)) : UnR X f (fun x H Q => ∃ a, r a x H Q) := fun pins s σ H x v Q I rx ⟨a, q⟩ => h a pins s σ H x v Q I rx q
theorem ixX {ι : Type} {X : Cx} {r : ι → R2} (h : ∀ a, IxR X (r a)) : IxR X (fun x y H Q => ∃ a, r a x y H Q) := fun b c pins s σ H x y v u Q I rx ry ⟨a, q⟩ hs => h a b c pins s σ H x y v u Q I rx ry q hs
theorem slX {ι : Type} {X : Cx} {r : ι → V → Option Int → Option Int → Hp → VK → Prop} (h : ∀ a, SlR X (r a)) : SlR X (fun x l u H Q => ∃ a, r a x l u H Q) := fun pins s σ H x v vl vu lo hi sl Q I rx hs pl pu ⟨a, q⟩ => h a pins s σ H x v vl vu lo hi sl Q I rx hs pl pu q
theorem caX {ι : Type} {X : Cx} {f : Value} {r : ι → List V → Hp → VK → Prop} (h : ∀ a, CallR X f (r a)) : CallR X f (fun xs H Q => ∃ a, r a xs H Q) := fun pins s σ H xs us Q I rx ⟨a, q⟩ => h a pins s σ H xs us Q I rx q

section
variable {c : Ctx} {a b d e : Expr} {es : List Expr} {fa fb fd : EvE} {fs : EvL} {pos pos' : Pos}
theorem sx_b (h : SE c e fa) : SB c e fa := fun X Φ W ok tk => peI (h X Φ W ok tk) fun σ H Q ⟨A, O, ρ, hA, hρ, q⟩ => ⟨A, O, ρ, hA, hρ, by
  cases hf : fa Φ ρ with
  | st => rw [hf] at q; exact q
  | ok x => rw [hf] at q; exact fun v H' s p => q v H' s p.b
  | ex x => rw [hf] at q; exact q⟩
/-! constants, names -/
def atom : D → Bool
  | .none => true | .bool _ => true | .int _ => true | .str _ => true
  | _ => false
theorem se_int {i : Int} {j : Nat} : SE c (.Constant (.int i) j pos) (fun _ _ => .ok (.int i)) := fun X Φ W ok tk => peI pe_int fun σ H Q ⟨A, O, ρ, hA, hρ, q⟩ => q _ _ (Same.refl _) (.int _)
theorem se_bool {i : Bool} {j : Nat} : SE c (.Constant (.bool i) j pos) (fun _ _ => .ok (.bool i)) := fun X Φ W ok tk => peI pe_bl fun σ H Q ⟨A, O, ρ, hA, hρ, q⟩ => q _ _ (Same.refl _) (.bl _)
theorem se_none {j : Nat} : SE c (.Constant .none j pos) (fun _ _ => .ok .none) := fun X Φ W ok tk => peI pe_non fun σ H Q ⟨A, O, ρ, hA, hρ, q⟩ => q _ _ (Same.refl _) .non
theorem se_str {i : Str} {j : Nat} : SE c (.Constant (.str i) j pos) (fun _ _ => .ok (.str i)) := fun X Φ W ok tk => peI pe_str fun σ H Q ⟨A, O, ρ, hA, hρ, q⟩ => q _ _ (Same.refl _) (.str _)
/-- a name's value; where it is owned it may not go out -/
def rdV (i : Nat) (ρ : Env) : Res D := match ρ[i]? with
  | some (some (false, d)) => .ok d
  | _ => .st
def rdB (i : Nat) (ρ : Env) : Res D := match ρ[i]? with
  | some (some (_, d)) => .ok d
  | _ => .st
theorem se_var {i : Nat} {x : Str} (hi : c.N[i]? = some x) (hv : Vis c.sc x) (hd : (x == ("__debug__" : Str)) = false) (hcd : (x == ("__classdict__" : Str)) = false) : SE c (.Name x pos) (fun _ ρ => rdV i ρ) := fun X Φ W ok tk =>
  peI (pe_var (i := i) (by rw [ok.hN]; exact hi) (by rw [ok.sc]; exact hv) hd hcd) fun σ H Q ⟨A, O, ρ, hA, hρ, q⟩ => by
    have q : Rt X.mg W (pE X.K A) H σ Q (rdV i ρ) := q
    unfold rdV at q
    split at q
    · rename_i dd he
      obtain ⟨x, r, e1, e2, sl⟩ := hρ.sl.get he
      cases sl with
      | shared h => exact ⟨_, e1, q _ _ (Same.refl _) h⟩
    · exact q.elim
theorem sb_var {i : Nat} {x : Str} (hi : c.N[i]? = some x) (hv : Vis c.sc x) (hd : (x == ("__debug__" : Str)) = false) (hcd : (x == ("__classdict__" : Str)) = false) : SB c (.Name x pos) (fun _ ρ => rdB i ρ) := fun X Φ W ok tk =>
  peI (pe_var (i := i) (by rw [ok.hN]; exact hi) (by rw [ok.sc]; exact hv) hd hcd) fun σ H Q ⟨A, O, ρ, hA, hρ, q⟩ => by
    have q : Rt X.mg W (pB X.K A) H σ Q (rdB i ρ) := q
    unfold rdB at q
    split at q
    · rename_i dd he
      obtain ⟨x, r, e1, e2, sl⟩ := hρ.sl.get he
      cases sl with
      | shared h => exact ⟨_, e1, q _ _ (Same.refl _) h.b⟩
      | ownL m h r => exact ⟨_, e1, q _ _ (Same.refl _) ⟨_, _, rfl, .inl (.inl h), r⟩⟩
      | ownD m h r e => exact ⟨_, e1, q _ _ (Same.refl _) ⟨_, _, _, rfl, .inl h, r, e⟩⟩
    · exact q.elim
theorem se_glob {x : Str} {v : D} (hx : (x, v) ∈ c.gl) (hk : c.sc.names.lookup x = some .globalImplicit) (hd : (x == ("__debug__" : Str)) = false) : SE c (.Name x pos) (fun _ _ => .ok v) := fun X Φ W ok tk => by
  obtain ⟨u, w, h1, h2, h3⟩ := ok.gl x v hx
  exact peI (pe_glob (show Gl X x by unfold Gl Env.kindOf; rw [ok.sc]; exact hk) h1 h2 hd) fun σ H Q ⟨A, O, ρ, hA, hρ, q⟩ => q _ _ (Same.refl _) (h3 H A)
/-! operators -/
def rOpB (K : PySem.W.Frag) (A : List Addr) (f : D → D → Option D) : R2 := fun x y H Q => AOk H A ∧ ∃ d e r, RpB K H A x d ∧ RpB K H A y e ∧ f d e = some r ∧ ∀ v H', Same H H' → Rp K H' A v r → Q v H'
theorem opr_binB {X : Cx} {A : List Addr} (op : Operator) : OpR X (binaryOp op) (rOpB X.K A (binop op)) := by
  intro pins s σ H x y v u Q I rx ry h
  obtain ⟨hA, d, e, r, hd, he, hf, q⟩ := h
  by_cases hl : ∃ ds, d = .list ds
  · obtain ⟨ds, rfl⟩ := hl
    obtain ⟨a, xs, rfl, hx, lx⟩ := hd
    cases op <;> cases e <;> first
      | (simp [binop] at hf; done)
      | skip
    case Add.list es =>
      obtain ⟨b, ys, rfl, hy, ly⟩ := he
      obtain ⟨h1, rfl⟩ := ite_some (by simpa [binop] using hf)
      refine op_catL pins s σ H _ _ v u Q I rx ry ⟨a, b, xs, ys, rfl, rfl, hx, hy, ?_, fun p np => ?_⟩
      · rw [lx.length, ly.length]; exact sm_le h1
      · exact q _ _ (same_upd np) (.lst (.inl ⟨.inl upd_same, hA.fresh np⟩) ((lx.same (same_upd np)).append (ly.same (same_upd np))))
    case Mult.int k =>
      have hk := he.int
      subst hk
      obtain ⟨h1, rfl⟩ := ite_some (c := (decide (0 ≤ k) && decide (k ≤ 1000) && decide (ds.length ≤ 1000)) = true) hf
      obtain ⟨h1, h2, h3⟩ := and3 h1
      refine op_repL pins s σ H _ _ v u Q I rx ry ⟨a, k, xs, rfl, rfl, hx, of_decide_eq_true h1, of_decide_eq_true h2, ?_, fun p np => ?_⟩
      · rw [lx.length]; exact of_decide_eq_true h3
      · exact q _ _ (same_upd np) (.lst (.inl ⟨.inl upd_same, hA.fresh np⟩) ((lx.same (same_upd np)).rep _))
  · have go : ∀ {w : V} {z : D}, RpB X.K H A w z → (∀ ds, z ≠ .list ds) → (∀ es, z ≠ .dict es) → Rp X.K H A w z := fun {w z} h n1 n2 => by
      cases z <;> first | exact absurd rfl (n1 _) | exact absurd rfl (n2 _) | exact h
    have nd : ∀ es, d ≠ .dict es := fun es z => by subst z; cases op <;> cases e <;> simp [binop] at hf
    have ne : ∀ es, e ≠ .dict es := fun es z => by subst z; cases op <;> cases d <;> simp [binop] at hf
    have nl : ∀ es, e ≠ .list es := fun es z => by
      subst z
      cases op <;> cases d <;> first
        | (simp [binop] at hf; done)
        | exact hl ⟨_, rfl⟩
    exact opr_bin op pins s σ H x y v u Q I rx ry ⟨hA, d, e, r, go hd (fun ds z => hl ⟨ds, z⟩) nd, go he nl ne, hf, q⟩
theorem se_bin {op : Operator} (ha : SB c a fa) (hb : SB c b fb) : SE c (.BinOp a op b pos) (fun Φ ρ => do let x ← fa Φ ρ; let y ← fb Φ ρ; Res.ofO (binop op x y)) := fun X Φ W ok tk =>
  peI (pe_op (opX fun A => opr_binB (A := A) op) (ha X Φ W ok tk) (hb X Φ W ok tk)) fun σ H Q ⟨A, O, ρ, hA, hρ, q⟩ =>
    ⟨A, O, ρ, hA, hρ, q.bind fun x v H1 s1 p1 q1 => ⟨A, O, ρ, hA.same s1, hρ.same s1, q1.bind fun y u H2 s2 p2 q2 => by
      obtain ⟨r, e1, e2⟩ := q2.ofO
      exact ⟨A, (hA.same s1).same s2, x, y, r, p1.same s2, p2, e1, e2⟩⟩⟩
theorem rpb_rp {K : PySem.W.Frag} {H : Hp} {A : List Addr} {v : V} {d : D} (h : RpB K H A v d) : Rp K H [] v d := by
  cases d with
  | list ds => obtain ⟨a, xs, rfl, h1, h2⟩ := h; exact .lst (SqN.of h1) (h2.sub (by simp))
  | dict es => obtain ⟨a, kvs, ds, rfl, h1, h2, h3⟩ := h; exact .dic h1 (by simp) (h2.sub (by simp)) h3
  | none => exact Rp.sub (by simp) h
  | bool _ => exact Rp.sub (by simp) h
  | int _ => exact Rp.sub (by simp) h
  | str _ => exact Rp.sub (by simp) h
  | tuple _ => exact Rp.sub (by simp) h
theorem se_un {op : UnaryOp} (hop : op ≠ .Not) (ha : SE c a fa) : SE c (.UnaryOp op a pos) (fun Φ ρ => do let x ← fa Φ ρ; Res.ofO (unop op x)) := fun X Φ W ok tk =>
  peI (pe_un (unX fun A => unr_un (A := A) op hop) (ha X Φ W ok tk)) fun σ H Q ⟨A, O, ρ, hA, hρ, q⟩ =>
    ⟨A, O, ρ, hA, hρ, q.bind fun x v H1 s1 p1 q1 => by
      obtain ⟨r, e1, e2⟩ := q1.ofO
      exact ⟨A, hA.same s1, x, r, p1, e1, e2⟩⟩
def cmpR (op : CmpOp) (x y : D) : Res D := Res.ofO ((cmpop op x y).map .bool)
theorem cmpR_some {mg : Str → Option Value} {W : WX} {P : Hp → V → D → Prop} {H : Hp} {σ : L2.St} {Q : VK} {op : CmpOp} {x y : D} (h : Rt mg W P H σ Q (cmpR op x y)) : ∃ k, cmpop op x y = some k ∧ ∀ v H', Same H H' → P H' v (.bool k) → Q v H' := by
  obtain ⟨r, e1, e2⟩ := h.ofO
  obtain ⟨k, e3, rfl⟩ := Option.map_eq_some_iff.mp e1
  exact ⟨k, e3, e2⟩
theorem cmpR_someB {mg : Str → Option Value} {W : WX} {H : Hp} {σ : L2.St} {Q : Bool → Hp → Prop} {op : CmpOp} {x y : D} (h : RtB mg W H σ Q (cmpR op x y)) : ∃ k, cmpop op x y = some k ∧ ∀ H', Same H H' → Q k H' := by
  unfold cmpR at h
  cases hc : cmpop op x y with
  | none => rw [hc] at h; exact h.elim
  | some k => rw [hc] at h; exact ⟨k, rfl, h⟩
theorem se_cmp {op : CmpOp} (ha : SB c a fa) (hb : SB c b fb) (hm : behindInMarks op b = false) : SE c (.Compare a [op] [b] pos) (fun Φ ρ => do let x ← fa Φ ρ; let y ← fb Φ ρ; cmpR op x y) := fun X Φ W ok tk =>
  peI (pe_cmpR (opr_cmp ok.hu op) (ha X Φ W ok tk) (hb X Φ W ok tk) hm) fun σ H Q ⟨A, O, ρ, hA, hρ, q⟩ =>
    ⟨A, O, ρ, hA, hρ, q.bind fun x v H1 s1 p1 q1 => ⟨A, O, ρ, hA.same s1, hρ.same s1, q1.bind fun y u H2 s2 p2 q2 => by
      obtain ⟨k, e1, e2⟩ := cmpR_some q2
      exact ⟨[], x, y, k, rpb_rp (p1.same s2), rpb_rp p2, e1, e2 _ _ (Same.refl _) (.bl _)⟩⟩⟩
theorem st_cmp {op : CmpOp} (ha : SB c a fa) (hb : SB c b fb) (hm : behindInMarks op b = false) : ST c (.Compare a [op] [b] pos) (fun Φ ρ => do let x ← fa Φ ρ; let y ← fb Φ ρ; cmpR op x y) := fun X Φ W ok tk =>
  ptI (pt_cmpR (opr_cmp ok.hu op) (ha X Φ W ok tk) (hb X Φ W ok tk) hm) fun σ H Q ⟨A, O, ρ, hA, hρ, q⟩ =>
    ⟨A, O, ρ, hA, hρ, q.bind fun x v H1 s1 p1 q1 => ⟨A, O, ρ, hA.same s1, hρ.same s1, q1.bind fun y u H2 s2 p2 q2 => by
      obtain ⟨k, e1, e2⟩ := cmpR_someB q2
      exact ⟨[], x, y, k, rpb_rp (p1.same s2), rpb_rp p2, e1, k, rfl, e2 _ (Same.refl _)⟩⟩⟩
/-! and, or, not, if else: over bools -/
def tst (m : Res D) (g : Bool → Res D) : Res D := m >>= fun d => match d with | .bool b => g b | _ => .st
@[simp] theorem tst_ok (b : Bool) (g : Bool → Res D) : tst (.ok (.bool b)) g = g b := id rfl
@[simp] theorem tst_st (g : Bool → Res D) : tst .st g = .st := id rfl
@[simp] theorem tst_ex (x : Str) (g : Bool → Res D) : tst (.ex x) g = .ex x := id rfl
def andR (a b : Res D) : Res D := tst a fun k => if k then b else .ok (.bool false)
def orR (a b : Res D) : Res D := tst a fun k => if k then .ok (.bool true) else b
def notR (a : Res D) : Res D := tst a fun k => .ok (.bool !k)
def iteR (t a b : Res D) : Res D := tst t fun k => if k then a else b
/-- a bool's value, as the layer's and, or, not want it -/
theorem bool_of {K : PySem.W.Frag} {H : Hp} {A : List Addr} {v : V} {b : Bool} (h : Rp K H A v (.bool b)) : v = .bl b := by cases h; rfl
theorem rt_tst {mg : Str → Option Value} {W : WX} {P P1 : Hp → V → D → Prop} {H : Hp} {σ : L2.St} {Q Q1 : VK} {m : Res D} {g : Bool → Res D} (h : Rt mg W P H σ Q (tst m g)) (k : ∀ b v H1, Same H H1 → P1 H1 v (.bool b) → Rt mg W P H1 σ Q (g b) → Q1 v H1) : Rt mg W P1 H σ Q1 m := by
  refine Rt.bind h fun d v H1 s p q => ?_
  cases d <;> first | exact q.elim | exact k _ v H1 s p q
theorem rtb_tst {mg : Str → Option Value} {W : WX} {P : Hp → V → D → Prop} {H : Hp} {σ : L2.St} {Q : VK} {m : Res D} {g : Bool → Res D} {QB : Bool → Hp → Prop} (h : Rt mg W P H σ Q (tst m g)) (k : ∀ b H1, Same H H1 → Rt mg W P H1 σ Q (g b) → QB b H1) : RtB mg W H σ QB m := Rt.test h k
theorem rtbb_tst {mg : Str → Option Value} {W : WX} {H : Hp} {σ : L2.St} {QB QB1 : Bool → Hp → Prop} {m : Res D} {g : Bool → Res D} (h : RtB mg W H σ QB (tst m g)) (k : ∀ b H1, Same H H1 → RtB mg W H1 σ QB (g b) → QB1 b H1) : RtB mg W H σ QB1 m := RtB.test h k
theorem se_one {op : BoolOp} (ha : SE c a fa) : SE c (.BoolOp op [a] pos) fa := fun X Φ W ok tk => pe_one (ha X Φ W ok tk)
theorem se_and (ha : SE c a fa) (hb : SE c (.BoolOp .And (b :: es) pos) fb) : SE c (.BoolOp .And (a :: b :: es) pos) (fun Φ ρ => andR (fa Φ ρ) (fb Φ ρ)) := fun X Φ W ok tk =>
  peI (pe_and (ha X Φ W ok tk) (hb X Φ W ok tk)) fun σ H Q ⟨A, O, ρ, hA, hρ, q⟩ => ⟨A, O, ρ, hA, hρ, rt_tst q fun k v H1 s1 p1 q1 => ⟨k, bool_of p1, by
    cases k with
    | true => exact iteT ⟨A, O, ρ, hA.same s1, hρ.same s1, q1⟩
    | false => exact iteF (q1 _ _ (Same.refl _) (.bl false))⟩⟩
theorem se_or (ha : SE c a fa) (hb : SE c (.BoolOp .Or (b :: es) pos) fb) : SE c (.BoolOp .Or (a :: b :: es) pos) (fun Φ ρ => orR (fa Φ ρ) (fb Φ ρ)) := fun X Φ W ok tk =>
  peI (pe_or (ha X Φ W ok tk) (hb X Φ W ok tk)) fun σ H Q ⟨A, O, ρ, hA, hρ, q⟩ => ⟨A, O, ρ, hA, hρ, rt_tst q fun k v H1 s1 p1 q1 => ⟨k, bool_of p1, by
    cases k with
    | true => exact iteT (q1 _ _ (Same.refl _) (.bl true))
    | false => exact iteF ⟨A, O, ρ, hA.same s1, hρ.same s1, q1⟩⟩⟩
theorem se_not (ha : SE c a fa) : SE c (.UnaryOp .Not a pos) (fun Φ ρ => notR (fa Φ ρ)) := fun X Φ W ok tk =>
  peI (pe_not (ha X Φ W ok tk)) fun σ H Q ⟨A, O, ρ, hA, hρ, q⟩ => ⟨A, O, ρ, hA, hρ, rt_tst q fun k v H1 s1 p1 q1 => ⟨k, bool_of p1, q1 _ _ (Same.refl _) (.bl _)⟩⟩
theorem se_ite (hd : ST c d fd) (ha : SE c a fa) (hb : SE c b fb) : SE c (.IfExp d a b pos) (fun Φ ρ => iteR (fd Φ ρ) (fa Φ ρ) (fb Φ ρ)) := fun X Φ W ok tk =>
  peI (pe_ifExp (hd X Φ W ok tk) (ha X Φ W ok tk) (hb X Φ W ok tk)) fun σ H Q ⟨A, O, ρ, hA, hρ, q⟩ => ⟨A, O, ρ, hA, hρ, rtb_tst q fun k H1 s1 q1 => by
    cases k with
    | true => exact iteT ⟨A, O, ρ, hA.same s1, hρ.same s1, q1⟩
    | false => exact iteF ⟨A, O, ρ, hA.same s1, hρ.same s1, q1⟩⟩
/-- tests -/
def SW (c : Ctx) (e : Expr) (f : EvE) : Prop := ∀ X Φ W, Ok c X Φ → Takes X W → PW X e (tXT X.K X.mg W (f Φ))
theorem st_val (ha : SE c a fa) (he : ∀ env whole, isTrue a env whole = (do let v ← whole; standAt a.pos; holding [v] (truthy v))) : ST c a fa := fun X Φ W ok tk =>
  ptI (pt_val (ha X Φ W ok tk) (he _)) fun σ H Q ⟨A, O, ρ, hA, hρ, q⟩ => ⟨A, O, ρ, hA, hρ, by
    cases hf : fa Φ ρ with
    | st => rw [hf] at q; exact q.elim
    | ok x =>
      rw [hf] at q
      cases x <;> first
        | exact q.elim
        | exact fun v H' s p => ⟨_, bool_of p, q H' s⟩
    | ex x => rw [hf] at q; exact q⟩
theorem sw_t (h : SW c a fa) : ST c a fa := fun X Φ W ok tk => PW.pt (h X Φ W ok tk)
theorem st_not (ha : ST c a fa) : ST c (.UnaryOp .Not a pos) (fun Φ ρ => notR (fa Φ ρ)) := fun X Φ W ok tk =>
  ptI (pt_not (ha X Φ W ok tk)) fun σ H Q ⟨A, O, ρ, hA, hρ, q⟩ => ⟨A, O, ρ, hA, hρ, rtbb_tst q fun k H1 s1 q1 => q1 _ (Same.refl _)⟩
theorem sw_and1 (ha : ST c a fa) : SW c (.BoolOp .And [a] pos) fa := fun X Φ W ok tk => pw_and1 (ha X Φ W ok tk)
theorem sw_or1 (ha : ST c a fa) : SW c (.BoolOp .Or [a] pos) fa := fun X Φ W ok tk => pw_or1 (ha X Φ W ok tk)
theorem sw_and (ha : ST c a fa) (hb : SW c (.BoolOp .And (b :: es) pos) fb) : SW c (.BoolOp .And (a :: b :: es) pos) (fun Φ ρ => andR (fa Φ ρ) (fb Φ ρ)) := fun X Φ W ok tk =>
  pwI (pw_and (ha X Φ W ok tk) (hb X Φ W ok tk)) fun σ H Q ⟨A, O, ρ, hA, hρ, q⟩ => ⟨A, O, ρ, hA, hρ, rtbb_tst q fun k H1 s1 q1 => by
    cases k with
    | true => exact iteT ⟨A, O, ρ, hA.same s1, hρ.same s1, q1⟩
    | false => exact iteF (q1 _ (Same.refl _))⟩
theorem sw_or (ha : ST c a fa) (hb : SW c (.BoolOp .Or (b :: es) pos) fb) : SW c (.BoolOp .Or (a :: b :: es) pos) (fun Φ ρ => orR (fa Φ ρ) (fb Φ ρ)) := fun X Φ W ok tk =>
  pwI (pw_or (ha X Φ W ok tk) (hb X Φ W ok tk)) fun σ H Q ⟨A, O, ρ, hA, hρ, q⟩ => ⟨A, O, ρ, hA, hρ, rtbb_tst q fun k H1 s1 q1 => by
    cases k with
    | true => exact iteT (q1 _ (Same.refl _))
    | false => exact iteF ⟨A, O, ρ, hA.same s1, hρ.same s1, q1⟩⟩
/-! rows of expressions -/
def notStar : Expr → Bool
  | .Starred _ _ => false
  | _ => true
theorem star_of {e : Expr} (h : notStar e = true) (es : List Expr) (env : PySem.Env) : starEach (e :: es) env = (false, eval e env) :: starEach es env := by
  cases e <;> first | rfl | cases h
theorem stars_of {env : PySem.Env} {pos : Pos} : ∀ {es : List Expr}, es.all notStar = true → (backTo pos (starEach es env)).any (·.1) = false
  | [], _ => by simp [starEach, backTo]
  | e :: es, h => by
    rw [List.all_cons, Bool.and_eq_true] at h
    rw [star_of h.1]
    have := stars_of (env := env) (pos := pos) h.2
    simpa [backTo] using this
theorem ss_nil {P : PLh} (h0 : ∀ K A H, P K A H [] []) : SXs P c [] (fun _ _ => .ok []) := fun X Φ W ok tk => paI pa_nil fun σ H Q ⟨A, O, ρ, hA, hρ, q⟩ => q _ _ (Same.refl _) (h0 _ _ _)
theorem ss_cons {P1 : PSh} {P : PLh} (h0 : ∀ K A H H' v d vs ds, P1 K A H v d → Same H H' → P K A H' vs ds → P K A H' (v :: vs) (d :: ds)) (ha : SX P1 c a fa) (hs : SXs P c es fs) (hn : notStar a = true) : SXs P c (a :: es) (fun Φ ρ => do let x ← fa Φ ρ; let r ← fs Φ ρ; pure (x :: r)) := fun X Φ W ok tk =>
  paI (pa_cons (ha X Φ W ok tk) (hs X Φ W ok tk) (star_of hn _ _)) fun σ H Q ⟨A, O, ρ, hA, hρ, q⟩ => ⟨A, O, ρ, hA, hρ, q.bind fun x v H1 s1 p1 q1 => ⟨A, O, ρ, hA.same s1, hρ.same s1, q1.bindL fun xs vs H2 s2 p2 q2 => q2 _ _ (Same.refl _) (h0 _ _ _ _ _ _ _ _ p1 s2 p2)⟩⟩
theorem ses_cons (ha : SE c a fa) (hs : SXs pEs c es fs) (hn : notStar a = true) : SXs pEs c (a :: es) (fun Φ ρ => do let x ← fa Φ ρ; let r ← fs Φ ρ; pure (x :: r)) := ss_cons (P1 := pE) (fun _ _ _ _ _ _ _ _ p s q => .cons (p.same s) q) ha hs hn
theorem sbs_cons (ha : SB c a fa) (hs : SXs pBs c es fs) (hn : notStar a = true) : SXs pBs c (a :: es) (fun Φ ρ => do let x ← fa Φ ρ; let r ← fs Φ ρ; pure (x :: r)) := ss_cons (P1 := pB) (fun _ _ _ _ _ _ _ _ p s q => .cons (p.same s) q) ha hs hn
def smL (xs : List D) (d : List D → D) : Res D := if sm xs.length then .ok (d xs) else .st
theorem rt_smL {mg : Str → Option Value} {W : WX} {P : Hp → V → D → Prop} {H : Hp} {σ : L2.St} {Q : VK} {xs : List D} {d : List D → D} (h : Rt mg W P H σ Q (smL xs d)) : xs.length ≤ sizeLine ∧ ∀ v H', Same H H' → P H' v (d xs) → Q v H' := by
  unfold smL at h
  by_cases hz : sm xs.length = true
  · rw [if_pos hz] at h; exact ⟨sm_le hz, h⟩
  · rw [if_neg hz] at h; exact h.elim
theorem se_tup {k : Nat} (hs : SXs pEs c es fs) : SE c (.Tuple es k pos) (fun Φ ρ => do let r ← fs Φ ρ; smL r .tuple) := fun X Φ W ok tk =>
  peI (pe_tup (hs X Φ W ok tk)) fun σ H Q ⟨A, O, ρ, hA, hρ, q⟩ => ⟨A, O, ρ, hA, hρ, q.bindL fun xs vs H1 s1 p1 q1 => by
    obtain ⟨hz, q2⟩ := rt_smL q1
    exact ⟨by rw [p1.length]; exact hz, fun p np => q2 _ _ (same_upd np) (.tup (.inl (.inl upd_same)) (p1.same (same_upd np)))⟩⟩
theorem se_lst (hs : SXs pEs c es fs) : SE c (.List es pos) (fun Φ ρ => do let r ← fs Φ ρ; smL r .list) := fun X Φ W ok tk =>
  peI (pe_lst (hs X Φ W ok tk)) fun σ H Q ⟨A, O, ρ, hA, hρ, q⟩ => ⟨A, O, ρ, hA, hρ, q.bindL fun xs vs H1 s1 p1 q1 => by
    obtain ⟨hz, q2⟩ := rt_smL q1
    exact ⟨by rw [p1.length]; exact hz, fun p np => q2 _ _ (same_upd np) (.lst (.inl ⟨.inl upd_same, (hA.same s1).fresh np⟩) (p1.same (same_upd np)))⟩⟩
/-! items, slices -/
theorem se_ix (ha : SB c a fa) (hb : SB c b fb) (hp : PlainIx b) : SE c (.Subscript a b pos) (fun Φ ρ => do let x ← fa Φ ρ; let y ← fb Φ ρ; Res.ofO (ixop x y)) := fun X Φ W ok tk =>
  peI (pe_ix (ixX fun A => ixr_dyn (A := A) ok.hu) (ha X Φ W ok tk) (hb X Φ W ok tk) hp) fun σ H Q ⟨A, O, ρ, hA, hρ, q⟩ =>
    ⟨A, O, ρ, hA, hρ, q.bind fun x v H1 s1 p1 q1 => ⟨A, O, ρ, hA.same s1, hρ.same s1, q1.bind fun y u H2 s2 p2 q2 => by
      obtain ⟨r, e1, e2⟩ := q2.ofO
      exact ⟨A, x, y, r, p1.same s2, p2, e1, fun v h => e2 v _ (Same.refl _) h⟩⟩⟩
def RtO (mg : Str → Option Value) (W : WX) (H : Hp) (σ : L2.St) (Q : Option Int → Hp → Prop) : Res (Option Int) → Prop
  | .st => False
  | .ok d => ∀ H', Same H H' → Q d H'
  | .ex c => ∀ C H', Same H H' → mg c = some (.ref C) → W (.ref C) none σ H'
abbrev EvO := Calls → Env → Res (Option Int)
def SO (c : Ctx) (e : Option Expr) (f : EvO) : Prop := ∀ X Φ W, Ok c X Φ → Takes X W → PO X e (fun σ H Q => ∃ A O ρ, AOk H A ∧ EnvOk X.K H A O σ ρ ∧ RtO X.mg W H σ Q (f Φ ρ))
theorem so_none : SO c none (fun _ _ => .ok none) := fun X Φ W ok tk => ⟨fun pins s σ H Q I ⟨A, O, ρ, hA, hρ, q⟩ => po_none.run pins s σ H Q I (q _ (Same.refl _))⟩
def intR (m : Res D) : Res (Option Int) := m >>= fun d => match d with | .int i => .ok (some i) | _ => .st
theorem so_some (ha : SE c a fa) : SO c (some a) (fun Φ ρ => intR (fa Φ ρ)) := fun X Φ W ok tk => ⟨fun pins s σ H Q I ⟨A, O, ρ, hA, hρ, q⟩ => (po_some (ha X Φ W ok tk)).run pins s σ H Q I ⟨A, O, ρ, hA, hρ, by
  have q : RtO X.mg W H σ Q (intR (fa Φ ρ)) := q
  unfold intR at q
  cases hf : fa Φ ρ with
  | st => rw [hf] at q; exact q
  | ok d =>
    rw [hf] at q
    cases d <;> first
      | exact q.elim
      | (rename_i i; exact fun v H' s p => ⟨i, by cases p; rfl, q H' s⟩)
  | ex x => rw [hf] at q; exact q⟩⟩
theorem se_slc {lo hi : Option Expr} {fl fh : Calls → Env → Res (Option Int)} (ha : SB c a fa) (hl : SO c lo fl) (hh : SO c hi fh) : SE c (.Subscript a (.Slice lo hi none pos') pos) (fun Φ ρ => do let x ← fa Φ ρ; let l ← fl Φ ρ; let h ← fh Φ ρ; Res.ofO (slop x l h)) := fun X Φ W ok tk =>
  peI (pe_slice (slX fun A => slr_dyn (A := A)) (ha X Φ W ok tk) (hl X Φ W ok tk) (hh X Φ W ok tk)) fun σ H Q ⟨A, O, ρ, hA, hρ, q⟩ =>
    ⟨A, O, ρ, hA, hρ, q.bind fun x v H1 s1 p1 q1 => ⟨A, O, ρ, hA.same s1, hρ.same s1, by
      have q1 : Rt X.mg W (pE X.K A) H1 σ Q (fl Φ ρ >>= fun l => fh Φ ρ >>= fun h => Res.ofO (slop x l h)) := q1
      cases h1 : fl Φ ρ with
      | st => rw [h1] at q1; exact q1
      | ex z => rw [h1] at q1; exact q1
      | ok l =>
        rw [h1] at q1
        refine fun H2 s2 => ⟨A, O, ρ, (hA.same s1).same s2, (hρ.same s1).same s2, ?_⟩
        have q2 : Rt X.mg W (pE X.K A) H2 σ Q (fh Φ ρ >>= fun h => Res.ofO (slop x l h)) := Rt.same q1 s2
        cases h2 : fh Φ ρ with
        | st => rw [h2] at q2; exact q2
        | ex z => rw [h2] at q2; exact q2
        | ok h =>
          rw [h2] at q2
          refine fun H3 s3 => ?_
          obtain ⟨r, e1, e2⟩ := (Rt.same q2 s3).ofO
          exact ⟨A, ((hA.same s1).same s2).same s3, x, r, (p1.same s2).same s3, e1, e2⟩⟩⟩
/-! calls -/
theorem gl_of {X : Cx} {Φ : Calls} {x : Str} (ok : Ok c X Φ) (hk : c.sc.names.lookup x = some .globalImplicit) : Gl X x := by
  unfold Gl Env.kindOf
  rw [ok.sc]
  exact hk
def bName : Bn → Str
  | .len => "len" | .int => "int" | .str => "str" | .list => "list" | .tuple => "tuple" | .sum => "sum" | .max => "max" | .min => "min" | .sorted => "sorted"
theorem se_blt {bn : Bn} {p : Pos} (hb : bName bn ∈ c.blts) (hk : c.sc.names.lookup (bName bn) = some .globalImplicit) (hs : SXs pBs c (a :: es) fs) (hn : notStar a = true) (hns : es.all notStar = true) :
    SE c (.Call (.Name (bName bn) p) (a :: es) [] pos) (fun Φ ρ => do let r ← fs Φ ρ; Res.ofO (bltop bn r)) := fun X Φ W ok tk => by
  have hc := caX fun A => clr_bn (X := X) (A := A) ok.calm ok.hu bn
  have fin : ∀ {t : TE}, (∀ σ H Q, tX X.K X.mg W pE (fun ρ => do let r ← fs Φ ρ; Res.ofO (bltop bn r)) σ H Q → tCB (fun xs H Q => ∃ A, rBn X.K A bn xs H Q) (tXs X.K X.mg W pBs (fs Φ)) σ H Q) := fun {t} σ H Q ⟨A, O, ρ, hA, hρ, q⟩ =>
    ⟨A, O, ρ, hA, hρ, q.bindL fun xs vs H1 s1 p1 q1 => by
      obtain ⟨r, e1, e2⟩ := q1.ofO
      exact ⟨A, hA.same s1, xs, r, p1, e1, e2⟩⟩
  have hm := ok.blt _ hb
  have hg := gl_of ok hk
  have ha := hs X Φ W ok tk
  have h1 := star_of (env := X.env) hn es
  have h2 := stars_of (env := X.env) (pos := pos) hns
  cases bn
  · exact peI (pe_callB hc hg hm (by decide +kernel) ha (by decide) (by decide) h1 h2) (fin (t := fun _ _ _ => True))
  · exact peI (pe_callTy hc hg hm (by decide +kernel) ha (by decide) (by decide) h1 h2) (fin (t := fun _ _ _ => True))
  · exact peI (pe_callTy hc hg hm (by decide +kernel) ha (by decide) (by decide) h1 h2) (fin (t := fun _ _ _ => True))
  · exact peI (pe_callTy hc hg hm (by decide +kernel) ha (by decide) (by decide) h1 h2) (fin (t := fun _ _ _ => True))
  · exact peI (pe_callTy hc hg hm (by decide +kernel) ha (by decide) (by decide) h1 h2) (fin (t := fun _ _ _ => True))
  · exact peI (pe_callB hc hg hm (by decide +kernel) ha (by decide) (by decide) h1 h2) (fin (t := fun _ _ _ => True))
  · exact peI (pe_callB hc hg hm (by decide +kernel) ha (by decide) (by decide) h1 h2) (fin (t := fun _ _ _ => True))
  · exact peI (pe_callB hc hg hm (by decide +kernel) ha (by decide) (by decide) h1 h2) (fin (t := fun _ _ _ => True))
  · exact peI (pe_callB hc hg hm (by decide +kernel) ha (by decide) (by decide) h1 h2) (fin (t := fun _ _ _ => True))
/-- f(..), what it gives may hold what it is given -/
theorem se_call {f : Str} {p : Pos} (hf : f ∈ c.fns) (hk : c.sc.names.lookup f = some .globalImplicit) (hd : (f == ("__debug__" : Str)) = false) (hs : SXs pEs c (a :: es) fs) (hn : notStar a = true) (hns : es.all notStar = true) :
    SE c (.Call (.Name f p) (a :: es) [] pos) (fun Φ ρ => do let r ← fs Φ ρ; Φ f r) := fun X Φ W ok tk => by
  obtain ⟨k, fa, fd, ps, F, hr, hm, hkp, hb⟩ := ok.fns f hf
  refine peI (pe_callS F hr (gl_of ok hk) hm hkp hb (fun σ => passAt tk σ) (hs X Φ W ok tk) hd (star_of hn _ _) (stars_of hns)) fun σ H Q ⟨A, O, ρ, hA, hρ, q⟩ => ⟨A, O, ρ, hA, hρ, q.bindL fun xs vs H1 s1 p1 q1 => ?_⟩
  refine ⟨A, xs, hA.same s1, p1, ?_⟩
  · cases hr : Φ f xs with
    | st => rw [hr] at q1; exact q1.elim
    | ok r => rw [hr] at q1; exact q1
    | ex z => rw [hr] at q1; exact q1
/-- f(..), the arguments lent: it gives pure data -/
def purR (m : Res D) : Res D := m >>= fun d => if pureD d then .ok d else .st
theorem se_lent {f : Str} {p : Pos} (hf : f ∈ c.fns) (hk : c.sc.names.lookup f = some .globalImplicit) (hd : (f == ("__debug__" : Str)) = false) (hs : SXs pBs c (a :: es) fs) (hn : notStar a = true) (hns : es.all notStar = true) :
    SE c (.Call (.Name f p) (a :: es) [] pos) (fun Φ ρ => do let r ← fs Φ ρ; purR (Φ f r)) := fun X Φ W ok tk => by
  obtain ⟨k, fa, fd, ps, F, hr, hm, hkp, hb⟩ := ok.fns f hf
  refine peI (pe_callS F hr (gl_of ok hk) hm hkp hb (fun σ => passAt tk σ) (hs X Φ W ok tk) hd (star_of hn _ _) (stars_of hns)) fun σ H Q ⟨A, O, ρ, hA, hρ, q⟩ => ⟨A, O, ρ, hA, hρ, q.bindL fun xs vs H1 s1 p1 q1 => ?_⟩
  have all : ∀ {vs : List V} {xs : List D}, RpBs X.K H1 A vs xs → RpL X.K H1 [] vs xs := by
    intro vs xs h
    induction h with
    | nil => exact .nil
    | cons h _ ih => exact .cons (rpb_rp h) ih
  refine ⟨[], xs, fun p hp => absurd hp (by simp), all p1, ?_⟩
  · cases hr : Φ f xs with
    | st => rw [hr] at q1; exact q1.elim
    | ok r =>
      rw [hr] at q1
      have q1 : Rt X.mg W (pE X.K A) H1 σ Q (if pureD r = true then .ok r else .st) := q1
      by_cases hp : pureD r = true
      · rw [if_pos hp] at q1
        exact fun v H' s p => q1 v H' s (p.pure hp)
      · rw [if_neg hp] at q1; exact q1.elim
    | ex z => rw [hr] at q1; exact q1
end
end Pv

end
section
namespace Pv
open PySem PySem.Spec PyProof.Rows L2

/-! ### enumerate of a list or a tuple -/
set_option maxHeartbeats 1000000 in
theorem meets_enumerate_new1B {v : Value} {o : Obj} {H : Heap → Prop} (B : Begins v o H) :
    Meets (Builtin.«enumerate.__new__» ⟨[.type "enumerate", v], []⟩) (fun _ R s => H s.heap ∧
      R (.ok (.ret (.ref (s.heap.push o).objs.size))) { s with heap := (s.heap.push o).push { cls := .type "enumerate", data := .fields #[.none, .bool false, .ref s.heap.objs.size, rawInt 0, .none, .none] } }) :=
  .of_wp fun prog w A R s h => by
    obtain ⟨hp, g, d, tk, os⟩ := s; obtain ⟨h1, h⟩ := h
    have hsub := sub_enumerate
    have q1 : ∀ {A' : Around} {E : Value → Shared → Prop} {Q : Value → Shared → Prop}, Q (.ref hp.objs.size) ⟨hp.push o, g, d, tk, os⟩ → wpAny (model prog w) A' (pyIter v) Q E ⟨hp, g, d, tk, os⟩ :=
      fun q => B.iter prog w _ _ ⟨hp, g, d, tk, os⟩ _ h1 q
    wp_walk using q1
    refine wpAny_stack_any fun st => wpAny_pure ?_
    split
    · rename_i c _ _ _ _ _
      cases (c == Value.type "enumerate")
      · wp_walk using q1
        exact ⟨_, rfl, h⟩
      · wp_walk using q1
        exact ⟨_, rfl, h⟩
    · wp_walk using q1
      exact ⟨_, rfl, h⟩
section
variable {prog : Program} {w : World} {A : Around} {E : Value → Shared → Prop} {s : Shared}
theorem enum_begins1 {v : Value} {o : Obj} {H : Heap → Prop} {Q : Value → Shared → Prop} (B : Begins v o H) (h1 : H s.heap)
    (h : ∀ h', IsEnum h' (s.heap.objs.size + 1) s.heap.objs.size 0 .none → h'.get? s.heap.objs.size = some o → h'.objs.size = s.heap.objs.size + 2 →
      (∀ b o, s.heap.get? b = some o → h'.get? b = some o) → Q (.ref (s.heap.objs.size + 1)) { s with heap := h' }) :
    wpAny (model prog w) A (call (.type "enumerate") [v]) Q E s := by
  refine callType_new F.called_enumerate (by decide) (F.typeCall_enumerate_1 _) (F.newCall_enumerate_1 _) (fun obj => F.args_object_init_2 obj _) F.entry_enumerate_new
    (meets_enumerate_new1B B) ⟨h1, ?_⟩
  have hz : (s.heap.push o).objs.size = s.heap.objs.size + 1 := Heap.size_push ..
  show _ ∧ _
  rw [hz]
  have he : IsEnum ((s.heap.push o).push { cls := .type "enumerate", data := .fields #[.none, .bool false, .ref s.heap.objs.size, rawInt 0, .none, .none] }) (s.heap.objs.size + 1) s.heap.objs.size 0 .none := by
    have := Heap.get?_push_size (s.heap.push o) (o := { cls := .type "enumerate", data := .fields #[.none, .bool false, .ref s.heap.objs.size, rawInt 0, .none, .none] }) rfl
    rw [hz] at this; exact this
  refine ⟨⟨_, he, rfl⟩, h _ he (Heap.get?_push_of_some _ (Heap.get?_push_size _ B.free)) (by rw [Heap.size_push, hz]) fun b o x => Heap.get?_push_of_some _ (Heap.get?_push_of_some _ x)⟩
end
def IteT (K : PySem.W.Frag) (a : Addr) : It :=
  ⟨fun i H => ∃ (xs : List V) (x : V), SqT K H a xs ∧ xs[i]? = some x, fun i H v H' => ∃ T x, v = .ref T ∧ H T = none ∧ H' = upd H T (.tup [.int (i : Nat), x]) ∧ ∀ xs, SqT K H a xs → xs[i]? = some x, fun i H => ∃ xs : List V, SqT K H a xs ∧ xs.length ≤ i⟩
theorem turn_enumT {P : Program} {w : World} {K : PySem.W.Frag} {elts : List Expr} {kk : Nat} {tpos : Pos} (a e it : Addr) :
    Turn P w K (.Tuple elts kk tpos) (IteT K a) [e, it] e (fun i h => (∃ old, IsEnum h e it ((i : Nat) : Int) old) ∧ h.IsTupleIter it a i ∧ e ≠ it) where
  mem := by simp
  obj := fun i h st b hb => by
    obtain ⟨⟨old, he⟩, ⟨o, ho, hc, hd⟩, _⟩ := st
    have e' : b = e ∨ b = it := by simpa using hb
    rcases e' with z | z
    · rw [z]; exact ⟨_, he, fun v q => nomatch q⟩
    · rw [z]; exact ⟨o, ho, fun v q => by rw [hd] at q; cases q⟩
  keep := fun i h h' st k => let ⟨⟨old, he⟩, hi, hne⟩ := st; ⟨⟨old, k e (by simp) _ he⟩, hi.at fun o q => k it (by simp) o q, hne⟩
  item := by
    intro X hP hw hK hc i pins s σ H E I hf st hg
    subst hP hw hK
    obtain ⟨⟨old, he⟩, hit, hne⟩ := st
    obtain ⟨xs, x, hq, hx⟩ := hg
    obtain ⟨its, rv, p, hz⟩ := I.tuple hq
    obtain ⟨u, hu, ru⟩ := rv.get hx
    have hel : e < s.heap.objs.size := Heap.lt_size he
    have hil : it < s.heap.objs.size := by obtain ⟨_, q, _⟩ := hit; exact Heap.lt_size q
    have hai : a ≠ it := fun z => by
      obtain ⟨o, ho, hc1, hd⟩ := hit
      obtain ⟨o2, ho2, hc2, _⟩ := p
      rw [z, ho] at ho2
      cases ho2
      rw [hc1] at hc2
      simp at hc2
    have hae : e ∉ [it, a] := fun z => by
      rcases List.mem_cons.mp z with z | z
      · exact hne z
      · have z : e = a := by simpa using z
        obtain ⟨o2, ho2, hc2, _⟩ := p
        rw [← z, he] at ho2
        cases ho2
        simp at hc2
    have hh : X.A.in1.handled = none := I.ok.hd hc
    have hlt : i < its.toArray.size := by
      have := (List.getElem?_eq_some_iff.mp hu).1
      simpa using this
    refine wpAny_pyNext_enum_itemD (Draws.tuple hh it a hai its.toArray) he ⟨hit, p⟩ hlt hne hae fun y h' tk hP ho hst hT hsz hk => ?_
    have ey : y = u := by
      have e1 : its[i]? = some y := by simpa using hP
      rw [hu] at e1; cases e1; rfl
    subst ey
    refine ⟨_, rfl, wpAny_letOwnedTupleGo_enum (s := { s with heap := h', toks := tk + 1 }) ho fun h'' he' sb => ?_⟩
    have hT2 : h''.get? s.heap.objs.size = some { cls := .type "tuple", data := .seq #[.int i tk, y] } := (sb.2 _ (Nat.ne_of_gt hel)).trans hT
    have new : ObjOk X.prog X.w (upd H s.heap.objs.size (.tup [.int (i : Nat), x])) h'' s.heap.objs.size (.tup [.int (i : Nat), x]) :=
      ⟨by show 2 ≤ sizeLine; decide, [.int i tk, y], .cons ⟨_, rfl⟩ (.cons ru .nil), ⟨_, hT2, rfl, _, rfl⟩⟩
    have I1 : Inv X pins σ (upd H s.heap.objs.size (.tup [.int (i : Nat), x])) { s with heap := h'', toks := tk + 1 } :=
      I.turnedNew (ch := [e, it]) (fun b ob hb q => (sb.2 b (fun z => hb (by simp [z]))).trans (hk b ob (fun z => hb (by simp [z])) (fun z => hb (by simp [z])) q)) hf (Nat.le_refl _) new
    refine ⟨.ref s.heap.objs.size, _, I1, rfl, ⟨_, x, rfl, I.hok.fresh (Nat.le_refl _), rfl, fun ys hy => by rw [I.tuple_inj hy hq]; exact hx⟩, ⟨⟨y, ?_⟩, hst.1.at fun o q => (sb.2 it (Ne.symm hne)).trans q, hne⟩, fun b hb => ?_⟩
    · have e1 : ((i + 1 : Nat) : Int) = (i : Int) + 1 := by omega
      rw [e1]; exact he'
    · have hb' : b < s.heap.objs.size := by
        have e' : b = e ∨ b = it := by simpa using hb
        rcases e' with z | z
        · rw [z]; exact hel
        · rw [z]; exact hil
      rw [upd_ne (Nat.ne_of_lt hb')]
      exact (hf b hb).1
  done := by
    intro X hP hw hK hc i pins s σ H E I hf st hg
    subst hP hw hK
    obtain ⟨⟨old, he⟩, hit, hne⟩ := st
    obtain ⟨xs, hq, hx⟩ := hg
    obtain ⟨its, rv, p, hz⟩ := I.tuple hq
    obtain ⟨f0, f1, f2, f3, f4, f5⟩ := hf it (by simp)
    have hl := rv.length
    have hai : a ≠ it := fun z => by
      obtain ⟨o, ho, hc1, hd⟩ := hit
      obtain ⟨o2, ho2, hc2, _⟩ := p
      rw [z, ho] at ho2
      cases ho2
      rw [hc1] at hc2
      simp at hc2
    have hh : X.A.in1.handled = none := I.ok.hd hc
    have hnone : its.toArray[i]? = none := by simp; omega
    have D : Draws X.prog X.w X.A.in1 it [it, a] i (fun _ _ => False) (fun j h => j = i ∧ h.IsTupleIter it a i ∧ h.IsTuple a its.toArray) :=
      { live := fun _ _ st => let ⟨o, ho, _⟩ := st.2.1; ⟨o, ho⟩
        frame := fun _ _ _ st hk => ⟨st.1, st.2.1.at fun o e => hk it (by simp) o e, st.2.2.at fun o e => hk a (by simp) o e⟩
        item := fun j s Q E hj st _ => absurd st.1 (by omega)
        done := fun s Q E st hE => wpAny_nextOf_tuple_end hh st.2.1 st.2.2 hnone hE }
    exact wpAny_pyNext_enum_endD D he ⟨rfl, hit, p⟩ fun h' eb => ⟨rfl, I.turned (t' := s.toks) (fun b o hb q => eb b o hb q) f0 f1 f3 f4 f5⟩
  self := fun A i s Q E st h => let ⟨⟨_, he⟩, _⟩ := st; wpAny_pyIter_enum he h
/-- enumerate(e), e a list or a tuple -/
def iEnumD (K : PySem.W.Frag) (te : TE) : TI := fun σ H R => te σ H fun x H1 => (∃ a xs, x = .ref a ∧ SqL K H1 a xs ∧ R (Ite K a) H1) ∨ ∃ a xs, x = .ref a ∧ SqT K H1 a xs ∧ R (IteT K a) H1
theorem pi_enumD {X : Cx} {e : Expr} {te : TE} {p pos tpos : Pos} {elts : List Expr} {kk : Nat} (hg : Gl X "enumerate") (hm : X.mg "enumerate" = none) (he : PE X e te) (hs : starEach [e] X.env = (false, eval e X.env) :: starEach [] X.env) :
    PI X (.Tuple elts kk tpos) (.Call (.Name "enumerate" p) [e] [] pos) (iEnumD X.K te) := by
  refine ⟨fun pins s σ H R I h => ?_⟩
  refine Call_ (ld_blt I hg hm boot_enumerate (PyProof.Rows.callWith_type1 (PyProof.Rows.args_cons (thn (he.run pins s σ H _ I h) fun u s1 ⟨x, H1, I1, r1, q1⟩ => PyProof.Rows.args_nil ?_) hs) hs rfl))
  rcases q1 with ⟨a, xs, rfl, hq, q⟩ | ⟨a, xs, rfl, hq, q⟩
  · cases r1
    obtain ⟨its, rv, p', hz⟩ := I1.list hq
    refine call_enumerate_list p'.isList fun h' he hit hsz hk => wpAny_pyIter_enum he ?_
    have I2 : Inv X pins σ H1 { s1 with heap := h' } := I1.kept (t' := s1.toks) hk
    refine ⟨s1.heap.objs.size + 1, [s1.heap.objs.size + 1, s1.heap.objs.size], _, _, H1, rfl, I2, turn_enum a (s1.heap.objs.size + 1) s1.heap.objs.size, ⟨⟨.none, he⟩, hit, Nat.succ_ne_self _⟩, fun b hb => ?_, q⟩
    have e' : b = s1.heap.objs.size + 1 ∨ b = s1.heap.objs.size := by simpa using hb
    have hle : s1.heap.objs.size ≤ b := by
      rcases e' with z | z
      · rw [z]; exact Nat.le_add_right _ _
      · rw [z]; exact Nat.le_refl _
    exact I1.fpOk hle (I1.hok.fresh hle)
  · cases r1
    obtain ⟨its, rv, p', hz⟩ := I1.tuple hq
    refine enum_begins1 (begins_tuple a its.toArray) p' fun h' he hit hsz hk => wpAny_pyIter_enum he ?_
    have I2 : Inv X pins σ H1 { s1 with heap := h' } := I1.kept (t' := s1.toks) hk
    refine ⟨s1.heap.objs.size + 1, [s1.heap.objs.size + 1, s1.heap.objs.size], _, _, H1, rfl, I2, turn_enumT a (s1.heap.objs.size + 1) s1.heap.objs.size, ⟨⟨.none, he⟩, ⟨_, hit, rfl, rfl⟩, Nat.succ_ne_self _⟩, fun b hb => ?_, q⟩
    have e' : b = s1.heap.objs.size + 1 ∨ b = s1.heap.objs.size := by simpa using hb
    have hle : s1.heap.objs.size ≤ b := by
      rcases e' with z | z
      · rw [z]; exact Nat.le_add_right _ _
      · rw [z]; exact Nat.le_refl _
    exact I1.fpOk hle (I1.hok.fresh hle)
end Pv

end
section
namespace Pv
open PySem PySem.Spec PyProof.Rows L2

/-! ### targets -/
mutual
inductive Tg where
  | var (i : Nat)
  | tup (ts : Tgs)
inductive Tgs where
  | nil
  | cons (t : Tg) (ts : Tgs)
end
mutual
def Tg.slots : Tg → List Nat
  | .var i => [i]
  | .tup ts => ts.slots
def Tgs.slots : Tgs → List Nat
  | .nil => []
  | .cons t ts => t.slots ++ ts.slots
end
def Tgs.len : Tgs → Nat
  | .nil => 0
  | .cons _ ts => ts.len + 1
mutual
def asgT : Tg → D → Env → Res Env
  | .var i, d, ρ => .ok (ρ.set i (some (false, d)))
  | .tup ts, .tuple ds, ρ => if ts.len == ds.length then asgTs ts ds ρ else .st
  | .tup _, _, _ => .st
def asgTs : Tgs → List D → Env → Res Env
  | .nil, [], ρ => .ok ρ
  | .cons t ts, d :: ds, ρ => do let ρ' ← asgT t d ρ; asgTs ts ds ρ'
  | _, _, _ => .st
end
/-- what is wanted behind an assignment -/
def RtG (K : PySem.W.Frag) (H : Hp) (A : List Addr) (O : List (Option Addr)) (sl : List Nat) (σ : L2.St) (Q : L2.St → Hp → Prop) : Res Env → Prop
  | .ok ρ' => ∀ σ' O', EnvOk K H A O' σ' ρ' → (∀ a, some a ∈ O' → some a ∈ O) → (∀ vs, (∀ i ∈ sl, i ∈ vs) → wipe σ' vs = wipe σ vs) → Q σ' H
  | _ => False
def tG (K : PySem.W.Frag) (t : Tg) : TG := fun v σ H Q => ∃ A O ρ d, AOk H A ∧ EnvOk K H A O σ ρ ∧ Rp K H A v d ∧ RtG K H A O t.slots σ Q (asgT t d ρ)
def tGs (K : PySem.W.Frag) (t : Tgs) : TGs := fun vs σ H Q => ∃ A O ρ ds, AOk H A ∧ EnvOk K H A O σ ρ ∧ RpL K H A vs ds ∧ RtG K H A O t.slots σ Q (asgTs t ds ρ)
def SG (c : Ctx) (tg : Expr) (t : Tg) : Prop := ∀ X Φ, Ok c X Φ → PG X tg (tG X.K t)
def SGs (c : Ctx) (tg : List Expr) (t : Tgs) : Prop := ∀ X Φ, Ok c X Φ → PGs X tg (tGs X.K t)
theorem pgI {X : Cx} {e : Expr} {t t' : TG} (h : PG X e t) (q : ∀ v σ H Q, t' v σ H Q → t v σ H Q) : PG X e t' := ⟨fun pins s σ H v u Q I r x => h.run pins s σ H v u Q I r (q v σ H Q x)⟩
theorem pgsI {X : Cx} {e : List Expr} {t t' : TGs} (h : PGs X e t) (q : ∀ v σ H Q, t' v σ H Q → t v σ H Q) : PGs X e t' := ⟨fun pins s σ H v u Q I r x => h.run pins s σ H v u Q I r (q v σ H Q x)⟩
theorem wipe_at {σ : L2.St} : ∀ {vs : List Nat} {i : Nat}, i < σ.length → (wipe σ vs)[i]? = if i ∈ vs then some none else σ[i]?
  | [], i, _ => by simp [wipe]
  | v :: vs, i, h => by
    have hl : v < (wipe σ vs).length ∨ ¬ v < (wipe σ vs).length := Nat.lt_or_ge _ _ |>.imp id Nat.not_lt.mpr
    unfold wipe
    rw [List.getElem?_set]
    by_cases e : v = i
    · subst e
      rw [if_pos rfl, wipe_length, if_pos h]
      simp
    · rw [if_neg e, wipe_at h]
      by_cases m : i ∈ vs
      · simp [m]
      · simp [m, Ne.symm e]
theorem wipe_set {σ : L2.St} {vs : List Nat} {i : Nat} {x : Option V} (h : i ∈ vs) : wipe (σ.set i x) vs = wipe σ vs := by
  apply List.ext_getElem?
  intro j
  by_cases hj : j < σ.length
  · rw [wipe_at hj, wipe_at (by rw [List.length_set]; exact hj)]
    by_cases m : j ∈ vs
    · rw [if_pos m, if_pos m]
    · rw [if_neg m, if_neg m, List.getElem?_set_ne (fun z => m (by rw [← z]; exact h))]
  · rw [List.getElem?_eq_none (by rw [wipe_length, List.length_set]; omega), List.getElem?_eq_none (by rw [wipe_length]; omega)]
def LocC (c : Ctx) (x : Str) : Prop := c.sc.names.lookup x = some .local ∨ (c.sc.names.lookup x = some .cell ∧ x ∈ c.cok)
section
variable {c : Ctx} {e : Expr} {es : List Expr} {pos : Pos}
theorem LocC.loc {x : Str} {X : Cx} {Φ : Calls} (h : LocC c x) (ok : Ok c X Φ) : Loc X.env.scope x ∧ (X.fn x = true ∨ X.env.scope.names.lookup x = some .local) := by
  rw [ok.sc]
  rcases h with h | ⟨h, m⟩
  · exact ⟨.inl h, .inr h⟩
  · exact ⟨.inr h, .inl (ok.cok x m)⟩
theorem sg_var {i : Nat} {x : Str} (hi : c.N[i]? = some x) (hx : LocC c x) : SG c (.Name x pos) (.var i) := fun X Φ ok =>
  pgI (pg_name (i := i) (by rw [ok.hN]; exact ok.nd) (by rw [ok.hN]; exact hi) (hx.loc ok).1 (hx.loc ok).2) fun v σ H Q ⟨A, O, ρ, d, hA, hρ, hd, q⟩ => by
    have e2 : EnvOk X.K H A (O.set i none) (σ.set i (some v)) (ρ.set i (some (false, d))) := hρ.set i hd
    exact q _ _ e2 (fun a ha => by
      rcases List.mem_or_eq_of_mem_set ha with h | h
      · exact h
      · cases h) fun vs h => wipe_set (h i (by simp [Tg.slots]))
theorem sgs_nil : SGs c [] .nil := fun X Φ ok => pgsI pgs_nil fun v σ H Q ⟨A, O, ρ, ds, hA, hρ, hd, q⟩ => by
  cases ds with
  | nil => cases hd; exact ⟨rfl, q _ _ hρ (fun _ h => h) fun _ _ => rfl⟩
  | cons d ds => exact q.elim
theorem sgs_cons {t : Tg} {ts : Tgs} (h : SG c e t) (hs : SGs c es ts) (hn : notStar e = true) : SGs c (e :: es) (.cons t ts) := fun X Φ ok =>
  pgsI (pgs_cons (h X Φ ok) (hs X Φ ok) (by cases e <;> first | rfl | cases hn)) fun v σ H Q ⟨A, O, ρ, ds, hA, hρ, hd, q⟩ => by
    cases ds with
    | nil => exact q.elim
    | cons d ds =>
      cases hd with
      | @cons v vs _ _ h1 h2 =>
        refine ⟨v, vs, rfl, A, O, ρ, d, hA, hρ, h1, ?_⟩
        have q : RtG X.K H A O (t.slots ++ ts.slots) σ Q (asgT t d ρ >>= fun ρ' => asgTs ts ds ρ') := q
        cases hr : asgT t d ρ with
        | st => rw [hr] at q; exact q
        | ex z => rw [hr] at q; exact q
        | ok ρ' =>
          rw [hr] at q
          intro σ' O' e1 e3 e2
          refine ⟨A, O', ρ', ds, hA, e1, h2, ?_⟩
          have q : RtG X.K H A O (t.slots ++ ts.slots) σ Q (asgTs ts ds ρ') := q
          cases hr2 : asgTs ts ds ρ' with
          | st => rw [hr2] at q; exact q
          | ex z => rw [hr2] at q; exact q
          | ok ρ2 =>
            rw [hr2] at q
            exact fun σ2 O2 e4 e6 e5 => q σ2 O2 e4 (fun a ha => e3 a (e6 a ha)) fun vs hv => (e5 vs fun i hi => hv i (by simp [hi])).trans (e2 vs fun i hi => hv i (by simp [hi]))
theorem each_len {env : PySem.Env} : ∀ {es : List Expr}, es.all notStar = true → (assignEach es env).length = es.length ∧ (assignEach es env).findIdx? (·.1) = none
  | [], _ => ⟨rfl, rfl⟩
  | e :: es, h => by
    rw [List.all_cons, Bool.and_eq_true] at h
    obtain ⟨h1, h2⟩ := each_len (env := env) h.2
    have e1 : assignEach (e :: es) env = (false, assign e env) :: assignEach es env := by
      have := h.1
      cases e <;> first | rfl | cases this
    rw [e1]
    refine ⟨by rw [List.length_cons, List.length_cons, h1], ?_⟩
    rw [List.findIdx?_cons]
    simp [h2]
theorem sg_tup {ts : Tgs} {k : Nat} (h : SGs c es ts) (hn : es.all notStar = true) (hl : es.length = ts.len) : SG c (.Tuple es k pos) (.tup ts) := fun X Φ ok =>
  pgI (pg_tup (n := es.length) ok.calm (h X Φ ok) (each_len hn).1 (each_len hn).2) fun v σ H Q ⟨A, O, ρ, d, hA, hρ, hd, q⟩ => by
    cases d with
    | tuple ds =>
      cases hd with
      | @tup a xs _ h1 h2 =>
        have q : RtG X.K H A O ts.slots σ Q (if ts.len == ds.length then asgTs ts ds ρ else .st) := q
        by_cases hz : (ts.len == ds.length) = true
        · rw [if_pos hz] at q
          have hz' := beq_iff_eq.mp hz
          exact ⟨a, xs, rfl, h1, by rw [h2.length]; omega, A, O, ρ, ds, hA, hρ, h2, q⟩
        · rw [if_neg hz] at q; exact q.elim
    | _ => exact q.elim
end

/-! ### what is walked -/
def Wk (K : PySem.W.Frag) (A B : List Addr) (J : It) (H1 : Hp) (ds : List D) : Prop := ∀ i H' A2, But B H1 H' → (∀ p ∈ A2, p ∈ A ∨ H1 p = none) →
  (∀ d, ds[i]? = some d → J.go i H' ∧ ∀ x H'', J.yld i H' x H'' → Same H' H'' ∧ Rp K H'' A2 x d) ∧ (ds.length ≤ i → J.stop i H')
def RtI (K : PySem.W.Frag) (mg : Str → Option Value) (W : WX) (A B : List Addr) (H : Hp) (σ : L2.St) (R : It → Hp → Prop) : Res (List D) → Prop
  | .st => False
  | .ok ds => ∀ J H1, Same H H1 → Wk K A B J H1 ds → R J H1
  | .ex c => ∀ C H', Same H H' → mg c = some (.ref C) → W (.ref C) none σ H'
/-- bor: the walked thing may be owned (nothing is changed meanwhile) -/
def tI (K : PySem.W.Frag) (mg : Str → Option Value) (W : WX) (bor : Bool) (f : Env → Res (List D)) : TI := fun σ H R => ∃ A O ρ, AOk H A ∧ EnvOk K H A O σ ρ ∧ RtI K mg W A (if bor then [] else A) H σ R (f ρ)
def SI (bor : Bool) (c : Ctx) (tg iter : Expr) (f : EvL) : Prop := ∀ X Φ W, Ok c X Φ → Takes X W → PI X tg iter (tI X.K X.mg W bor (f Φ))
theorem piI {X : Cx} {tg e : Expr} {t t' : TI} (h : PI X tg e t) (q : ∀ σ H R, t' σ H R → t σ H R) : PI X tg e t' := ⟨fun pins s σ H R I x => h.run pins s σ H R I (q σ H R x)⟩
section
variable {K : PySem.W.Frag} {A B : List Addr} {H1 : Hp} {ds : List D} {a : Addr} {xs : List V}
theorem wk_list (h : SqL K H1 a xs) (r : RpL K H1 A xs ds) (hs : ∀ H', But B H1 H' → SqL K H' a xs) (hB : AOk H1 B) (s : ∀ b ∈ B, b ∈ A) : Wk K A B (Itl K a) H1 ds := fun i H' A2 bt w => by
  have h' : SqL K H' a xs := hs H' bt
  have r' : RpL K H' A2 xs ds := r.go s hB bt w
  refine ⟨fun d hd => ?_, fun hz => ⟨xs, h', by rw [r.length]; exact hz⟩⟩
  obtain ⟨x, e1, e2⟩ := r'.get' hd
  refine ⟨⟨xs, x, h', e1⟩, fun y H'' hy => ?_⟩
  obtain ⟨rfl, hy⟩ := hy
  have := (hy xs h').symm.trans e1
  cases this
  exact ⟨Same.refl _, e2⟩
theorem wk_tup (h : SqT K H1 a xs) (r : RpL K H1 A xs ds) (hB : AOk H1 B) (s : ∀ b ∈ B, b ∈ A) : Wk K A B (Itt K a) H1 ds := fun i H' A2 bt w => by
  have h' : SqT K H' a xs := SqT_but bt hB h
  have r' : RpL K H' A2 xs ds := r.go s hB bt w
  refine ⟨fun d hd => ?_, fun hz => ⟨xs, h', by rw [r.length]; exact hz⟩⟩
  obtain ⟨x, e1, e2⟩ := r'.get' hd
  refine ⟨⟨xs, x, h', e1⟩, fun y H'' hy => ?_⟩
  obtain ⟨rfl, hy⟩ := hy
  have := (hy xs h').symm.trans e1
  cases this
  exact ⟨Same.refl _, e2⟩
theorem wk_str {z : Str} : Wk K A B (Its z) H1 (z.cps.toList.map fun c => .str ⟨#[c]⟩) := fun i H' A2 bt w => by
  refine ⟨fun d hd => ?_, fun hz => by simpa [Its] using hz⟩
  rw [List.getElem?_map] at hd
  obtain ⟨k, e1, rfl⟩ := Option.map_eq_some_iff.mp hd
  have e1' : z.cps[i]? = some k := by simpa using e1
  refine ⟨(Array.getElem?_eq_some_iff.mp e1').1, fun y H'' hy => ?_⟩
  obtain ⟨rfl, k', e2, rfl⟩ := hy
  rw [e1'] at e2
  cases e2
  exact ⟨Same.refl _, .str _⟩
def rngL (lo : Int) (n : Nat) : List D := (List.range n).map fun i => .int (lo + (i : Nat))
theorem wk_rng {lo : Int} {n : Nat} : Wk K A B (Itr lo n) H1 (rngL lo n) := fun i H' A2 bt w => by
  refine ⟨fun d hd => ?_, fun hz => by simpa [Itr, rngL] using hz⟩
  unfold rngL at hd
  rw [List.getElem?_map] at hd
  obtain ⟨k, e1, rfl⟩ := Option.map_eq_some_iff.mp hd
  obtain ⟨hk, e2⟩ := List.getElem?_eq_some_iff.mp e1
  have e3 : k = i := by simpa using e2.symm
  subst e3
  refine ⟨(by simpa using hk : k < n), fun y H'' hy => ?_⟩
  obtain ⟨rfl, rfl⟩ := hy
  exact ⟨Same.refl _, .int _⟩
def rngD (hi : Int) (n : Nat) : List D := (List.range n).map fun i => .int (hi + (i : Nat) * (-1))
theorem wk_rngD {lo : Int} {n : Nat} : Wk K A B (Itc lo (-1) n) H1 (rngD lo n) := fun i H' A2 bt w => by
  refine ⟨fun d hd => ?_, fun hz => by simpa [Itc, rngD] using hz⟩
  unfold rngD at hd
  rw [List.getElem?_map] at hd
  obtain ⟨k, e1, rfl⟩ := Option.map_eq_some_iff.mp hd
  obtain ⟨hk, e2⟩ := List.getElem?_eq_some_iff.mp e1
  have e3 : k = i := by simpa using e2.symm
  subst e3
  refine ⟨(by simpa using hk : k < n), fun y H'' hy => ?_⟩
  obtain ⟨rfl, rfl⟩ := hy
  exact ⟨Same.refl _, .int _⟩
def enumFrom (k : Nat) : List D → List D
  | [] => []
  | d :: ds => .tuple [.int (k : Nat), d] :: enumFrom (k + 1) ds
theorem enumFrom_len : ∀ (k : Nat) (ds : List D), (enumFrom k ds).length = ds.length
  | _, [] => rfl
  | k, d :: ds => by rw [enumFrom, List.length_cons, List.length_cons, enumFrom_len]
theorem enumFrom_get : ∀ (k : Nat) (ds : List D) (i : Nat), (enumFrom k ds)[i]? = ds[i]?.map fun d => .tuple [.int ((k + i : Nat) : Int), d]
  | _, [], _ => rfl
  | k, d :: ds, 0 => rfl
  | k, d :: ds, i + 1 => by
    rw [enumFrom, List.getElem?_cons_succ, List.getElem?_cons_succ, enumFrom_get (k + 1) ds i]
    have e : k + 1 + i = k + (i + 1) := by omega
    rw [e]
theorem wk_enum (h : SqL K H1 a xs) (r : RpL K H1 A xs ds) (hs : ∀ H', But B H1 H' → SqL K H' a xs) (hB : AOk H1 B) (s : ∀ b ∈ B, b ∈ A) : Wk K A B (Ite K a) H1 (enumFrom 0 ds) := fun i H' A2 bt w => by
  have h' : SqL K H' a xs := hs H' bt
  have r' : RpL K H' A2 xs ds := r.go s hB bt w
  refine ⟨fun d hd => ?_, fun hz => ⟨xs, h', by rw [r.length]; simpa [enumFrom_len] using hz⟩⟩
  rw [enumFrom_get, Nat.zero_add] at hd
  obtain ⟨d', e0, rfl⟩ := Option.map_eq_some_iff.mp hd
  obtain ⟨x, e1, e2⟩ := r'.get' e0
  refine ⟨⟨xs, x, h', e1⟩, fun y H'' hy => ?_⟩
  obtain ⟨T, x2, rfl, nT, rfl, hx⟩ := hy
  have := (hx xs h').symm.trans e1
  cases this
  exact ⟨same_upd nT, .tup (.inl (.inl upd_same)) (.cons (.int _) (.cons (e2.same (same_upd nT)) .nil))⟩
theorem wk_enumT (h : SqT K H1 a xs) (r : RpL K H1 A xs ds) (hB : AOk H1 B) (s : ∀ b ∈ B, b ∈ A) : Wk K A B (IteT K a) H1 (enumFrom 0 ds) := fun i H' A2 bt w => by
  have h' : SqT K H' a xs := SqT_but bt hB h
  have r' : RpL K H' A2 xs ds := r.go s hB bt w
  refine ⟨fun d hd => ?_, fun hz => ⟨xs, h', by rw [r.length]; simpa [enumFrom_len] using hz⟩⟩
  rw [enumFrom_get, Nat.zero_add] at hd
  obtain ⟨d', e0, rfl⟩ := Option.map_eq_some_iff.mp hd
  obtain ⟨x, e1, e2⟩ := r'.get' e0
  refine ⟨⟨xs, x, h', e1⟩, fun y H'' hy => ?_⟩
  obtain ⟨T, x2, rfl, nT, rfl, hx⟩ := hy
  have := (hx xs h').symm.trans e1
  cases this
  exact ⟨same_upd nT, .tup (.inl (.inl upd_same)) (.cons (.int _) (.cons (e2.same (same_upd nT)) .nil))⟩
theorem rev_get {α : Type} {l : List α} {i : Nat} {d : α} (h : l.reverse[i]? = some d) : i < l.length ∧ l[l.length - 1 - i]? = some d := by
  have hi : i < l.length := by
    have := (List.getElem?_eq_some_iff.mp h).1
    simpa using this
  exact ⟨hi, by rw [← List.getElem?_reverse hi]; exact h⟩
theorem wk_rev (h : SqL K H1 a xs) (r : RpL K H1 A xs ds) (hs : ∀ H', But B H1 H' → SqL K H' a xs) (hB : AOk H1 B) (s : ∀ b ∈ B, b ∈ A) : Wk K A B (Itv K a xs.length) H1 ds.reverse := fun i H' A2 bt w => by
  have h' : SqL K H' a xs := hs H' bt
  have r' : RpL K H' A2 xs ds := r.go s hB bt w
  have hl := r.length
  refine ⟨fun d hd => ?_, fun hz => (by simpa [hl] using hz : xs.length ≤ i)⟩
  obtain ⟨hi, hd⟩ := rev_get hd
  obtain ⟨x, e1, e2⟩ := r'.get' hd
  rw [← hl] at e1
  refine ⟨⟨by omega, xs, x, h', e1⟩, fun y H'' hy => ?_⟩
  obtain ⟨rfl, hy⟩ := hy
  have := (hy xs h').symm.trans e1
  cases this
  exact ⟨Same.refl _, e2⟩
theorem wk_revT (h : SqT K H1 a xs) (r : RpL K H1 A xs ds) (hB : AOk H1 B) (s : ∀ b ∈ B, b ∈ A) : Wk K A B (RT.ItvT K a xs.length) H1 ds.reverse := fun i H' A2 bt w => by
  have h' : SqT K H' a xs := SqT_but bt hB h
  have r' : RpL K H' A2 xs ds := r.go s hB bt w
  have hl := r.length
  refine ⟨fun d hd => ?_, fun hz => (by simpa [hl] using hz : xs.length ≤ i)⟩
  obtain ⟨hi, hd⟩ := rev_get hd
  obtain ⟨x, e1, e2⟩ := r'.get' hd
  rw [← hl] at e1
  refine ⟨⟨by omega, xs, x, h', e1⟩, fun y H'' hy => ?_⟩
  obtain ⟨rfl, hy⟩ := hy
  have := (hy xs h').symm.trans e1
  cases this
  exact ⟨Same.refl _, e2⟩
end

/-! the iterators of the text -/
def itemsOf : D → Res (List D)
  | .list ds => .ok ds
  | .tuple ds => .ok ds
  | .str z => .ok (z.cps.toList.map fun c => .str ⟨#[c]⟩)
  | _ => .st
def seqOf : D → Res (List D)
  | .list ds => .ok ds
  | .tuple ds => .ok ds
  | _ => .st
/-- a value walked: list, tuple, text -/
theorem pi_dyn {X : Cx} {tg l : Expr} {tl : TE} (hl : PE X l tl) : PI X tg l (fun σ H R => tl σ H fun x H1 => (∃ a xs, x = .ref a ∧ SqL X.K H1 a xs ∧ R (Itl X.K a) H1) ∨ (∃ a xs, x = .ref a ∧ SqT X.K H1 a xs ∧ R (Itt X.K a) H1) ∨ ∃ z, x = .str z ∧ R (Its z) H1) := by
  refine ⟨fun pins s σ H R I h => ?_⟩
  refine thn (hl.run pins s σ H _ I h) fun v s1 ⟨x, H1, I1, r1, q1⟩ => ?_
  rcases q1 with ⟨a, xs, rfl, hq, q⟩ | ⟨a, xs, rfl, hq, q⟩ | ⟨z, rfl, q⟩
  · cases r1
    obtain ⟨its, rv, p, hz⟩ := I1.list hq
    refine wpAny_pyIter_list p.isList ?_
    refine ⟨s1.heap.objs.size, [s1.heap.objs.size], _, _, H1, rfl, I1.kept (t' := s1.toks) fun b o e => Heap.get?_push_of_some _ e, turn_list a _, ⟨_, Heap.get?_push_size _ rfl, rfl, rfl⟩, fun b hb => ?_, q⟩
    have e : b = s1.heap.objs.size := by simpa using hb
    subst e
    exact I1.fpOk (Nat.le_refl _) (I1.hok.fresh (Nat.le_refl _))
  · cases r1
    obtain ⟨its, rv, p, hz⟩ := I1.tuple hq
    refine wpAny_pyIter_tuple (show s1.heap.IsTuple a its.toArray from p) ?_
    refine ⟨s1.heap.objs.size, [s1.heap.objs.size], _, _, H1, rfl, I1.kept (t' := s1.toks) fun b o e => Heap.get?_push_of_some _ e, turn_tuple a _, ⟨_, Heap.get?_push_size _ rfl, rfl, rfl⟩, fun b hb => ?_, q⟩
    have e : b = s1.heap.objs.size := by simpa using hb
    subst e
    exact I1.fpOk (Nat.le_refl _) (I1.hok.fresh (Nat.le_refl _))
  · obtain ⟨t, rfl⟩ := r1
    cases ha : z.cps.all (· < 128)
    · exact wpAny_pyIter_wide ha (pi_one (tk := s1.toks) I1 _ (turn_str _ z t "str_iterator" (.inr rfl)) ⟨_, Heap.get?_push_size _ rfl, rfl, rfl⟩ q)
    · exact wpAny_pyIter_ascii ha (pi_one (tk := s1.toks) I1 _ (turn_str _ z t "str_ascii_iterator" (.inl rfl)) ⟨_, Heap.get?_push_size _ rfl, rfl, rfl⟩ q)
section
variable {c : Ctx} {tg a b : Expr} {fa fb : EvE} {pos p : Pos}
/-- the walked value, where bor: it may be owned -/
def pS (bor : Bool) : PSh := if bor then pB else pE
abbrev bS (bor : Bool) (A : List Addr) : List Addr := if bor then [] else A
theorem bS_ok {H : Hp} {A : List Addr} (bor : Bool) (hA : AOk H A) : AOk H (bS bor A) ∧ ∀ b ∈ bS bor A, b ∈ A := by
  cases bor
  · exact ⟨hA, fun _ h => h⟩
  · exact ⟨AOk.nil, by simp [bS]⟩
theorem pS_list {K : PySem.W.Frag} {H : Hp} {A : List Addr} {v : V} {ds : List D} (bor : Bool) (h : pS bor K A H v (.list ds)) : ∃ a xs, v = .ref a ∧ SqL K H a xs ∧ RpL K H A xs ds ∧ ∀ H', But (bS bor A) H H' → SqL K H' a xs := by
  cases bor
  · have h : Rp K H A v (.list ds) := h
    cases h with
    | @lst a xs _ hq r =>
      refine ⟨a, xs, rfl, hq.sq, r, fun H' bt => ?_⟩
      rcases hq with ⟨h, n⟩ | h
      · exact .inl (Rd_but bt n h)
      · exact .inr h
  · obtain ⟨a, xs, rfl, h, r⟩ := (show RpB K H A v (.list ds) from h)
    exact ⟨a, xs, rfl, h, r, fun H' bt => (show Same H H' from fun b o e => bt b o (by simp [bS]) e).seq h⟩
theorem pS_tup {K : PySem.W.Frag} {H : Hp} {A : List Addr} {v : V} {ds : List D} (bor : Bool) (h : pS bor K A H v (.tuple ds)) : ∃ a xs, v = .ref a ∧ SqT K H a xs ∧ RpL K H A xs ds := by
  have h : Rp K H A v (.tuple ds) := by cases bor <;> exact h
  cases h with
  | @tup a xs _ hq r => exact ⟨a, xs, rfl, hq, r⟩
theorem pS_str {K : PySem.W.Frag} {H : Hp} {A : List Addr} {v : V} {z : Str} (bor : Bool) (h : pS bor K A H v (.str z)) : v = .str z := by
  have h : Rp K H A v (.str z) := by cases bor <;> exact h
  cases h; rfl
theorem pS_int {K : PySem.W.Frag} {H : Hp} {A : List Addr} {v : V} {z : Int} (bor : Bool) (h : pS bor K A H v (.int z)) : v = .int z := by
  have h : Rp K H A v (.int z) := by cases bor <;> exact h
  cases h; rfl
theorem rti_ok {K : PySem.W.Frag} {mg : Str → Option Value} {W : WX} {A B : List Addr} {H : Hp} {σ : L2.St} {R : It → Hp → Prop} {m : Res D} {g : D → Res (List D)} {P : Hp → V → D → Prop} {Q : VK} (h : RtI K mg W A B H σ R (m >>= g))
    (k : ∀ d v H1, Same H H1 → P H1 v d → RtI K mg W A B H1 σ R (g d) → Q v H1) : Rt mg W P H σ Q m := by
  cases m with
  | st => exact h
  | ex z => exact h
  | ok d =>
    intro v H1 s p
    refine k d v H1 s p ?_
    have h : RtI K mg W A B H σ R (g d) := h
    cases hg : g d with
    | st => rw [hg] at h; exact h
    | ok ds => rw [hg] at h; exact fun J H2 s2 => h J H2 (s.trans s2)
    | ex z => rw [hg] at h; exact fun C H2 s2 => h C H2 (s.trans s2)
theorem rti_okL {K : PySem.W.Frag} {mg : Str → Option Value} {W : WX} {A B : List Addr} {H : Hp} {σ : L2.St} {R : It → Hp → Prop} {m : Res (List D)} {g : List D → Res (List D)} {P : Hp → List V → List D → Prop} {Q : List V → Hp → Prop} (h : RtI K mg W A B H σ R (m >>= g))
    (k : ∀ d v H1, Same H H1 → P H1 v d → RtI K mg W A B H1 σ R (g d) → Q v H1) : RtL mg W P H σ Q m := by
  cases m with
  | st => exact h
  | ex z => exact h
  | ok d =>
    intro v H1 s p
    refine k d v H1 s p ?_
    have h : RtI K mg W A B H σ R (g d) := h
    cases hg : g d with
    | st => rw [hg] at h; exact h
    | ok ds => rw [hg] at h; exact fun J H2 s2 => h J H2 (s.trans s2)
    | ex z => rw [hg] at h; exact fun C H2 s2 => h C H2 (s.trans s2)
theorem si_val (bor : Bool) (ha : SX (pS bor) c a fa) : SI bor c tg a (fun Φ ρ => do let d ← fa Φ ρ; itemsOf d) := fun X Φ W ok tk =>
  piI (pi_dyn (ha X Φ W ok tk)) fun σ H R ⟨A, O, ρ, hA, hρ, q⟩ => ⟨A, O, ρ, hA, hρ, rti_ok q fun d v H1 s1 p1 q1 => by
    obtain ⟨b1, b2⟩ := bS_ok bor (hA.same s1)
    cases d with
    | list ds =>
      obtain ⟨a, xs, rfl, h, r, hs⟩ := pS_list bor p1
      exact .inl ⟨a, xs, rfl, h, q1 _ _ (Same.refl _) (wk_list h r hs b1 b2)⟩
    | tuple ds =>
      obtain ⟨a, xs, rfl, h, r⟩ := pS_tup bor p1
      exact .inr (.inl ⟨a, xs, rfl, h, q1 _ _ (Same.refl _) (wk_tup h r b1 b2)⟩)
    | str z =>
      have := pS_str bor p1
      subst this
      exact .inr (.inr ⟨z, rfl, q1 _ _ (Same.refl _) wk_str⟩)
    | _ => exact q1.elim⟩
/-! range, enumerate, reversed -/
def i62 (i : Int) : Bool := decide (-(2 ^ 62) ≤ i) && decide (i < 2 ^ 62)
theorem i62_lt {i : Int} (h : i62 i = true) : -(2 ^ 62) ≤ i ∧ i < 2 ^ 62 := ⟨of_decide_eq_true (and2 h).1, of_decide_eq_true (and2 h).2⟩
def rng : List D → Res (List D)
  | [.int j] => if i62 j then .ok (rngL 0 j.toNat) else .st
  | [.int i, .int j] => if i62 i && i62 j then .ok (rngL i (j - i).toNat) else .st
  | [.int i, .int j, .int k] => if i62 i && i62 j && k == -1 then .ok (rngD i (i - j).toNat) else .st
  | _ => .st
theorem rpls1 {K : PySem.W.Frag} {H : Hp} {A : List Addr} {vs : List V} {i : Int} (h : RpL K H A vs [.int i]) : vs = [.int i] := by
  cases h with | cons h r => cases r; cases h; rfl
theorem rpls2 {K : PySem.W.Frag} {H : Hp} {A : List Addr} {vs : List V} {i j : Int} (h : RpL K H A vs [.int i, .int j]) : vs = [.int i, .int j] := by
  cases h with | cons h r => cases r with | cons h' r => cases r; cases h; cases h'; rfl
theorem rpls3 {K : PySem.W.Frag} {H : Hp} {A : List Addr} {vs : List V} {i j k : Int} (h : RpL K H A vs [.int i, .int j, .int k]) : vs = [.int i, .int j, .int k] := by
  cases h with | cons h r => cases r with | cons h' r => cases r with | cons h'' r => cases r; cases h; cases h'; cases h''; rfl
theorem si_rng1 {fs : EvL} (bor : Bool) (hb : ("range" : Str) ∈ c.blts) (hk : c.sc.names.lookup ("range" : Str) = some .globalImplicit) (hs : SXs pEs c [a] fs) (hn : notStar a = true) : SI bor c tg (.Call (.Name "range" p) [a] [] pos) (fun Φ ρ => do let r ← fs Φ ρ; match r with | [_] => rng r | _ => .st) := fun X Φ W ok tk =>
  piI (pi_range1 (gl_of ok hk) (ok.blt _ hb) (hs X Φ W ok tk) (star_of hn _ _)) fun σ H R ⟨A, O, ρ, hA, hρ, q⟩ => ⟨A, O, ρ, hA, hρ, rti_okL q fun ds vs H1 s1 p1 q1 => by
    match ds, p1, q1 with
    | [.int j], p1, q1 =>
      have q1 : RtI X.K X.mg W A _ H1 σ R (if i62 j then .ok (rngL 0 j.toNat) else .st) := q1
      by_cases hj : i62 j = true
      · rw [if_pos hj] at q1
        exact ⟨j, rpls1 p1, (i62_lt hj).1, (i62_lt hj).2, q1 _ _ (Same.refl _) wk_rng⟩
      · rw [if_neg hj] at q1; exact q1.elim
    | [.none], _, q1 => exact q1.elim
    | [.bool _], _, q1 => exact q1.elim
    | [.str _], _, q1 => exact q1.elim
    | [.list _], _, q1 => exact q1.elim
    | [.tuple _], _, q1 => exact q1.elim
    | [.dict _], _, q1 => exact q1.elim
    | [], _, q1 => exact q1.elim
    | _ :: _ :: _, _, q1 => exact q1.elim⟩
theorem si_rng2 {fs : EvL} (bor : Bool) (hb : ("range" : Str) ∈ c.blts) (hk : c.sc.names.lookup ("range" : Str) = some .globalImplicit) (hs : SXs pEs c [a, b] fs) (hn : notStar a = true) (hn2 : notStar b = true) : SI bor c tg (.Call (.Name "range" p) [a, b] [] pos) (fun Φ ρ => do let r ← fs Φ ρ; match r with | [_, _] => rng r | _ => .st) := fun X Φ W ok tk =>
  piI (pi_range2 (gl_of ok hk) (ok.blt _ hb) (hs X Φ W ok tk) (by rw [star_of hn, star_of hn2]; rfl) (by rw [star_of hn2]; rfl)) fun σ H R ⟨A, O, ρ, hA, hρ, q⟩ => ⟨A, O, ρ, hA, hρ, rti_okL q fun ds vs H1 s1 p1 q1 => by
    have go : ∀ i j, ds = [.int i, .int j] → iRng2 (fun σ H Q => Q vs H1) σ H1 R → ∃ i j : Int, vs = [.int i, .int j] ∧ (-(2 ^ 62) ≤ i ∧ i < 2 ^ 62 ∧ -(2 ^ 62) ≤ j ∧ j < 2 ^ 62) ∧ R (Itr i (j - i).toNat) H1 := fun _ _ _ h => h
    by_cases hd : ∃ i j, ds = [.int i, .int j]
    · obtain ⟨i, j, rfl⟩ := hd
      have q1 : RtI X.K X.mg W A _ H1 σ R (if i62 i && i62 j then .ok (rngL i (j - i).toNat) else .st) := q1
      by_cases hj : (i62 i && i62 j) = true
      · rw [if_pos hj] at q1
        obtain ⟨h1, h2⟩ := and2 hj
        exact ⟨i, j, rpls2 p1, ⟨(i62_lt h1).1, (i62_lt h1).2, (i62_lt h2).1, (i62_lt h2).2⟩, q1 _ _ (Same.refl _) wk_rng⟩
      · rw [if_neg hj] at q1; exact q1.elim
    · exfalso
      match ds, q1, hd with
      | [], q1, _ => exact q1
      | [_], q1, _ => exact q1
      | _ :: _ :: _ :: _, q1, _ => exact q1
      | [x, y], q1, hd =>
        cases x <;> first
          | exact q1
          | (cases y <;> first
              | exact q1
              | exact hd ⟨_, _, rfl⟩)⟩
theorem si_rng3 {d : Expr} {fs : EvL} (bor : Bool) (hb : ("range" : Str) ∈ c.blts) (hk : c.sc.names.lookup ("range" : Str) = some .globalImplicit) (hs : SXs pEs c [a, b, d] fs) (hn : notStar a = true) (hn2 : notStar b = true) (hn3 : notStar d = true) : SI bor c tg (.Call (.Name "range" p) [a, b, d] [] pos) (fun Φ ρ => do let r ← fs Φ ρ; match r with | [_, _, _] => rng r | _ => .st) := fun X Φ W ok tk =>
  piI (pi_range3 (gl_of ok hk) (ok.blt _ hb) (hs X Φ W ok tk) (star_of hn _ _) (stars_of (by simp [hn2, hn3]))) fun σ H R ⟨A, O, ρ, hA, hρ, q⟩ => ⟨A, O, ρ, hA, hρ, rti_okL q fun ds vs H1 s1 p1 q1 => by
    by_cases hd : ∃ i j k, ds = [.int i, .int j, .int k]
    · obtain ⟨i, j, k, rfl⟩ := hd
      have q2 : RtI X.K X.mg W A (if bor then [] else A) H1 σ R (if i62 i && i62 j && k == -1 then .ok (rngD i (i - j).toNat) else .st) := q1
      clear q1
      by_cases hj : (i62 i && i62 j && k == -1) = true
      · obtain ⟨h1, h2, h3⟩ := and3 hj
        rw [if_pos hj] at q2
        have q3 : ∀ J H2, Same H1 H2 → Wk X.K A (if bor then [] else A) J H2 (rngD i (i - j).toNat) → R J H2 := q2
        clear q2 hj
        have hk3 := beq_iff_eq.mp h3
        rw [hk3] at p1
        exact ⟨i, j, -1, (i - j).toNat, rpls3 p1, RgC.neg (i62_lt h1).1 (i62_lt h1).2 (i62_lt h2).1 (i62_lt h2).2, q3 _ _ (Same.refl _) wk_rngD⟩
      · rw [if_neg hj] at q2; exact q2.elim
    · exfalso
      match ds, q1, hd with
      | [], q1, _ => exact q1
      | [_], q1, _ => exact q1
      | [_, _], q1, _ => exact q1
      | _ :: _ :: _ :: _ :: _, q1, _ => exact q1
      | [x, y, z], q1, hd =>
        cases x <;> first
          | exact q1
          | (cases y <;> first
              | exact q1
              | (cases z <;> first
                  | exact q1
                  | exact hd ⟨_, _, _, rfl⟩))⟩
theorem si_rev (bor : Bool) (hb : ("reversed" : Str) ∈ c.blts) (hk : c.sc.names.lookup ("reversed" : Str) = some .globalImplicit) (ha : SX (pS bor) c a fa) (hn : notStar a = true) : SI bor c tg (.Call (.Name "reversed" p) [a] [] pos) (fun Φ ρ => do let d ← fa Φ ρ; let r ← seqOf d; pure r.reverse) := fun X Φ W ok tk =>
  piI (RT.pi_revA (gl_of ok hk) (ok.blt _ hb) (ha X Φ W ok tk) (star_of hn _ _)) fun σ H R ⟨A, O, ρ, hA, hρ, q⟩ => ⟨A, O, ρ, hA, hρ, rti_ok q fun d v H1 s1 p1 q1 => by
    obtain ⟨b1, b2⟩ := bS_ok bor (hA.same s1)
    cases d with
    | list ds =>
      obtain ⟨a, xs, rfl, h, r, hs⟩ := pS_list bor p1
      exact ⟨a, xs, rfl, .inl ⟨h, q1 _ _ (Same.refl _) (wk_rev h r hs b1 b2)⟩⟩
    | tuple ds =>
      obtain ⟨a, xs, rfl, h, r⟩ := pS_tup bor p1
      exact ⟨a, xs, rfl, .inr ⟨h, q1 _ _ (Same.refl _) (wk_revT h r b1 b2)⟩⟩
    | _ => exact q1.elim⟩
theorem si_enm {elts : List Expr} {kk : Nat} {tpos : Pos} (bor : Bool) (hb : ("enumerate" : Str) ∈ c.blts) (hk : c.sc.names.lookup ("enumerate" : Str) = some .globalImplicit) (ha : SX (pS bor) c a fa) (hn : notStar a = true) : SI bor c (.Tuple elts kk tpos) (.Call (.Name "enumerate" p) [a] [] pos) (fun Φ ρ => do let d ← fa Φ ρ; let r ← seqOf d; pure (enumFrom 0 r)) := fun X Φ W ok tk =>
  piI (pi_enumD (gl_of ok hk) (ok.blt _ hb) (ha X Φ W ok tk) (star_of hn _ _)) fun σ H R ⟨A, O, ρ, hA, hρ, q⟩ => ⟨A, O, ρ, hA, hρ, rti_ok q fun d v H1 s1 p1 q1 => by
    obtain ⟨b1, b2⟩ := bS_ok bor (hA.same s1)
    cases d with
    | list ds =>
      obtain ⟨a, xs, rfl, h, r, hs⟩ := pS_list bor p1
      exact .inl ⟨a, xs, rfl, h, q1 _ _ (Same.refl _) (wk_enum h r hs b1 b2)⟩
    | tuple ds =>
      obtain ⟨a, xs, rfl, h, r⟩ := pS_tup bor p1
      exact .inr ⟨a, xs, rfl, h, q1 _ _ (Same.refl _) (wk_enumT h r b1 b2)⟩
    | _ => exact q1.elim⟩
end
end Pv

end
section
namespace Pv
open PySem PySem.Spec PyProof.Rows L2

/-! ### list comprehensions -/
def noex {α : Type} : Res α → Res α
  | .ex _ => .st
  | r => r
def wipeE (ρ : Env) : List Nat → Env
  | [] => ρ
  | v :: vs => (wipeE ρ vs).set v none
def wipeO (O : List (Option Addr)) : List Nat → List (Option Addr)
  | [] => O
  | v :: vs => (wipeO O vs).set v none
theorem EnvOk.wipe {K : PySem.W.Frag} {H : Hp} {A : List Addr} {O : List (Option Addr)} {σ : L2.St} {ρ : Env} (h : EnvOk K H A O σ ρ) : ∀ vs : List Nat, EnvOk K H A (wipeO O vs) (L2.wipe σ vs) (wipeE ρ vs)
  | [] => h
  | v :: vs => (EnvOk.wipe h vs).gone none v
/-- what is wanted of a new list -/
def RtF (K : PySem.W.Frag) (mg : Str → Option Value) (W : WX) (A : List Addr) (H : Hp) (σ : L2.St) (Q : VK) : Res D → Prop
  | .ok (.list ds) => ∀ p xs H', Same H H' → H p = none → H' p = some (.lst xs) → RpL K H' (p :: A) xs ds → Q (.ref p) H'
  | .ex c => ∀ C H', Same H H' → mg c = some (.ref C) → W (.ref C) none σ H'
  | _ => False
/-- the items kept, each by its element -/
def lcL (asg : D → Res Env) (cond : Env → Res D) (elt : Env → Res D) : List D → Res (List D)
  | [] => .ok []
  | d :: ds => do
    let ρ' ← noex (asg d)
    let k ← noex (cond ρ')
    match k with
    | .bool true => do let y ← noex (elt ρ'); let r ← lcL asg cond elt ds; pure (y :: r)
    | .bool false => lcL asg cond elt ds
    | _ => .st
def lcE (own : List Nat) (t : Tg) (fi : EvL) (fc fe : EvE) : EvE := fun Φ ρ => do
  let ds ← fi Φ ρ
  if sm ds.length then do
    let r ← lcL (fun d => asgT t d (wipeE ρ own)) (fc Φ) (fe Φ) ds
    pure (.list r)
  else .st
def STs (c : Ctx) (es : List Expr) (f : EvE) : Prop := ∀ X Φ W, Ok c X Φ → Takes X W → PTs X es (tXT X.K X.mg W (f Φ))
section
variable {c : Ctx} {a e iter tg : Expr} {fa fc fe : EvE} {fi : EvL} {pos : Pos}
theorem sts_nil : STs c [] (fun _ _ => .ok (.bool true)) := fun X Φ W ok tk => ⟨fun pins s σ H Q I ⟨A, O, ρ, hA, hρ, q⟩ => pts_nil.run pins s σ H Q I (q _ (Same.refl _))⟩
theorem sts_one (h : ST c a fa) : STs c [a] fa := fun X Φ W ok tk => pts_one (h X Φ W ok tk)
theorem lcL_len {asg : D → Res Env} {cond elt : Env → Res D} : ∀ {ds r : List D}, lcL asg cond elt ds = .ok r → r.length ≤ ds.length
  | [], r, h => by cases h; simp
  | d :: ds, r, h => by
    unfold lcL at h
    cases h1 : noex (asg d) with
    | st => rw [h1] at h; cases h
    | ex z => rw [h1] at h; cases h
    | ok ρ' =>
      rw [h1, Res.ok_bind] at h
      cases h2 : noex (cond ρ') with
      | st => rw [h2] at h; cases h
      | ex z => rw [h2] at h; cases h
      | ok k =>
        rw [h2, Res.ok_bind] at h
        cases k with
        | bool b =>
          cases b with
          | true =>
            have h : (noex (elt ρ') >>= fun y => lcL asg cond elt ds >>= fun r => pure (y :: r)) = .ok r := h
            cases h3 : noex (elt ρ') with
            | st => rw [h3] at h; cases h
            | ex z => rw [h3] at h; cases h
            | ok y =>
              rw [h3, Res.ok_bind] at h
              cases h4 : lcL asg cond elt ds with
              | st => rw [h4] at h; cases h
              | ex z => rw [h4] at h; cases h
              | ok r' =>
                rw [h4] at h
                cases h
                have := lcL_len h4
                simp; omega
          | false =>
            have := lcL_len (show lcL asg cond elt ds = .ok r from h)
            simp; omega
        | _ => cases h
/-- the context of the comprehension's block -/
def Ctx.blk (c : Ctx) (scope : Scope) : Ctx := { c with sc := relS scope c.sc, cok := (scope.names.filter fun p => p.2 == .cell).map (·.1) }
theorem ok_blk {X : Cx} {Φ : Calls} (ok : Ok c X Φ) {scope : Scope} {own : List (Str × Nat)} (bo : BlkOk c.N c.sc scope own) (s : Shared) (H : Hp) (C : Addr) (cl : List (Str × Addr)) (fp : List Addr) : Ok (c.blk scope) (X.blk s H scope (compEnvC scope cl C X.env) fp) Φ :=
  ⟨ok.hN, ok.nd, by show relS scope X.env.scope = relS scope c.sc; rw [ok.sc], ok.calm, ok.hu, ok.blt, ok.gl, ok.fns, ok.exc, fun x hx => by
    obtain ⟨⟨y, k⟩, hp, rfl⟩ := List.mem_map.mp hx
    obtain ⟨h1, h2⟩ := List.mem_filter.mp hp
    have hk : k = .cell := by simpa using h2
    subst hk
    show (scope.names.lookup y == some NameKind.cell) = true
    rw [bo.uniq _ h1]
    rfl⟩
abbrev W0 : WX := fun _ _ _ _ => False
/-- the reading of a comprehension -/
theorem lc_readF {K : PySem.W.Frag} {mg : Str → Option Value} {W : WX} {bor : Bool} {t : Tg} {Φ : Calls} {own : List Nat} (ht : ∀ i ∈ t.slots, i ∈ own) {A : List Addr} {O : List (Option Addr)} {ρ : Env} {σ : L2.St} {H : Hp} {Q : VK} (hA : AOk H A) (hρ : EnvOk K H A O σ ρ)
    (q : RtF K mg W A H σ Q (lcE own t fi fc fe Φ ρ)) : tLc (tI K mg W bor (fi Φ)) (tG K t) (tXT K mg W0 (fc Φ)) (tX K mg W0 pE (fe Φ)) own σ H Q := by
  refine ⟨A, O, ρ, hA, hρ, ?_⟩
  unfold lcE at q
  cases hi : fi Φ ρ with
  | st => rw [hi] at q; exact q
  | ex z => rw [hi] at q; exact q
  | ok ds =>
    rw [hi, Res.ok_bind] at q
    intro J H1 s1 wk D nD
    have hsm : sm ds.length = true := by
      by_cases h : sm ds.length = true
      · exact h
      · rw [if_neg h] at q; exact q.elim
    rw [if_pos hsm] at q
    cases hr : lcL (fun d => asgT t d (wipeE ρ own)) (fc Φ) (fe Φ) ds with
    | st => rw [hr] at q; exact q.elim
    | ex z =>
      exfalso
      have : ∀ ds, lcL (fun d => asgT t d (wipeE ρ own)) (fc Φ) (fe Φ) ds ≠ .ex z := by
        intro ds
        induction ds with
        | nil => intro h; cases h
        | cons d ds ih =>
          intro h
          unfold lcL at h
          cases h1 : noex (asgT t d (wipeE ρ own)) with
          | st => rw [h1] at h; cases h
          | ex z => cases h0 : asgT t d (wipeE ρ own) <;> rw [h0] at h1 <;> cases h1
          | ok ρ' =>
            rw [h1, Res.ok_bind] at h
            cases h2 : noex (fc Φ ρ') with
            | st => rw [h2] at h; cases h
            | ex z => cases h0 : fc Φ ρ' <;> rw [h0] at h2 <;> cases h2
            | ok k =>
              rw [h2, Res.ok_bind] at h
              cases k with
              | bool b =>
                cases b with
                | true =>
                  have h : (noex (fe Φ ρ') >>= fun y => lcL (fun d => asgT t d (wipeE ρ own)) (fc Φ) (fe Φ) ds >>= fun r => pure (y :: r)) = .ex z := h
                  cases h3 : noex (fe Φ ρ') with
                  | st => rw [h3] at h; cases h
                  | ex z => cases h0 : fe Φ ρ' <;> rw [h0] at h3 <;> cases h3
                  | ok y =>
                    rw [h3, Res.ok_bind] at h
                    cases h4 : lcL (fun d => asgT t d (wipeE ρ own)) (fc Φ) (fe Φ) ds with
                    | st => rw [h4] at h; cases h
                    | ok r => rw [h4] at h; cases h
                    | ex z' => rw [h4] at h; cases h; exact ih h4
                | false => exact ih h
              | _ => cases h
      exact this ds hr
    | ok total =>
      rw [hr] at q
      have q : ∀ p xs H', Same H H' → H p = none → H' p = some (.lst xs) → RpL K H' (p :: A) xs total → Q (.ref p) H' := q
      have hA1 := hA.same s1
      have hρ1 := hρ.same s1
      have hz : ds.length ≤ 1000000 := of_decide_eq_true hsm
      have hS := sizeLine_eq
      -- the invariant
      refine ⟨fun i m H2 => m = ds.length - i ∧ i ≤ ds.length ∧ Same H1 H2 ∧ ∃ acc accD rest, H2 D = some (.lst acc) ∧ RpL K H2 (D :: A) acc accD ∧ lcL (fun d => asgT t d (wipeE ρ own)) (fc Φ) (fe Φ) (ds.drop i) = .ok rest ∧ accD ++ rest = total ∧ accD.length ≤ i,
        ⟨ds.length, by simp, Nat.zero_le _, same_upd nD, [], [], total, upd_same, .nil, by simpa using hr, rfl, Nat.le_refl _⟩, ?_⟩
      rintro i m H2 ⟨rfl, hi, s2, acc, accD, rest, hD, hacc, hrest, htot, hlen⟩
      have hA2 : AOk H2 (D :: A) := fun p hp => by
        rcases List.mem_cons.mp hp with rfl | hp
        · exact ⟨_, hD, trivial⟩
        · exact (hA1.same s2) p hp
      have hρ2 : EnvOk K H2 (D :: A) O σ ρ := (hρ1.new nD).same s2
      obtain ⟨wgo, wst⟩ := wk i H2 (D :: A) (fun b o _ e => s2 b o e) fun p hp => by
        rcases List.mem_cons.mp hp with rfl | hp
        · exact .inr nD
        · exact .inl hp
      by_cases hlt : i < ds.length
      · have hd : ds[i]? = some ds[i] := List.getElem?_eq_getElem hlt
        obtain ⟨go, yl⟩ := wgo _ hd
        have hdrop : ds.drop i = ds[i] :: ds.drop (i + 1) := List.drop_eq_getElem_cons hlt
        rw [hdrop] at hrest
        unfold lcL at hrest
        cases h1 : asgT t ds[i] (wipeE ρ own) with
        | st => rw [h1] at hrest; cases hrest
        | ex z => rw [h1] at hrest; cases hrest
        | ok ρ' =>
          have e1 : noex (asgT t ds[i] (wipeE ρ own)) = .ok ρ' := by rw [h1]; rfl
          rw [e1, Res.ok_bind] at hrest
          refine .inr ⟨go, fun H' => Same H1 H' ∧ ∃ acc accD rest, H' D = some (.lst acc) ∧ RpL K H' (D :: A) acc accD ∧ lcL (fun d => asgT t d (wipeE ρ own)) (fc Φ) (fe Φ) (ds.drop (i + 1)) = .ok rest ∧ accD ++ rest = total ∧ accD.length ≤ i + 1,
            fun H' ⟨s', x⟩ => ⟨ds.length - (i + 1), by omega, rfl, hlt, s', x⟩, fun x H' hy => ?_⟩
          obtain ⟨s3, hx⟩ := yl x H' hy
          refine ⟨D :: A, wipeO O own, wipeE ρ own, ds[i], hA2.same s3, (hρ2.same s3).wipe own, hx, ?_⟩
          rw [h1]
          refine fun σ' O' e4 _ e5 => ⟨?_, ?_⟩
          · have e6 := e5 own ht
            rw [e6]
            have idem : ∀ vs : List Nat, wipe (wipe σ vs) vs = wipe σ vs := fun vs => by
              apply List.ext_getElem?
              intro j
              by_cases hj : j < σ.length
              · rw [wipe_at (by rw [wipe_length]; exact hj), wipe_at hj]
                by_cases hm : j ∈ vs
                · rw [if_pos hm, if_pos hm]
                · rw [if_neg hm, if_neg hm]
              · rw [List.getElem?_eq_none (by rw [wipe_length, wipe_length]; omega), List.getElem?_eq_none (by rw [wipe_length]; omega)]
            exact idem own
          · refine ⟨D :: A, O', ρ', hA2.same s3, e4, ?_⟩
            cases h2 : fc Φ ρ' with
            | st => rw [h2] at hrest; cases hrest
            | ex z => rw [h2] at hrest; cases hrest
            | ok k =>
              have e7 : noex (fc Φ ρ') = .ok k := by rw [h2]; rfl
              rw [e7, Res.ok_bind] at hrest
              have hD3 : H' D = some (.lst acc) := s3 _ _ hD
              cases k with
              | bool b =>
                intro H3 s4
                have s34 := s3.trans s4
                cases b with
                | false =>
                  refine iteF ⟨(s2.trans s3).trans s4, acc, accD, rest, s4 _ _ hD3, (hacc.same s3).same s4, hrest, htot, by omega⟩
                | true =>
                  have hrest : (noex (fe Φ ρ') >>= fun y => lcL (fun d => asgT t d (wipeE ρ own)) (fc Φ) (fe Φ) (ds.drop (i + 1)) >>= fun r => pure (y :: r)) = .ok rest := hrest
                  refine iteT ⟨D :: A, O', ρ', hA2.same s34, e4.same s4, ?_⟩
                  cases h3 : fe Φ ρ' with
                  | st => rw [h3] at hrest; cases hrest
                  | ex z => rw [h3] at hrest; cases hrest
                  | ok y =>
                    have e8 : noex (fe Φ ρ') = .ok y := by rw [h3]; rfl
                    rw [e8, Res.ok_bind] at hrest
                    cases h4 : lcL (fun d => asgT t d (wipeE ρ own)) (fc Φ) (fe Φ) (ds.drop (i + 1)) with
                    | st => rw [h4] at hrest; cases hrest
                    | ex z => rw [h4] at hrest; cases hrest
                    | ok r' =>
                      rw [h4] at hrest
                      cases hrest
                      intro v H4 s5 hv
                      have sAll := (s34.trans s5)
                      have hD4 : H4 D = some (.lst acc) := sAll _ _ hD
                      have hacc4 : RpL K H4 (D :: A) acc accD := hacc.same sAll
                      have hAD : AOk H4 [D] := fun p hp => by
                        have : p = D := by simpa using hp
                        subst this
                        exact ⟨_, hD4, trivial⟩
                      have bt : But [D] H4 (upd H4 D (.lst (acc ++ [v]))) := But.upd (by simp)
                      have hnew : RpL K (upd H4 D (.lst (acc ++ [v]))) (D :: A) (acc ++ [v]) (accD ++ [y]) :=
                        (hacc4.append (.cons hv .nil)).but bt hAD (by simp)
                      refine ⟨acc, hD4, ?_, ?_, acc ++ [v], accD ++ [y], r', upd_same, hnew, rfl, by rw [List.append_assoc]; exact htot, by rw [List.length_append]; simp; omega⟩
                      · rw [hacc4.length, hS]; omega
                      · intro b o hb
                        have hb4 : H4 b = some o := (s5 _ _ (s4 _ _ (s3 _ _ (s2 _ _ hb))))
                        rw [upd_ne (fun z => by rw [z, nD] at hb; cases hb)]
                        exact hb4
              | _ => cases hrest
      · have e : i = ds.length := by omega
        subst e
        rw [List.drop_length] at hrest
        cases hrest
        rw [List.append_nil] at htot
        subst htot
        refine .inl ⟨wst (Nat.le_refl _), q _ _ _ (s1.trans s2) (s1.free nD) hD hacc⟩
theorem lc_read {K : PySem.W.Frag} {mg : Str → Option Value} {W : WX} {bor : Bool} {t : Tg} {Φ : Calls} {own : List Nat} (ht : ∀ i ∈ t.slots, i ∈ own) {A : List Addr} {O : List (Option Addr)} {ρ : Env} {σ : L2.St} {H : Hp} {Q : VK} (hA : AOk H A) (hρ : EnvOk K H A O σ ρ)
    (q : Rt mg W (pE K A) H σ Q (lcE own t fi fc fe Φ ρ)) : tLc (tI K mg W bor (fi Φ)) (tG K t) (tXT K mg W0 (fc Φ)) (tX K mg W0 pE (fe Φ)) own σ H Q := by
  refine lc_readF ht hA hρ ?_
  have fin : ∀ r : Res D, Rt mg W (pE K A) H σ Q r → (∀ d, r = .ok d → ∃ ds, d = .list ds) → RtF K mg W A H σ Q r := fun r h hl => by
    cases r with
    | st => exact h
    | ex z => exact h
    | ok d =>
      obtain ⟨ds, rfl⟩ := hl d rfl
      exact fun p xs H' s np e r => h _ H' s (.lst (.inl ⟨.inl e, hA.fresh np⟩) (r.sub fun _ z => List.mem_cons_of_mem _ z))
  refine fin _ q fun d hd => ?_
  unfold lcE at hd
  cases h1 : fi Φ ρ with
  | st => rw [h1] at hd; cases hd
  | ex z => rw [h1] at hd; cases hd
  | ok ds =>
    rw [h1, Res.ok_bind] at hd
    split at hd
    · cases h2 : lcL (fun d => asgT t d (wipeE ρ own)) (fc Φ) (fe Φ) ds with
      | st => rw [h2] at hd; cases hd
      | ex z => rw [h2] at hd; cases hd
      | ok r => rw [h2] at hd; cases hd; exact ⟨_, rfl⟩
    · cases hd
theorem se_lc {scope : Scope} {own : List (Str × Nat)} {ifs : List Expr} {t : Tg} (bor : Bool) (hi : SI bor c tg iter fi) (bo : BlkOk c.N c.sc scope own) (hg : SG (c.blk scope) tg t) (ht : ∀ i ∈ t.slots, i ∈ own.map (·.2)) (hc : STs (c.blk scope) ifs fc) (he : SE (c.blk scope) e fe)
    (hs : ∀ env x, foldedSetIterable iter env x = pure x) : SE c (.ListComp e [⟨tg, iter, ifs, 0⟩] scope pos) (lcE (own.map (·.2)) t fi fc fe) := fun X Φ W ok tk =>
  peI (pe_lc ok.calm (by rw [ok.hN]; exact ok.nd) (hi X Φ W ok tk) (by rw [ok.hN, ok.sc]; exact bo)
    (fun s H C cl fp => hg _ Φ (ok_blk ok bo s H C cl fp)) (fun s H C cl fp => hc _ Φ W0 (ok_blk ok bo s H C cl fp) takes0) (fun s H C cl fp => he _ Φ W0 (ok_blk ok bo s H C cl fp) takes0) (hs _))
    fun σ H Q ⟨A, O, ρ, hA, hρ, q⟩ => lc_read ht hA hρ q
end
end Pv

end
section
namespace Pv
open PySem PySem.Spec PyProof.Rows L2

/-! ### statements -/
inductive SR where
  | st
  | nx (ρ : Env)
  | bk (ρ : Env)
  | ct (ρ : Env)
  | rt (d : D)
  | ex (c : Str) (ρ : Env)
def SR.seq : SR → (Env → SR) → SR
  | .nx ρ, k => k ρ
  | r, _ => r
@[simp] theorem SR.seq_nx (ρ : Env) (k : Env → SR) : SR.seq (.nx ρ) k = k ρ := id rfl
@[simp] theorem SR.seq_rt (d : D) (k : Env → SR) : SR.seq (.rt d) k = .rt d := id rfl
@[simp] theorem SR.seq_st (k : Env → SR) : SR.seq .st k = .st := id rfl
@[simp] theorem SR.seq_bk (ρ : Env) (k : Env → SR) : SR.seq (.bk ρ) k = .bk ρ := id rfl
@[simp] theorem SR.seq_ct (ρ : Env) (k : Env → SR) : SR.seq (.ct ρ) k = .ct ρ := id rfl
@[simp] theorem SR.seq_ex (c : Str) (ρ : Env) (k : Env → SR) : SR.seq (.ex c ρ) k = .ex c ρ := id rfl
def onE {α : Type} (m : Res α) (ρ : Env) (k : α → SR) : SR := match m with
  | .st => .st
  | .ok d => k d
  | .ex c => .ex c ρ
@[simp] theorem onE_ok {α : Type} (d : α) (ρ : Env) (k : α → SR) : onE (.ok d) ρ k = k d := id rfl
@[simp] theorem onE_st {α : Type} (ρ : Env) (k : α → SR) : onE (.st : Res α) ρ k = .st := id rfl
@[simp] theorem onE_ex {α : Type} (c : Str) (ρ : Env) (k : α → SR) : onE (.ex c : Res α) ρ k = .ex c ρ := id rfl
/-- flags down at some slots -/
def dis1 (i : Nat) (ρ : Env) : Env := match ρ[i]? with
  | some (some (true, d)) => ρ.set i (some (false, d))
  | _ => ρ
def dis : List Nat → Env → Env
  | [], ρ => ρ
  | i :: is, ρ => dis is (dis1 i ρ)

/-! the frame of a statement: at H0 nothing outside of B0 changes; A0 is not to be touched -/
structure Fm where
  A0 : List Addr
  B0 : List Addr
  H0 : Hp
structure Fm.Ok (F : Fm) : Prop where
  a : AOk F.H0 F.A0
  d : ∀ b ∈ F.B0, b ∉ F.A0
def rts (O : List (Option Addr)) : List Addr := O.filterMap id
theorem mem_rts {O : List (Option Addr)} {a : Addr} : a ∈ rts O ↔ some a ∈ O := by simp [rts]
structure StO (K : PySem.W.Frag) (F : Fm) (O : List (Option Addr)) (σ : L2.St) (H : Hp) (ρ : Env) : Prop where
  env : EnvOk K H (F.A0 ++ rts O) O σ ρ
  but : But F.B0 F.H0 H
  own : ∀ a, some a ∈ O → a ∈ F.B0 ∨ F.H0 a = none
section
variable {K : PySem.W.Frag} {F : Fm} {O : List (Option Addr)} {σ : L2.St} {H H' : Hp} {ρ : Env}
theorem StO.notA (h : StO K F O σ H ρ) (ok : F.Ok) {a : Addr} (ha : some a ∈ O) : a ∉ F.A0 := fun z => by
  rcases h.own a ha with q | q
  · exact ok.d a q z
  · obtain ⟨o, e, _⟩ := ok.a a z
    rw [q] at e; cases e
theorem Slots.isM {A : List Addr} : ∀ {σ : L2.St} {ρ : Env} {O : List (Option Addr)}, Slots K H A σ ρ O → ∀ a, some a ∈ O → ∃ o, H a = some o ∧ IsM o
  | _, _, _, .nil, _, h => by simp at h
  | _, _, _, .cons g r, a, h => by
    rcases List.mem_cons.mp h with e | h
    · subst e
      cases g with
      | ownL m e _ => exact ⟨_, e, trivial⟩
      | ownD m e _ _ => exact ⟨_, e, trivial⟩
    · exact Slots.isM r a h
theorem StO.aok (h : StO K F O σ H ρ) (ok : F.Ok) : AOk H (F.A0 ++ rts O) := fun p hp => by
  rcases List.mem_append.mp hp with hp | hp
  · obtain ⟨o, e, m⟩ := ok.a p hp
    exact ⟨o, h.but p o (fun z => ok.d p z hp) e, m⟩
  · exact h.env.sl.isM p (mem_rts.mp hp)
theorem StO.same (s : Same H H') (h : StO K F O σ H ρ) : StO K F O σ H' ρ := ⟨h.env.same s, h.but.trans (But.of_same s), h.own⟩
/-- another frame from here on -/
theorem StO.start (h : StO K F O σ H ρ) : StO K ⟨F.A0, rts O, H⟩ O σ H ρ := ⟨h.env, But.refl, fun a ha => .inl (mem_rts.mpr ha)⟩
theorem StO.startOk (h : StO K F O σ H ρ) (ok : F.Ok) : Fm.Ok ⟨F.A0, rts O, H⟩ := ⟨fun p hp => h.aok ok p (List.mem_append_left _ hp), fun b hb => h.notA ok (mem_rts.mp hb)⟩
theorem StO.butBack (h : StO K F O σ H ρ) (ok : F.Ok) (b : But (rts O) H H') : But F.B0 F.H0 H' := fun c o n e => b c o (fun z => by
  rcases h.own c (mem_rts.mp z) with q | q
  · exact n q
  · rw [e] at q; cases q) (h.but c o n e)
theorem StO.back {O' : List (Option Addr)} {σ' : L2.St} {ρ' : Env} (h : StO K F O σ H ρ) (ok : F.Ok) (g : StO K ⟨F.A0, rts O, H⟩ O' σ' H' ρ') : StO K F O' σ' H' ρ' :=
  ⟨g.env, h.butBack ok g.but, fun a ha => by
    rcases g.own a ha with q | q
    · exact h.own a (mem_rts.mp q)
    · by_cases n : a ∈ F.B0
      · exact .inl n
      · refine .inr ?_
        cases e : F.H0 a with
        | none => rfl
        | some o =>
          have this := h.but a o n e
          have q : H a = none := q
          rw [q] at this; cases this⟩

theorem mem_set {O : List (Option Addr)} {i : Nat} {r : Option Addr} {a : Addr} (h : some a ∈ O.set i r) : some a ∈ O ∨ r = some a := by
  rcases List.mem_or_eq_of_mem_set h with h | h
  · exact .inl h
  · exact .inr h.symm
theorem mem_set_none {O : List (Option Addr)} {i : Nat} {a : Addr} (h : some a ∈ O.set i none) : some a ∈ O := by
  rcases mem_set h with h | h
  · exact h
  · cases h
theorem EnvOk.subTo {A A' : List Addr} (h : EnvOk K H A O σ ρ) (s : ∀ a ∈ A', a ∈ A) (ho : ∀ a, some a ∈ O → a ∈ A') : EnvOk K H A' O σ ρ :=
  h.go (B := []) (by simp) AOk.nil But.refl (fun p z => .inl (s p z)) fun a ha => ⟨by simp, ho a ha⟩
/-- a slot stored, not owned -/
theorem StO.set {v : V} {d : D} (i : Nat) (h : StO K F O σ H ρ) (r : Rp K H (F.A0 ++ rts O) v d) : StO K F (O.set i none) (σ.set i (some v)) H (ρ.set i (some (false, d))) :=
  ⟨(h.env.set i r).subTo (fun a z => by
      rcases List.mem_append.mp z with z | z
      · exact List.mem_append_left _ z
      · exact List.mem_append_right _ (mem_rts.mpr (mem_set_none (mem_rts.mp z)))) fun a ha => List.mem_append_right _ (mem_rts.mpr ha), h.but, fun a ha => h.own a (mem_set_none ha)⟩
theorem nd_ne {A : List Addr} (h : EnvOk K H A O σ ρ) {i : Nat} {a : Addr} (e : O[i]? = some (some a)) : some a ∉ O.set i none := fun z => by
  obtain ⟨j, hj, e2⟩ := List.getElem_of_mem z
  have e3 : (O.set i none)[j]? = some (some a) := by rw [List.getElem?_eq_getElem hj, e2]
  rw [List.getElem?_set] at e3
  split at e3
  · split at e3 <;> cases e3
  · rename_i hne
    exact hne (h.nd i j a e e3)
/-- flags down at a slot -/
theorem StO.dis1 (h : StO K F O σ H ρ) (ok : F.Ok) (i : Nat) : ∃ O', StO K F O' σ H (dis1 i ρ) := by
  unfold Pv.dis1
  split
  · rename_i d e
    obtain ⟨x, r, e1, e2, sl⟩ := h.env.sl.get e
    have hx : σ.set i x = σ := by
      obtain ⟨h1, h2⟩ := List.getElem?_eq_some_iff.mp e1
      rw [← h2, List.set_getElem_self]
    have out : ∀ a, r = some a → a ∉ F.A0 ++ rts (O.set i none) := fun a ha z => by
      subst ha
      rcases List.mem_append.mp z with z | z
      · exact h.notA ok (List.mem_of_getElem? e2) z
      · exact nd_ne h.env e2 (mem_rts.mp z)
    have sub : ∀ a ∈ F.A0 ++ rts (O.set i none), a ∈ F.A0 ++ rts O := fun a z => by
      rcases List.mem_append.mp z with z | z
      · exact List.mem_append_left _ z
      · exact List.mem_append_right _ (mem_rts.mpr (mem_set_none (mem_rts.mp z)))
    have base : EnvOk K H (F.A0 ++ rts (O.set i none)) (O.set i none) (σ.set i x) (ρ.set i none) := (h.env.gone x i).subTo sub fun a ha => List.mem_append_right _ (mem_rts.mpr ha)
    have fin : ∀ v, x = some v → Rp K H (F.A0 ++ rts (O.set i none)) v d → ∃ O', StO K F O' σ H (ρ.set i (some (false, d))) := fun v hv r' => by
      have := base.set i r'
      rw [List.set_set, List.set_set, List.set_set, ← hv, hx] at this
      exact ⟨_, this, h.but, fun a ha => h.own a (mem_set_none ha)⟩
    cases sl with
    | ownL m hl r => exact fin _ rfl (.lst (.inl ⟨.inl hl, out _ rfl⟩) (r.sub sub))
    | ownD m hl r q => exact fin _ rfl (.dic (.inl hl) (out _ rfl) (r.sub sub) q)
  · exact ⟨O, h⟩
theorem StO.dis (ok : F.Ok) : ∀ (is : List Nat) {O : List (Option Addr)} {ρ : Env}, StO K F O σ H ρ → ∃ O', StO K F O' σ H (dis is ρ)
  | [], _, _, h => ⟨_, h⟩
  | i :: is, _, _, h => let ⟨_, h'⟩ := h.dis1 ok i; StO.dis ok is h'
/-- all flags down -/
theorem Slots.clr0 {A A' : List Addr} (s : ∀ a ∈ A', a ∈ A) : ∀ {σ : L2.St} {ρ : Env} {O : List (Option Addr)}, (∀ a, some a ∈ O → a ∉ A') → Slots K H A σ ρ O → Slots K H A' σ (Pv.clr ρ) (O.map fun _ => none)
  | _, _, _, _, .nil => .nil
  | _, _, _, n, .cons .non r => .cons .non (Slots.clr0 s (fun a z => n a (by simp [z])) r)
  | _, _, _, n, .cons (.shared h) r => .cons (.shared (h.sub s)) (Slots.clr0 s (fun a z => n a (by simp [z])) r)
  | _, _, _, n, .cons (.ownL m h q) r => .cons (.shared (.lst (.inl ⟨.inl h, n _ (by simp)⟩) (q.sub s))) (Slots.clr0 s (fun a z => n a (by simp [z])) r)
  | _, _, _, n, .cons (.ownD m h q e) r => .cons (.shared (.dic (.inl h) (n _ (by simp)) (q.sub s) e)) (Slots.clr0 s (fun a z => n a (by simp [z])) r)
theorem StO.clr0 (h : StO K F O σ H ρ) (ok : F.Ok) : EnvOk K H F.A0 (O.map fun _ => none) σ (Pv.clr ρ) := ⟨Slots.clr0 (fun a z => List.mem_append_left _ z) (fun a ha => h.notA ok ha) h.env.sl, fun i j a e _ => by
  rw [List.getElem?_map] at e
  cases q : O[i]? with
  | none => rw [q] at e; cases e
  | some _ => rw [q] at e; cases e⟩
theorem StO.aok0 (h : StO K F O σ H ρ) (ok : F.Ok) : AOk H F.A0 := fun p hp => h.aok ok p (List.mem_append_left _ hp)
/-- a slot gets what is new and its own -/
theorem own_new {A' : List Addr} {i : Nat} {a : Addr} {y : Option (Bool × D)} (h : EnvOk K H A' (O.set i none) (σ.set i (some (.ref a))) (ρ.set i none)) (n : some a ∉ O.set i none) (sl : Slot K H A' (some (.ref a)) y (some a)) :
    EnvOk K H A' (O.set i (some a)) (σ.set i (some (.ref a))) (ρ.set i y) := by
  have q := h.sl.set i sl
  rw [List.set_set, List.set_set, List.set_set] at q
  refine ⟨q, fun j k b e1 e2 => ?_⟩
  have key : ∀ (j : Nat) (b : Addr), (O.set i (some a))[j]? = some (some b) → (j = i ∧ b = a) ∨ (j ≠ i ∧ (O.set i none)[j]? = some (some b)) := fun j b e => by
    rw [List.getElem?_set] at e
    split at e
    · rename_i hj
      split at e
      · cases e; exact .inl ⟨hj.symm, rfl⟩
      · cases e
    · rename_i hj
      refine .inr ⟨fun z => hj z.symm, ?_⟩
      rw [List.getElem?_set_ne hj]; exact e
  rcases key j b e1 with ⟨rfl, rfl⟩ | ⟨h1, h2⟩
  · rcases key k b e2 with ⟨rfl, _⟩ | ⟨h3, h4⟩
    · rfl
    · exact absurd (List.mem_of_getElem? h4) n
  · rcases key k b e2 with ⟨rfl, rfl⟩ | ⟨h3, h4⟩
    · exact absurd (List.mem_of_getElem? h2) n
    · exact h.nd j k b h2 h4
theorem StO.put {p : Addr} (i : Nat) {y : Option (Bool × D)} (ok : F.Ok) (h : StO K F O σ H ρ) (s : Same H H') (np : H p = none)
    (sl : Slot K H' (F.A0 ++ rts (O.set i (some p))) (some (.ref p)) y (some p)) : StO K F (O.set i (some p)) (σ.set i (some (.ref p))) H' (ρ.set i y) := by
  have notO : some p ∉ O := fun z => by
    obtain ⟨o, e, _⟩ := h.env.sl.isM p z
    rw [np] at e; cases e
  have n : some p ∉ O.set i none := fun z => notO (mem_set_none z)
  have inA : ∀ a, some a ∈ O.set i none → a ∈ F.A0 ++ rts (O.set i (some p)) := fun a ha => by
    obtain ⟨j, hj, e2⟩ := List.getElem_of_mem ha
    have e3 : (O.set i none)[j]? = some (some a) := by rw [List.getElem?_eq_getElem hj, e2]
    rw [List.getElem?_set] at e3
    split at e3
    · split at e3 <;> cases e3
    · rename_i hne
      refine List.mem_append_right _ (mem_rts.mpr (List.mem_of_getElem? (i := j) ?_))
      rw [List.getElem?_set_ne hne]; exact e3
  have base : EnvOk K H' (F.A0 ++ rts (O.set i (some p))) (O.set i none) (σ.set i (some (.ref p))) (ρ.set i none) :=
    (h.env.gone (some (.ref p)) i).go (B := []) (by simp) AOk.nil (But.of_same s) (fun q hq => by
      rcases List.mem_append.mp hq with hq | hq
      · exact .inl (List.mem_append_left _ hq)
      · rcases mem_set (mem_rts.mp hq) with hq | hq
        · exact .inl (List.mem_append_right _ (mem_rts.mpr hq))
        · cases hq; exact .inr np) fun a ha => ⟨by simp, inA a ha⟩
  refine ⟨own_new base n sl, h.but.trans (But.of_same s), fun a ha => ?_⟩
  rcases mem_set ha with ha | ha
  · exact h.own a ha
  · cases ha
    by_cases q : p ∈ F.B0
    · exact .inl q
    · refine .inr ?_
      cases e : F.H0 p with
      | none => rfl
      | some o =>
        have := h.but p o q e
        rw [np] at this; cases this
/-- what is owned is changed -/
theorem StO.mut {a : Addr} (i : Nat) {o : HO} {x y : Option (Bool × D)} (ok : F.Ok) (h : StO K F O σ H ρ) (e1 : σ[i]? = some (some (.ref a))) (e2 : O[i]? = some (some a))
    (sl : Slot K (upd H a o) (F.A0 ++ rts O) (some (.ref a)) y (some a)) : StO K F O σ (upd H a o) (ρ.set i y) := by
  obtain ⟨i1, h1⟩ := List.getElem?_eq_some_iff.mp e1
  obtain ⟨i2, h2⟩ := List.getElem?_eq_some_iff.mp e2
  have hσ : σ.set i (some (.ref a)) = σ := by rw [← h1, List.set_getElem_self]
  have hO : O.set i (some a) = O := by rw [← h2, List.set_getElem_self]
  have ha := List.mem_of_getElem? e2
  have n := nd_ne h.env e2
  have inO : a ∈ F.A0 ++ rts O := List.mem_append_right _ (mem_rts.mpr ha)
  have base : EnvOk K (upd H a o) (F.A0 ++ rts O) (O.set i none) (σ.set i (some (.ref a))) (ρ.set i none) :=
    (h.env.gone (some (.ref a)) i).go (B := [a]) (fun b hb => by
      have : b = a := by simpa using hb
      subst this; exact inO) (fun p hp => by
      have : p = a := by simpa using hp
      subst this; exact h.aok ok p inO) (But.upd (by simp)) (fun q hq => .inl hq) fun b hb => ⟨fun z => by
        have : b = a := by simpa using z
        subst this; exact n hb, List.mem_append_right _ (mem_rts.mpr (mem_set_none hb))⟩
  have q := own_new base n sl
  rw [hσ, hO] at q
  refine ⟨q, fun b u nb e => ?_, h.own⟩
  have e' := h.but b u nb e
  rw [upd_ne (fun z => ?_)]
  · exact e'
  · subst z
    rcases h.own b ha with q | q
    · exact nb q
    · rw [e] at q; cases q
end

/-! the readings -/
def RtS (K : PySem.W.Frag) (mg : Str → Option Value) (W : WX) (F : Fm) (Dn : Ends) : SR → Prop
  | .st => False
  | .nx ρ => ∀ σ H O, StO K F O σ H ρ → Dn.nx σ H
  | .bk ρ => ∀ σ H O, StO K F O σ H ρ → Dn.bk σ H
  | .ct ρ => ∀ σ H O, StO K F O σ H ρ → Dn.ct σ H
  | .rt d => ∀ v H, But F.B0 F.H0 H → Rp K H F.A0 v d → Dn.rt v H
  | .ex c ρ => ∀ C σ H O, StO K F O σ H ρ → mg c = some (.ref C) → W (.ref C) none σ H
def tS (K : PySem.W.Frag) (mg : Str → Option Value) (W : WX) (f : Env → SR) : TS := fun Dn σ H => ∃ F O ρ, F.Ok ∧ StO K F O σ H ρ ∧ RtS K mg W F Dn (f ρ)
abbrev EvS := Calls → Env → SR
def Pass (X : Cx) : Prop := PassesOwn (model X.prog X.w) X.A X.env X.xe
def SS (c : Ctx) (s : Stmt) (f : EvS) : Prop := ∀ X Φ W, Ok c X Φ → Takes X W → Pass X → PS X s (tS X.K X.mg W (f Φ))
def SSs (c : Ctx) (s : List Stmt) (f : EvS) : Prop := ∀ X Φ W, Ok c X Φ → Takes X W → Pass X → PSs X s (tS X.K X.mg W (f Φ))
theorem psI {X : Cx} {e : Stmt} {t t' : TS} (h : PS X e t) (q : ∀ Dn σ H, t' Dn σ H → t Dn σ H) : PS X e t' := ⟨fun pins s σ H Dn I x => h.run pins s σ H Dn I (q Dn σ H x)⟩
theorem pssI {X : Cx} {e : List Stmt} {t t' : TS} (h : PSs X e t) (q : ∀ Dn σ H, t' Dn σ H → t Dn σ H) : PSs X e t' := ⟨fun pins s σ H Dn I x => h.run pins s σ H Dn I (q Dn σ H x)⟩
section
variable {K : PySem.W.Frag} {mg : Str → Option Value} {W : WX} {F : Fm} {O : List (Option Addr)} {σ : L2.St} {H : Hp} {ρ : Env} {Dn : Ends}
theorem rt_onE {P : Hp → V → D → Prop} {Q : VK} {m : Res D} {k : D → SR} (h : RtS K mg W F Dn (onE m ρ k)) (s : StO K F O σ H ρ) (kk : ∀ d v H1, Same H H1 → P H1 v d → RtS K mg W F Dn (k d) → Q v H1) : Rt mg W P H σ Q m := by
  cases m with
  | st => exact h
  | ok d => exact fun v H1 s1 p => kk d v H1 s1 p h
  | ex c => exact fun C H' s' hm => h C σ H' O (s.same s') hm
theorem rtb_onE {Q : Bool → Hp → Prop} {m : Res D} {k : Bool → SR} (h : RtS K mg W F Dn (onE m ρ fun d => match d with | .bool b => k b | _ => .st)) (s : StO K F O σ H ρ) (kk : ∀ b H1, Same H H1 → RtS K mg W F Dn (k b) → Q b H1) : RtB mg W H σ Q m := by
  cases m with
  | st => exact h
  | ok d => cases d <;> first | exact h | exact fun H1 s1 => kk _ H1 s1 h
  | ex c => exact fun C H' s' hm => h C σ H' O (s.same s') hm
end
section
variable {c : Ctx} {e a b : Expr} {st : Stmt} {sts : List Stmt} {fe fa fb : EvE} {fs gs : EvS} {pos pos' : Pos}
theorem sq_nil : SSs c [] (fun _ ρ => .nx ρ) := fun X Φ W ok tk hp => pssI pss_nil fun Dn σ H ⟨F, O, ρ, hF, hs, q⟩ => q _ _ _ hs
theorem sq_cons (h1 : SS c st fs) (h2 : SSs c sts gs) : SSs c (st :: sts) (fun Φ ρ => (fs Φ ρ).seq (gs Φ)) := fun X Φ W ok tk hp =>
  pssI (pss_cons (h1 X Φ W ok tk hp) (h2 X Φ W ok tk hp)) fun Dn σ H ⟨F, O, ρ, hF, hs, q⟩ => ⟨F, O, ρ, hF, hs, by
    have q : RtS X.K X.mg W F Dn ((fs Φ ρ).seq (gs Φ)) := q
    cases hr : fs Φ ρ with
    | st => rw [hr] at q; exact q
    | nx ρ' => rw [hr] at q; exact fun σ' H' O' s' => ⟨F, O', ρ', hF, s', q⟩
    | bk ρ' => rw [hr] at q; exact q
    | ct ρ' => rw [hr] at q; exact q
    | rt d => rw [hr] at q; exact q
    | ex z ρ' => rw [hr] at q; exact q⟩
theorem sq_one (h1 : SS c st fs) : SSs c [st] fs := fun X Φ W ok tk hp => pss_one (h1 X Φ W ok tk hp)
theorem s_pass : SS c (.Pass pos) (fun _ ρ => .nx ρ) := fun X Φ W ok tk hp => psI ps_pass fun Dn σ H ⟨F, O, ρ, hF, hs, q⟩ => q _ _ _ hs
theorem s_brk : SS c (.Break pos) (fun _ ρ => .bk ρ) := fun X Φ W ok tk hp => psI ps_break fun Dn σ H ⟨F, O, ρ, hF, hs, q⟩ => q _ _ _ hs
theorem s_cont : SS c (.Continue pos) (fun _ ρ => .ct ρ) := fun X Φ W ok tk hp => psI ps_continue fun Dn σ H ⟨F, O, ρ, hF, hs, q⟩ => q _ _ _ hs
theorem s_never : SS c st (fun _ _ => .st) := fun X Φ W ok tk hp => psI ps_never fun Dn σ H ⟨F, O, ρ, hF, hs, q⟩ => q
theorem s_ret (he : SE c e fe) : SS c (.Return (some e) pos) (fun Φ ρ => onE (fe Φ (clr ρ)) ρ .rt) := fun X Φ W ok tk hp =>
  psI (ps_ret (he X Φ W ok tk)) fun Dn σ H ⟨F, O, ρ, hF, hs, q⟩ => ⟨F.A0, _, clr ρ, hs.aok0 hF, hs.clr0 hF, rt_onE q hs fun d v H1 s1 p q1 => q1 v H1 (hs.but.trans (But.of_same s1)) p⟩
theorem s_if {A B : List Stmt} (hc : ST c e fe) (hA : SSs c A fs) (hB : SSs c B gs) : SS c (.If e A B pos) (fun Φ ρ => onE (fe Φ ρ) ρ fun d => match d with | .bool b => if b then fs Φ ρ else gs Φ ρ | _ => .st) := fun X Φ W ok tk hp =>
  psI (ps_if (hc X Φ W ok tk) (hA X Φ W ok tk hp) (hB X Φ W ok tk hp)) fun Dn σ H ⟨F, O, ρ, hF, hs, q⟩ => ⟨_, O, ρ, hs.aok hF, hs.env, rtb_onE (k := fun b => if b then fs Φ ρ else gs Φ ρ) q hs fun b H1 s1 q1 => by
    cases b with
    | true => exact iteT ⟨F, O, ρ, hF, hs.same s1, q1⟩
    | false => exact iteF ⟨F, O, ρ, hF, hs.same s1, q1⟩⟩
/-- x = e -/
theorem s_set {i : Nat} {x : Str} (is : List Nat) (hi : c.N[i]? = some x) (hx : LocC c x) (he : SE c e fe) (hs : ∀ env, env.scope = c.sc → swapsWith e (some (.Name x pos')) pos.line env = pure false) :
    SS c (.Assign [.Name x pos'] e pos) (fun Φ ρ => onE (fe Φ (dis is ρ)) (dis is ρ) fun d => .nx ((dis is ρ).set i (some (false, d)))) := fun X Φ W ok tk hp =>
  psI (ps_set (i := i) (by rw [ok.hN]; exact ok.nd) (by rw [ok.hN]; exact hi) (hx.loc ok).1 (he X Φ W ok tk) (hs _ ok.sc) (hx.loc ok).2) fun Dn σ H ⟨F, O, ρ, hF, hs, q⟩ => by
    obtain ⟨O', hs'⟩ := hs.dis hF is
    exact ⟨_, O', _, hs'.aok hF, hs'.env, rt_onE q hs' fun d v H1 s1 p q1 => q1 _ _ _ ((hs'.same s1).set i p)⟩
theorem s_expr (he : SE c e fe) (hs : ∀ env, env.scope = c.sc → swapsWith e none pos.line env = pure false) : SS c (.Expr e pos) (fun Φ ρ => onE (fe Φ ρ) ρ fun _ => .nx ρ) := fun X Φ W ok tk hp =>
  psI (ps_expr (he X Φ W ok tk) (hs _ ok.sc)) fun Dn σ H ⟨F, O, ρ, hF, hs, q⟩ => ⟨_, O, ρ, hs.aok hF, hs.env, rt_onE q hs fun d v H1 s1 p q1 => q1 _ _ _ (hs.same s1)⟩
end
end Pv

end
section
namespace Pv
open PySem PySem.Spec PyProof.Rows L2

/-! ### raise X() -/
section
variable {X : Cx}
theorem pmk_0 {C : Addr} {bmB : List Value} {B newId initId : String} {x : Str} {p pos : Pos} (F : ExcBaseFacts B newId initId bmB) (q : PySem.W.excIn X.K C bmB newId = true) (gC : X.mg x = some (.ref C)) (kC : PySem.W.keepIn X.K (.ref C) = true) (r : Raises X (.ref C)) (hg : Gl X x) (hdb : (x == ("__debug__" : Str)) = false) :
    PMk X (.Call (.Name x p) [] [] pos) (fun _ H Q => Q (.ref C) none H) := by
  intro pins s σ H Q I h
  refine wpAny_Call_Name_kw (ld_glob I hg gC (PySem.W.callWith_K0 I.kIn kC ?_) hdb)
  obtain ⟨bm, N, nm, qn, bs, hdct, sn, sub, ab, col, dd, k0, k1, k2, k3, k5, mN, hC, hN, hni, T⟩ := exc_obj I.kIn q
  show wpAny _ _ (call (.ref C) []) _ _ _
  exact wpAny_call_exc_subT F T hC hN hni (fun h' e hm => mk_of I hm r h (I.hok.gone hm.new)) (by show 0 ≤ sizeLine; omega)
end
section
variable {c : Ctx} {x : Str} {p pos pos' : Pos}
theorem s_raise (hx : x ∈ c.exc) (hk : c.sc.names.lookup x = some .globalImplicit) (hd : (x == ("__debug__" : Str)) = false) : SS c (.Raise (some (.Call (.Name x p) [] [] pos')) none pos) (fun _ ρ => .ex x ρ) := fun X Φ W ok tk hp => by
  obtain ⟨C, bmB, B, newId, initId, h1, h2, h3, h4, h5, h6⟩ := ok.exc x hx
  exact psI (ps_raise ok.calm tk (pmk_0 h5 h6 h1 h2 (raises_own h3 h4) (gl_of ok hk) hd)) fun Dn σ H ⟨F, O, ρ, hF, hs, q⟩ => q C σ H O hs h1
end
end Pv

end
section
namespace Pv
open PySem PySem.Spec PyProof.Rows L2

/-! ### expressions that make a new list -/
def tF (K : PySem.W.Frag) (mg : Str → Option Value) (W : WX) (f : Env → Res D) : TE := fun σ H Q => ∃ A O ρ, AOk H A ∧ EnvOk K H A O σ ρ ∧ RtF K mg W A H σ Q (f ρ)
def SF (c : Ctx) (e : Expr) (f : EvE) : Prop := ∀ X Φ W, Ok c X Φ → Takes X W → PE X e (tF X.K X.mg W (f Φ))
section
variable {K : PySem.W.Frag} {mg : Str → Option Value} {W : WX} {A : List Addr} {H H1 : Hp} {σ : L2.St} {Q Q1 : VK}
theorem RtF.same {r : Res D} (h : RtF K mg W A H σ Q r) (s : Same H H1) : RtF K mg W A H1 σ Q r := by
  cases r with
  | st => exact h
  | ok d => cases d <;> first | exact h | exact fun p xs H' s' np e r => h p xs H' (s.trans s') (s.free np) e r
  | ex c => exact fun C H' s' p => h C H' (s.trans s') p
theorem RtF.bind {P1 : Hp → V → D → Prop} {m : Res D} {g : D → Res D} (h : RtF K mg W A H σ Q (m >>= g)) (k : ∀ d v H1, Same H H1 → P1 H1 v d → RtF K mg W A H1 σ Q (g d) → Q1 v H1) : Rt mg W P1 H σ Q1 m := by
  cases m with
  | st => exact h
  | ok d => exact fun v H1 s p => k d v H1 s p (RtF.same h s)
  | ex c => exact h
theorem RtF.bindL {PL1 : Hp → List V → List D → Prop} {QL1 : List V → Hp → Prop} {m : Res (List D)} {g : List D → Res D} (h : RtF K mg W A H σ Q (m >>= g)) (k : ∀ d v H1, Same H H1 → PL1 H1 v d → RtF K mg W A H1 σ Q (g d) → QL1 v H1) : RtL mg W PL1 H σ QL1 m := by
  cases m with
  | st => exact h
  | ok d => exact fun v H1 s p => k d v H1 s p (RtF.same h s)
  | ex c => exact h
theorem RtF.upd {ds : List D} {p : Addr} {xs : List V} (h : RtF K mg W A H σ Q (.ok (.list ds))) (np : H p = none) (r : RpL K H A xs ds) : Q (.ref p) (upd H p (.lst xs)) :=
  h p xs _ (same_upd np) np upd_same ((r.new np).same (same_upd np))
end
section
variable {c : Ctx} {a b e iter tg : Expr} {es : List Expr} {fa fb fc fe : EvE} {fi fs : EvL} {pos pos' : Pos}
theorem sf_lst (hs : SXs pEs c es fs) : SF c (.List es pos) (fun Φ ρ => do let r ← fs Φ ρ; smL r .list) := fun X Φ W ok tk =>
  peI (pe_lst (hs X Φ W ok tk)) fun σ H Q ⟨A, O, ρ, hA, hρ, q⟩ => ⟨A, O, ρ, hA, hρ, q.bindL fun xs vs H1 s1 p1 q1 => by
    unfold smL at q1
    by_cases hz : sm xs.length = true
    · rw [if_pos hz] at q1
      exact ⟨by rw [p1.length]; exact sm_le hz, fun p np => q1.upd np p1⟩
    · rw [if_neg hz] at q1; exact q1.elim⟩
theorem sf_bin {op : Operator} (ha : SB c a fa) (hb : SB c b fb) : SF c (.BinOp a op b pos) (fun Φ ρ => do let x ← fa Φ ρ; let y ← fb Φ ρ; Res.ofO (binop op x y)) := fun X Φ W ok tk => by
  have rule : OpR X (binaryOp op) (fun x y H Q => ∃ A d e r, RpB X.K H A x d ∧ RpB X.K H A y e ∧ binop op d e = some (.list r) ∧ ∀ p xs, H p = none → RpL X.K H A xs r → Q (.ref p) (upd H p (.lst xs))) := by
    intro pins s σ H x y v u Q I rx ry h
    obtain ⟨A, d, e, r, hd, he, hf, q⟩ := h
    cases d with
    | list ds =>
      obtain ⟨a, xs, rfl, hx, lx⟩ := hd
      cases op <;> cases e <;> first
        | (simp [binop] at hf; done)
        | skip
      case Add.list es =>
        obtain ⟨b, ys, rfl, hy, ly⟩ := he
        obtain ⟨h1, h2⟩ := ite_some (c := sm (ds.length + es.length) = true) hf
        cases h2
        refine op_catL pins s σ H _ _ v u Q I rx ry ⟨a, b, xs, ys, rfl, rfl, hx, hy, ?_, fun p np => ?_⟩
        · rw [lx.length, ly.length]; exact sm_le h1
        · exact q p _ np (lx.append ly)
      case Mult.int k =>
        have hk := he.int
        subst hk
        obtain ⟨h1, h2⟩ := ite_some (c := (decide (0 ≤ k) && decide (k ≤ 1000) && decide (ds.length ≤ 1000)) = true) hf
        cases h2
        obtain ⟨h1, h2, h3⟩ := and3 h1
        refine op_repL pins s σ H _ _ v u Q I rx ry ⟨a, k, xs, rfl, rfl, hx, of_decide_eq_true h1, of_decide_eq_true h2, ?_, fun p np => ?_⟩
        · rw [lx.length]; exact of_decide_eq_true h3
        · exact q p _ np (lx.rep _)
    | _ => exact absurd hf (by cases op <;> cases e <;> simp [binop])
  refine peI (pe_op rule (ha X Φ W ok tk) (hb X Φ W ok tk)) fun σ H Q ⟨A, O, ρ, hA, hρ, q⟩ =>
    ⟨A, O, ρ, hA, hρ, q.bind fun x v H1 s1 p1 q1 => ⟨A, O, ρ, hA.same s1, hρ.same s1, q1.bind fun y u H2 s2 p2 q2 => ?_⟩⟩
  cases hr : binop op x y with
  | none => rw [hr] at q2; exact q2.elim
  | some r =>
    rw [hr] at q2
    cases r with
    | list r => exact ⟨A, x, y, r, p1.same s2, p2, hr, fun p xs np l => RtF.upd q2 np l⟩
    | _ => exact q2.elim
/-- list(e), of a list or a tuple; sorted(e) -/
theorem sf_list {p : Pos} (hb : ("list" : Str) ∈ c.blts) (hk : c.sc.names.lookup ("list" : Str) = some .globalImplicit) (hs : SXs pBs c (a :: es) fs) (hn : notStar a = true) (hns : es.all notStar = true) :
    SF c (.Call (.Name "list" p) (a :: es) [] pos) (fun Φ ρ => do let r ← fs Φ ρ; Res.ofO (bltop .list r)) := fun X Φ W ok tk => by
  refine peI (pe_callTy call_list_of (gl_of ok hk) (ok.blt _ hb) (by decide +kernel) (hs X Φ W ok tk) (by decide) (by decide) (star_of hn _ _) (stars_of hns)) fun σ H Q ⟨A, O, ρ, hA, hρ, q⟩ => ⟨A, O, ρ, hA, hρ, q.bindL fun xs vs H1 s1 p1 q1 => ?_⟩
  unfold bltop at q1
  match xs, p1, q1 with
  | [.list ds], p1, q1 =>
    obtain ⟨v, rfl, x⟩ := p1.one
    obtain ⟨a, xs, rfl, hx, hr⟩ := x
    exact ⟨a, xs, rfl, .inl hx, fun p np => RtF.upd q1 np hr⟩
  | [.tuple ds], p1, q1 =>
    obtain ⟨v, rfl, x⟩ := p1.one
    obtain ⟨a, xs, rfl, hx, hr⟩ := x.tuple
    exact ⟨a, xs, rfl, .inr hx, fun p np => RtF.upd q1 np hr⟩
  | [], _, q1 => exact q1.elim
  | x :: _ :: _, _, q1 => cases x <;> exact q1.elim
  | [.none], _, q1 => exact q1.elim
  | [.bool _], _, q1 => exact q1.elim
  | [.int _], _, q1 => exact q1.elim
  | [.str _], _, q1 => exact q1.elim
  | [.dict _], _, q1 => exact q1.elim
/-- a comprehension -/
theorem sf_lc {scope : Scope} {own : List (Str × Nat)} {ifs : List Expr} {t : Tg} (bor : Bool) (hi : SI bor c tg iter fi) (bo : BlkOk c.N c.sc scope own) (hg : SG (c.blk scope) tg t) (ht : ∀ i ∈ t.slots, i ∈ own.map (·.2)) (hc : STs (c.blk scope) ifs fc) (he : SE (c.blk scope) e fe)
    (hs : ∀ env x, foldedSetIterable iter env x = pure x) : SF c (.ListComp e [⟨tg, iter, ifs, 0⟩] scope pos) (lcE (own.map (·.2)) t fi fc fe) := fun X Φ W ok tk =>
  peI (pe_lc ok.calm (by rw [ok.hN]; exact ok.nd) (hi X Φ W ok tk) (by rw [ok.hN, ok.sc]; exact bo)
    (fun s H C cl fp => hg _ Φ (ok_blk ok bo s H C cl fp)) (fun s H C cl fp => hc _ Φ W0 (ok_blk ok bo s H C cl fp) takes0) (fun s H C cl fp => he _ Φ W0 (ok_blk ok bo s H C cl fp) takes0) (hs _))
    fun σ H Q ⟨A, O, ρ, hA, hρ, q⟩ => lc_readF ht hA hρ q

end

/-! ### further statements -/
section
variable {K : PySem.W.Frag} {mg : Str → Option Value} {W : WX} {F : Fm} {O : List (Option Addr)} {σ : L2.St} {H : Hp} {ρ : Env} {Dn : Ends}
theorem rtf_onE {A : List Addr} {Q : VK} {m : Res D} {k : D → SR} (h : RtS K mg W F Dn (onE m ρ k)) (s : StO K F O σ H ρ) (hl : ∀ d, m = .ok d → ∃ ds, d = .list ds)
    (kk : ∀ ds p xs H1, m = .ok (.list ds) → Same H H1 → H p = none → H1 p = some (.lst xs) → RpL K H1 (p :: A) xs ds → RtS K mg W F Dn (k (.list ds)) → Q (.ref p) H1) : RtF K mg W A H σ Q m := by
  cases m with
  | st => exact h
  | ok d =>
    obtain ⟨ds, rfl⟩ := hl d rfl
    exact fun p xs H1 s1 np e r => kk ds p xs H1 rfl s1 np e r h
  | ex c => exact fun C H' s' hm => h C σ H' O (s.same s') hm
/-- a new list stored, owned from then on -/
def stF (i : Nat) (m : Res D) (ρ : Env) : SR := onE m ρ fun d => match d with | .list ds => if i < ρ.length then .nx (ρ.set i (some (true, .list ds))) else .st | _ => .st
theorem rtf_stF {i : Nat} {m : Res D} (h : RtS K mg W F Dn (stF i m ρ)) (hF : F.Ok) (s : StO K F O σ H ρ) : RtF K mg W (F.A0 ++ rts O) H σ (fun x H1 => gName i x σ H1 Dn.nx) m := by
  unfold stF at h
  cases m with
  | st => exact h
  | ex c => exact fun C H' s' hm => h C σ H' O (s.same s') hm
  | ok d =>
    cases d with
    | list ds =>
      intro p xs H1 s1 np e r
      have h : RtS K mg W F Dn (if i < ρ.length then .nx (ρ.set i (some (true, .list ds))) else .st) := h
      have hi : i < ρ.length := by
        by_cases hi : i < ρ.length
        · exact hi
        · rw [if_neg hi] at h; exact h.elim
      rw [if_pos hi] at h
      refine h _ _ _ (s.put i hF s1 np (.ownL (List.mem_append_right _ (mem_rts.mpr ?_)) e (r.sub fun a ha => ?_)))
      · have hO : i < O.length := by rw [s.env.sl.len.2]; exact hi
        exact List.mem_of_getElem? (i := i) (by rw [List.getElem?_set_self hO])
      · rcases List.mem_append.mp ha with ha | ha
        · exact List.mem_cons_of_mem _ (List.mem_append_left _ ha)
        · rcases mem_set (mem_rts.mp ha) with ha | ha
          · exact List.mem_cons_of_mem _ (List.mem_append_right _ (mem_rts.mpr ha))
          · cases ha; simp
    | _ => exact h
end
section
variable {c : Ctx} {e a b iter tg : Expr} {st : Stmt} {sts body : List Stmt} {fe fa fb fc : EvE} {fi : EvL} {fs gs : EvS} {pos pos' : Pos}
theorem s_setF {i : Nat} {x : Str} (is : List Nat) (hi : c.N[i]? = some x) (hx : LocC c x) (he : SF c e fe) (hs : ∀ env, env.scope = c.sc → swapsWith e (some (.Name x pos')) pos.line env = pure false) :
    SS c (.Assign [.Name x pos'] e pos) (fun Φ ρ => stF i (fe Φ (dis is ρ)) (dis is ρ)) := fun X Φ W ok tk hp =>
  psI (ps_set (i := i) (by rw [ok.hN]; exact ok.nd) (by rw [ok.hN]; exact hi) (hx.loc ok).1 (he X Φ W ok tk) (hs _ ok.sc) (hx.loc ok).2) fun Dn σ H ⟨F, O, ρ, hF, hs, q⟩ => by
    obtain ⟨O', hs'⟩ := hs.dis hF is
    exact ⟨_, O', _, hs'.aok hF, hs'.env, rtf_stF q hF hs'⟩
/-- x = [.. for ..] on one line -/
theorem s_setLc {i : Nat} {x : Str} {spos : Pos} {scope : Scope} {own : List (Str × Nat)} {ifs : List Expr} {t : Tg} (bor : Bool) (is : List Nat) (hi' : c.N[i]? = some x) (hx : c.sc.names.lookup x = some .local)
    (hsw : ∀ env, env.scope = c.sc → swapsWith (.ListComp e [⟨tg, iter, ifs, 0⟩] scope pos) (some (.Name x pos')) spos.line env = pure true)
    (hi : SI bor c tg iter fi) (bo : BlkOk c.N c.sc scope own) (hg : SG (c.blk scope) tg t) (ht : ∀ i ∈ t.slots, i ∈ own.map (·.2)) (hc : STs (c.blk scope) ifs fc) (he : SE (c.blk scope) e fe)
    (hs : ∀ env x, foldedSetIterable iter env x = pure x) : SS c (.Assign [.Name x pos'] (.ListComp e [⟨tg, iter, ifs, 0⟩] scope pos) spos) (fun Φ ρ => stF i (lcE (own.map (·.2)) t fi fc fe Φ (dis is ρ)) (dis is ρ)) := fun X Φ W ok tk hp =>
  psI (ps_setLc (i := i) ok.calm (by rw [ok.hN]; exact ok.nd) (by rw [ok.hN]; exact hi') (by rw [ok.sc]; exact hx) (hsw _ ok.sc) (hi X Φ W ok tk) (by rw [ok.hN, ok.sc]; exact bo)
    (fun s H C cl fp => hg _ Φ (ok_blk ok bo s H C cl fp)) (fun s H C cl fp => hc _ Φ W0 (ok_blk ok bo s H C cl fp) takes0) (fun s H C cl fp => he _ Φ W0 (ok_blk ok bo s H C cl fp) takes0) (hs _))
    fun Dn σ H ⟨F, O, ρ, hF, hs, q⟩ => by
      obtain ⟨O', hs'⟩ := hs.dis hF is
      exact lc_readF ht (hs'.aok hF) hs'.env (rtf_stF q hF hs')
/-- a target of another form = e -/
def asgS (t : Tg) (d : D) (ρ : Env) (k : Env → SR) : SR := match asgT t d ρ with
  | .ok ρ' => k ρ'
  | _ => .st
theorem asgS_read {K : PySem.W.Frag} {mg : Str → Option Value} {W : WX} {F : Fm} {O : List (Option Addr)} {σ : L2.St} {H : Hp} {ρ : Env} {Dn : Ends} {t : Tg} {d : D} {v : V} {k : Env → SR} {Q : L2.St → Hp → Prop} (hF : F.Ok) (hs : StO K F O σ H ρ) (p : Rp K H (F.A0 ++ rts O) v d) (q : RtS K mg W F Dn (asgS t d ρ k))
    (kk : ∀ ρ' σ' O', StO K F O' σ' H ρ' → RtS K mg W F Dn (k ρ') → Q σ' H) : tG K t v σ H Q := by
  refine ⟨_, O, ρ, d, hs.aok hF, hs.env, p, ?_⟩
  unfold asgS at q
  cases hr : asgT t d ρ with
  | st => rw [hr] at q; exact q
  | ex z => rw [hr] at q; exact q
  | ok ρ' =>
    rw [hr] at q
    intro σ' O2 e1 e2 _
    refine kk ρ' σ' O2 ⟨e1.subTo (fun a ha => ?_) fun a ha => List.mem_append_right _ (mem_rts.mpr ha), hs.but, fun a ha => hs.own a (e2 a ha)⟩ q
    rcases List.mem_append.mp ha with ha | ha
    · exact List.mem_append_left _ ha
    · exact List.mem_append_right _ (mem_rts.mpr (e2 a (mem_rts.mp ha)))
theorem s_asg {t : Tg} (is : List Nat) (hg : SG c tg t) (he : SE c e fe) (hs : ∀ env, env.scope = c.sc → swapsWithSole [tg] e pos.line env = pure false) (hw : ∀ env, env.scope = c.sc → swappedStores [tg] e env = pure none) (hn : notStar tg = true) :
    SS c (.Assign [tg] e pos) (fun Φ ρ => onE (fe Φ (dis is ρ)) (dis is ρ) fun d => asgS t d (dis is ρ) .nx) := fun X Φ W ok tk hp =>
  psI (ps_asg (he X Φ W ok tk) (hg X Φ ok) (hs _ ok.sc) (hw _ ok.sc) (by cases tg <;> first | rfl | cases hn)) fun Dn σ H ⟨F, O, ρ, hF, hs, q⟩ => by
    obtain ⟨O', hs'⟩ := hs.dis hF is
    exact ⟨_, O', _, hs'.aok hF, hs'.env, rt_onE q hs' fun d v H1 s1 p q1 => asgS_read hF (hs'.same s1) p q1 fun ρ' σ' O2 s2 q2 => q2 _ _ _ s2⟩
/-- for -/
def forL (t : Tg) (body : Env → SR) : List D → Env → SR
  | [], ρ => .nx ρ
  | d :: ds, ρ => asgS t d ρ fun ρ' => match body ρ' with
    | .nx ρ2 => forL t body ds ρ2
    | .ct ρ2 => forL t body ds ρ2
    | .bk ρ2 => .nx ρ2
    | r => r
theorem s_for {t : Tg} (is : List Nat) (hi : SI false c tg iter fi) (hg : SG c tg t) (hb : SSs c body fs) (hf : ∀ env x, foldedSetIterable iter env x = pure x) :
    SS c (.For tg iter body [] pos) (fun Φ ρ => onE (fi Φ (dis is ρ)) (dis is ρ) fun ds => forL t (fs Φ) ds (dis is ρ)) := fun X Φ W ok tk hp =>
  psI (ps_for hp ok.calm (hi X Φ W ok tk) (hg X Φ ok) (hb X Φ W ok tk hp) (hf _)) fun Dn σ H ⟨F, O, ρ, hF, hs, q⟩ => by
    obtain ⟨O1, hs1⟩ := hs.dis hF is
    refine ⟨_, O1, _, hs1.aok hF, hs1.env, ?_⟩
    have q : RtS X.K X.mg W F Dn (onE (fi Φ (dis is ρ)) (dis is ρ) fun ds => forL t (fs Φ) ds (dis is ρ)) := q
    cases hr : fi Φ (dis is ρ) with
    | st => rw [hr] at q; exact q
    | ex z => rw [hr] at q; exact fun C H' s' hm => q C σ H' O1 (hs1.same s') hm
    | ok ds =>
      rw [hr] at q
      intro J H1 s1 wk
      have hs2 := hs1.same s1
      have hF1 := hs2.startOk hF
      refine ⟨fun i m σ2 H2 => m = ds.length - i ∧ i ≤ ds.length ∧ ∃ O2 ρ2, StO X.K ⟨F.A0, rts O1, H1⟩ O2 σ2 H2 ρ2 ∧ RtS X.K X.mg W F Dn (forL t (fs Φ) (ds.drop i) ρ2), ⟨ds.length, by simp, Nat.zero_le _, O1, _, hs2.start, q⟩, ?_⟩
      rintro i m σ2 H2 ⟨rfl, hi, O2, ρ2, hs3, q3⟩
      have aok1 := hs2.aok hF
      have bt : But (F.A0 ++ rts O1) H1 H2 := fun b o n e => hs3.but b o (fun z => n (List.mem_append_right _ z)) e
      obtain ⟨wgo, wst⟩ := wk i H2 (F.A0 ++ rts O2) bt fun p hp => by
        rcases List.mem_append.mp hp with hp | hp
        · exact .inl (List.mem_append_left _ hp)
        · rcases hs3.own p (mem_rts.mp hp) with z | z
          · exact .inl (List.mem_append_right _ z)
          · exact .inr z
      by_cases hlt : i < ds.length
      · obtain ⟨go, yl⟩ := wgo _ (List.getElem?_eq_getElem hlt)
        rw [List.drop_eq_getElem_cons hlt] at q3
        have q3 : RtS X.K X.mg W F Dn (asgS t ds[i] ρ2 fun ρ' => match fs Φ ρ' with
          | .nx ρ2 => forL t (fs Φ) (ds.drop (i + 1)) ρ2
          | .ct ρ2 => forL t (fs Φ) (ds.drop (i + 1)) ρ2
          | .bk ρ2 => .nx ρ2
          | r => r) := q3
        refine .inr ⟨go, fun σ' H' => ∃ O' ρ', StO X.K ⟨F.A0, rts O1, H1⟩ O' σ' H' ρ' ∧ RtS X.K X.mg W F Dn (forL t (fs Φ) (ds.drop (i + 1)) ρ'), fun σ' H' ⟨O', ρ', a1, a2⟩ => ⟨ds.length - (i + 1), by omega, rfl, hlt, O', ρ', a1, a2⟩, fun x H' hy => ?_⟩
        obtain ⟨s3, hx⟩ := yl x H' hy
        -- the assignment, in the frame of the loop
        have hs4 := hs3.same s3
        unfold asgS at q3
        refine ⟨_, O2, ρ2, ds[i], hs4.aok hF1, hs4.env, hx, ?_⟩
        cases hr2 : asgT t ds[i] ρ2 with
        | st => rw [hr2] at q3; exact q3
        | ex z => rw [hr2] at q3; exact q3
        | ok ρ' =>
          rw [hr2] at q3
          intro σ' O' e1 e2 _
          have hs5 : StO X.K ⟨F.A0, rts O1, H1⟩ O' σ' H' ρ' := ⟨e1.subTo (fun a ha => by
            rcases List.mem_append.mp ha with ha | ha
            · exact List.mem_append_left _ ha
            · exact List.mem_append_right _ (mem_rts.mpr (e2 a (mem_rts.mp ha)))) fun a ha => List.mem_append_right _ (mem_rts.mpr ha), hs4.but, fun a ha => hs4.own a (e2 a ha)⟩
          refine ⟨⟨F.A0, rts O1, H1⟩, O', ρ', hF1, hs5, ?_⟩
          have q3 : RtS X.K X.mg W F Dn (match fs Φ ρ' with
            | .nx ρ2 => forL t (fs Φ) (ds.drop (i + 1)) ρ2
            | .ct ρ2 => forL t (fs Φ) (ds.drop (i + 1)) ρ2
            | .bk ρ2 => .nx ρ2
            | r => r) := q3
          cases hr3 : fs Φ ρ' with
          | st => rw [hr3] at q3; exact q3
          | nx ρ3 => rw [hr3] at q3; exact fun σ3 H3 O3 s => ⟨O3, ρ3, s, q3⟩
          | ct ρ3 => rw [hr3] at q3; exact fun σ3 H3 O3 s => ⟨O3, ρ3, s, q3⟩
          | bk ρ3 => rw [hr3] at q3; exact fun σ3 H3 O3 s => q3 σ3 H3 O3 (hs2.back hF s)
          | rt d => rw [hr3] at q3; exact fun v H3 b r => q3 v H3 (hs2.butBack hF b) r
          | ex z ρ3 => rw [hr3] at q3; exact fun C σ3 H3 O3 s hm => q3 C σ3 H3 O3 (hs2.back hF s) hm
      · have e : i = ds.length := by omega
        subst e
        rw [List.drop_length] at q3
        exact .inl ⟨wst (Nat.le_refl _), q3 σ2 H2 O2 (hs2.back hF hs3)⟩
/-- while -/
def whileN (test : Env → Res D) (body : Env → SR) : Nat → Env → SR
  | 0, _ => .st
  | n + 1, ρ => onE (test ρ) ρ fun d => match d with
    | .bool b => if b then (match body ρ with
      | .nx ρ2 => whileN test body n ρ2
      | .ct ρ2 => whileN test body n ρ2
      | .bk ρ2 => .nx ρ2
      | r => r) else .nx ρ
    | _ => .st
def FUEL : Nat := 1000000
theorem s_while (hc : ST c e fe) (hb : SSs c body fs) : SS c (.While e body [] pos) (fun Φ ρ => whileN (fe Φ) (fs Φ) FUEL ρ) := fun X Φ W ok tk hp =>
  psI (ps_while hp (hc X Φ W ok tk) (hb X Φ W ok tk hp)) fun Dn σ H ⟨F, O, ρ, hF, hs, q⟩ => by
    refine ⟨fun m σ2 H2 => ∃ O2 ρ2, StO X.K F O2 σ2 H2 ρ2 ∧ RtS X.K X.mg W F Dn (whileN (fe Φ) (fs Φ) m ρ2), ⟨FUEL, O, ρ, hs, q⟩, ?_⟩
    rintro m σ2 H2 ⟨O2, ρ2, hs2, q2⟩
    cases m with
    | zero => exact q2.elim
    | succ n =>
      refine ⟨_, O2, ρ2, hs2.aok hF, hs2.env, rtb_onE (k := fun b => if b then (match fs Φ ρ2 with
        | .nx ρ2 => whileN (fe Φ) (fs Φ) n ρ2
        | .ct ρ2 => whileN (fe Φ) (fs Φ) n ρ2
        | .bk ρ2 => .nx ρ2
        | r => r) else .nx ρ2) q2 hs2 fun b H1 s1 q3 => ?_⟩
      cases b with
      | false => exact iteF (q3 _ _ _ (hs2.same s1))
      | true =>
        refine iteT ⟨fun σ' H' => ∃ O' ρ', StO X.K F O' σ' H' ρ' ∧ RtS X.K X.mg W F Dn (whileN (fe Φ) (fs Φ) n ρ'), fun σ' H' ⟨O', ρ', a1, a2⟩ => ⟨n, Nat.lt_succ_self _, O', ρ', a1, a2⟩, F, O2, ρ2, hF, hs2.same s1, ?_⟩
        have q3 : RtS X.K X.mg W F Dn (match fs Φ ρ2 with
            | .nx ρ2 => whileN (fe Φ) (fs Φ) n ρ2
            | .ct ρ2 => whileN (fe Φ) (fs Φ) n ρ2
            | .bk ρ2 => .nx ρ2
            | r => r) := q3
        cases hr3 : fs Φ ρ2 with
        | st => rw [hr3] at q3; exact q3
        | nx ρ3 => rw [hr3] at q3; exact fun σ3 H3 O3 s => ⟨O3, ρ3, s, q3⟩
        | ct ρ3 => rw [hr3] at q3; exact fun σ3 H3 O3 s => ⟨O3, ρ3, s, q3⟩
        | bk ρ3 => rw [hr3] at q3; exact fun σ3 H3 O3 s => q3 σ3 H3 O3 s
        | rt d => rw [hr3] at q3; exact q3
        | ex z ρ3 => rw [hr3] at q3; exact q3
/-! lists that are owned, changed -/
def ownL (i : Nat) (ρ : Env) (k : List D → SR) : SR := match ρ[i]? with
  | some (some (true, .list ds)) => k ds
  | _ => .st
theorem ownL_get {K : PySem.W.Frag} {mg : Str → Option Value} {W : WX} {F : Fm} {O : List (Option Addr)} {σ : L2.St} {H : Hp} {ρ : Env} {Dn : Ends} {i : Nat} {k : List D → SR} (hs : StO K F O σ H ρ) (q : RtS K mg W F Dn (ownL i ρ k)) :
    ∃ ds a xs, ρ[i]? = some (some (true, .list ds)) ∧ σ[i]? = some (some (.ref a)) ∧ O[i]? = some (some a) ∧ H a = some (.lst xs) ∧ RpL K H (F.A0 ++ rts O) xs ds ∧ RtS K mg W F Dn (k ds) := by
  unfold ownL at q
  split at q
  · rename_i ds e
    obtain ⟨x, r, e1, e2, sl⟩ := hs.env.sl.get e
    cases sl with
    | ownL m h r => exact ⟨ds, _, _, e, e1, e2, h, r, q⟩
  · exact q.elim
/-- the list in slot i is now ys -/
theorem mutL {K : PySem.W.Frag} {F : Fm} {O : List (Option Addr)} {σ : L2.St} {H : Hp} {ρ : Env} {i : Nat} {a : Addr} {xs ys : List V} {es : List D} (hF : F.Ok) (hs : StO K F O σ H ρ) (e1 : σ[i]? = some (some (.ref a))) (e2 : O[i]? = some (some a)) (ha : H a = some (.lst xs)) (r : RpL K H (F.A0 ++ rts O) ys es) :
    StO K F O σ (upd H a (.lst ys)) (ρ.set i (some (true, .list es))) := by
  have inA : a ∈ F.A0 ++ rts O := List.mem_append_right _ (mem_rts.mpr (List.mem_of_getElem? e2))
  refine hs.mut (x := none) i hF e1 e2 (.ownL inA upd_same (r.but (B := [a]) (But.upd (by simp)) (fun p hp => ?_) (fun p hp => ?_)))
  · have : p = a := by simpa using hp
    subst this; exact ⟨_, ha, trivial⟩
  · have : p = a := by simpa using hp
    subst this; exact inA
/-- xs.append(e) -/
def apS (i : Nat) (ρ : Env) (m : Res D) : SR := ownL i ρ fun ds => onE m ρ fun d => if sm ds.length then .nx (ρ.set i (some (true, .list (ds ++ [d])))) else .st
theorem sm_lt {n : Nat} (h : sm n = true) : n < sizeLine := by
  have h' : n ≤ 1000000 := of_decide_eq_true h
  rw [sizeLine_eq]; omega
theorem few1 {env : PySem.Env} {e : Expr} {pos : Pos} (hn : notStar e = true) : ((backTo pos (starEach [e] env)).all (fun x => !x.1) && (backToKw pos (keywordEach [] env)).all (fun x => x.1.isSome)
      && decide (([e] : List Expr).length + ([] : List Keyword).length + (if ([] : List Keyword).isEmpty then 0 else 1) < 30)) = true := by
  rw [star_of hn]; rfl
theorem few2 {env : PySem.Env} {e e2 : Expr} {pos : Pos} (hn : notStar e = true) (hn2 : notStar e2 = true) : ((backTo pos (starEach [e, e2] env)).all (fun x => !x.1) && (backToKw pos (keywordEach [] env)).all (fun x => x.1.isSome)
      && decide (([e, e2] : List Expr).length + ([] : List Keyword).length + (if ([] : List Keyword).isEmpty then 0 else 1) < 30)) = true := by
  rw [star_of hn, star_of hn2]; rfl
theorem s_append {i : Nat} {x : Str} {p apos cpos : Pos} (is : List Nat) (hi : c.N[i]? = some x) (hv : Vis c.sc x) (hd : (x == ("__debug__" : Str)) = false) (hcd : (x == ("__classdict__" : Str)) = false) (he : SE c e fe) (hn : notStar e = true) (hline : (apos.endLine == cpos.line) = true) :
    SS c (.Expr (.Call (.Attribute (.Name x p) "append" apos) [e] [] cpos) pos) (fun Φ ρ => apS i (dis is ρ) (fe Φ (dis is ρ))) := fun X Φ W ok tk hp =>
  psI (ps_expr (pe_bm PySem.F.plainAttrs_list PySem.F.slot_list_append PySem.F.type_list_append mt_append (pe_var (i := i) (by rw [ok.hN]; exact hi) (by rw [ok.sc]; exact hv) hd hcd) (pa_cons (he X Φ W ok tk) pa_nil (star_of hn _ _)) rfl (few1 hn) hline (star_of hn _ _) rfl)) fun Dn σ H ⟨F, O, ρ, hF, hs, q⟩ => by
    obtain ⟨O1, hs1⟩ := hs.dis hF is
    obtain ⟨ds, a, xs, e0, e1, e2, ha, r, q1⟩ := ownL_get hs1 q
    refine ⟨.ref a, e1, .inl ⟨rfl, xs, .inl (.inl ha)⟩, _, O1, _, hs1.aok hF, hs1.env, rt_onE q1 hs1 fun d v H1 s1 p q2 => ?_⟩
    by_cases hz : sm ds.length = true
    · rw [if_pos hz] at q2
      refine ⟨a, xs, v, rfl, rfl, s1 _ _ ha, by rw [r.length]; exact sm_lt hz, ?_⟩
      exact q2 _ _ _ (mutL hF (hs1.same s1) e1 e2 (s1 _ _ ha) ((r.same s1).append (.cons p .nil)))
    · rw [if_neg hz] at q2; exact q2.elim
/-- xs.extend(e): e a list -/
def exS (i : Nat) (ρ : Env) (m : Res D) : SR := ownL i ρ fun ds => onE m ρ fun d => match d with
  | .list es => if sm (ds.length + es.length) then .nx (ρ.set i (some (true, .list (ds ++ es)))) else .st
  | _ => .st
theorem list_extend_any (l : Addr) (items : Array Value) (n : Nat) (b : Addr) (items2 : Array Value) (n2 : Nat) (sl2 : Array (Option Value)) (hc0 : ¬(!items.isEmpty && Builtin.List.listTooLong (items.size + items2.size)) = true) (hc1 : items.size ≤ sizeLine) (hs2 : items.size + items2.size ≤ sizeLine + 1) :
    Meets (Builtin.«list.extend» ⟨[.ref l, .ref b], []⟩) (fun _ R s => s.heap.get? l = some { cls := .type "list", dict := none, data := .seq items n, slots := #[] } ∧ s.heap.get? b = some { cls := .type "list", dict := none, data := .seq items2 n2, slots := sl2 } ∧ R (.ok (.ret Value.none)) { s with heap := s.heap.update l (Obj.mapSeq fun x => x ++ items2), toks := s.toks }) :=
  .of_wp fun prog w A R s h => by
    obtain ⟨hp, g, d, tk, os⟩ := s; obtain ⟨hl, hb, h⟩ := h; have f1 := AutoSeq1.idx_int; have f2 := AutoSeq1.sub_tuple_tuple; have f3 := AutoSeq1.sub_list_list; have f4 := AutoSeq1.sub_tuple_list; have f5 := AutoSeq1.sub_list_tuple;
    have hz' : (items ++ items2).size ≤ sizeLine + 1 := by rw [Array.size_append]; exact hs2
    wp_walk using (wpAny_updateSeq hl rfl (hz := hc1) (_hz' := hz')), AutoSeq1.wpAny_loadPart' hl, AutoSeq1.wpAny_loadPart' hb; exact ⟨_, rfl, h⟩
theorem mt_extendA {X : Cx} : MtR X "list.extend" (fun x vs H Q => ∃ l b xs zs, x = .ref l ∧ vs = [.ref b] ∧ H l = some (.lst xs) ∧ SqL X.K H b zs ∧ xs.length + zs.length ≤ sizeLine ∧ Q .non (upd H l (.lst (xs ++ zs)))) := by
  intro pins s σ H x vs v us Q I rx rv h
  obtain ⟨l, b, xs, zs, rfl, rfl, hH, hB, hz, q⟩ := h
  cases rx
  obtain ⟨u, rfl, ru⟩ := rv.one
  cases ru
  obtain ⟨z, its, n, r, hl, e⟩ := I.lstM hH
  obtain ⟨its2, r2, ⟨⟨c1, d1, t1, sl1⟩, n2, e2, hc, hd, hs⟩, hl2'⟩ := I.list hB
  simp only at hc hd hs
  subst hc hd hs
  have hl2 := r2.length
  have hsz : its.toArray.size + its2.toArray.size ≤ sizeLine := by rw [List.size_toArray, List.size_toArray]; omega
  have hlong : ¬ (!its.toArray.isEmpty && Builtin.List.listTooLong (its.toArray.size + its2.toArray.size)) = true := by
    rw [notLongL hsz, Bool.and_false]
    exact Bool.false_ne_true
  refine call_meets F.slot_list_extend ⟨_, e, rfl⟩ F.entry_list_extend (F.args_list_extend_2 _ _)
    (list_extend_any l its.toArray n b its2.toArray n2 sl1 hlong (by rw [List.size_toArray]; omega) (by omega)) ⟨e, e2, ?_⟩
  refine ⟨.non, _, I.lset (its' := its ++ its2) hH e (by simp) (r.append r2) ?_, rfl, q⟩
  rw [List.length_append]
  omega
theorem s_extend {i : Nat} {x : Str} {p apos cpos : Pos} (is : List Nat) (hi : c.N[i]? = some x) (hv : Vis c.sc x) (hd : (x == ("__debug__" : Str)) = false) (hcd : (x == ("__classdict__" : Str)) = false) (he : SE c e fe) (hn : notStar e = true) (hline : (apos.endLine == cpos.line) = true) :
    SS c (.Expr (.Call (.Attribute (.Name x p) "extend" apos) [e] [] cpos) pos) (fun Φ ρ => exS i (dis is ρ) (fe Φ (dis is ρ))) := fun X Φ W ok tk hp =>
  psI (ps_expr (pe_bm PySem.F.plainAttrs_list PySem.F.slot_list_extend PySem.F.type_list_extend mt_extendA (pe_var (i := i) (by rw [ok.hN]; exact hi) (by rw [ok.sc]; exact hv) hd hcd) (pa_cons (he X Φ W ok tk) pa_nil (star_of hn _ _)) rfl (few1 hn) hline (star_of hn _ _) rfl)) fun Dn σ H ⟨F, O, ρ, hF, hs, q⟩ => by
    obtain ⟨O1, hs1⟩ := hs.dis hF is
    obtain ⟨ds, a, xs, e0, e1, e2, ha, r, q1⟩ := ownL_get hs1 q
    refine ⟨.ref a, e1, .inl ⟨rfl, xs, .inl (.inl ha)⟩, _, O1, _, hs1.aok hF, hs1.env, rt_onE q1 hs1 fun d v H1 s1 p q2 => ?_⟩
    cases d with
    | list es =>
      have q2 : RtS X.K X.mg W F Dn (if sm (ds.length + es.length) then .nx ((dis is ρ).set i (some (true, .list (ds ++ es)))) else .st) := q2
      by_cases hz : sm (ds.length + es.length) = true
      · rw [if_pos hz] at q2
        cases p with
        | @lst b ys _ hb rb =>
          refine ⟨a, b, xs, ys, rfl, rfl, s1 _ _ ha, hb.sq, by rw [r.length, rb.length]; exact sm_le hz, ?_⟩
          exact q2 _ _ _ (mutL hF (hs1.same s1) e1 e2 (s1 _ _ ha) ((r.same s1).append rb))
      · rw [if_neg hz] at q2; exact q2.elim
    | _ => exact q2.elim
/-- xs.remove(e): whole numbers -/
def remS (i : Nat) (ρ : Env) (m : Res D) : SR := ownL i ρ fun ds => onE m ρ fun d => match intsOf ds, d with
  | some ns, .int k => if k ∈ ns then .nx (ρ.set i (some (true, .list ((ns.erase k).map PyData.int)))) else .st
  | _, _ => .st
theorem rpl_int {K : PySem.W.Frag} {H : Hp} {A : List Addr} : ∀ ns : List Int, RpL K H A (ns.map V.int) (ns.map PyData.int)
  | [] => .nil
  | n :: ns => .cons (.int n) (rpl_int ns)
theorem s_remove {i : Nat} {x : Str} {p apos cpos : Pos} (is : List Nat) (hi : c.N[i]? = some x) (hv : Vis c.sc x) (hd : (x == ("__debug__" : Str)) = false) (hcd : (x == ("__classdict__" : Str)) = false) (he : SE c e fe) (hn : notStar e = true) (hline : (apos.endLine == cpos.line) = true) :
    SS c (.Expr (.Call (.Attribute (.Name x p) "remove" apos) [e] [] cpos) pos) (fun Φ ρ => remS i (dis is ρ) (fe Φ (dis is ρ))) := fun X Φ W ok tk hp =>
  psI (ps_expr (pe_bm PySem.F.plainAttrs_list PySem.F.slot_list_remove PySem.F.type_list_remove mt_remove (pe_var (i := i) (by rw [ok.hN]; exact hi) (by rw [ok.sc]; exact hv) hd hcd) (pa_cons (he X Φ W ok tk) pa_nil (star_of hn _ _)) rfl (few1 hn) hline (star_of hn _ _) rfl)) fun Dn σ H ⟨F, O, ρ, hF, hs, q⟩ => by
    obtain ⟨O1, hs1⟩ := hs.dis hF is
    obtain ⟨ds, a, xs, e0, e1, e2, ha, r, q1⟩ := ownL_get hs1 q
    refine ⟨.ref a, e1, .inl ⟨rfl, xs, .inl (.inl ha)⟩, _, O1, _, hs1.aok hF, hs1.env, rt_onE q1 hs1 fun d v H1 s1 p q2 => ?_⟩
    cases hz : intsOf ds with
    | none => rw [hz] at q2; exact q2.elim
    | some ns =>
      rw [hz] at q2
      cases d with
      | int k =>
        have q2 : RtS X.K X.mg W F Dn (if k ∈ ns then .nx ((dis is ρ).set i (some (true, .list ((ns.erase k).map PyData.int)))) else .st) := q2
        by_cases hk : k ∈ ns
        · rw [if_pos hk] at q2
          have e3 := intsOf_eq hz
          subst e3
          have e4 := r.ints
          subst e4
          cases p
          have hlt : ns.idxOf k < ns.length := List.idxOf_lt_length_iff.mpr hk
          refine ⟨a, ns, k, ns.idxOf k, rfl, rfl, s1 _ _ ha, ?_, fun m hm e => ?_, ?_⟩
          · rw [List.getElem?_eq_getElem hlt, List.getElem_idxOf hlt]
          · have hml : m < ns.length := by omega
            rw [List.getElem?_eq_getElem hml] at e
            have := List.not_of_lt_findIdx (p := (· == k)) (xs := ns) (i := m) hm
            have e5 : ns[m] = k := Option.some.inj e
            rw [e5] at this
            simp at this
          · have e5 : ns.eraseIdx (ns.idxOf k) = ns.erase k := (List.erase_eq_eraseIdx_of_idxOf rfl).symm
            rw [e5]
            exact q2 _ _ _ (mutL hF (hs1.same s1) e1 e2 (s1 _ _ ha) (rpl_int _))
        · rw [if_neg hk] at q2; exact q2.elim
      | _ => exact q2.elim
/-- xs[k] = e -/
def setS (i : Nat) (ρ : Env) (m : Res D) (mk : Res D) : SR := ownL i ρ fun ds => onE m ρ fun d => onE mk ρ fun k => match k with
  | .int k => match ixN ds.length k with
    | some j => .nx (ρ.set i (some (true, .list (ds.set j d))))
    | none => .st
  | _ => .st
theorem s_store {i : Nat} {x : Str} {p : Pos} (is : List Nat) (hi : c.N[i]? = some x) (hv : Vis c.sc x) (hd : (x == ("__debug__" : Str)) = false) (hcd : (x == ("__classdict__" : Str)) = false) (he : SE c e fe) (hk : SE c a fa)
    (hw : ∀ env, swapsWithSole [.Subscript (.Name x p) a pos'] e pos.line env = pure false)
    (ha : ∀ env v, assign (.Subscript (.Name x p) a pos') env v = (do
      let ov ← holding [v] (eval (.Name x p) env)
      let iv ← holding [v, ov] (eval a env)
      standAt pos'
      holding [v, ov, iv] (setItem ov iv v)
      release [v, ov, iv] [])) :
    SS c (.Assign [.Subscript (.Name x p) a pos'] e pos) (fun Φ ρ => setS i (dis is ρ) (fe Φ (dis is ρ)) (fa Φ (dis is ρ))) := fun X Φ W ok tk hp =>
  psI (ps_asg (he X Φ W ok tk) (pg_sub (pe_var (i := i) (by rw [ok.hN]; exact hi) (by rw [ok.sc]; exact hv) hd hcd) (hk X Φ W ok tk) set_list (ha _)) (hw _) rfl rfl) fun Dn σ H ⟨F, O, ρ, hF, hs, q⟩ => by
    obtain ⟨O1, hs1⟩ := hs.dis hF is
    have q : RtS X.K X.mg W F Dn (setS i (dis is ρ) (fe Φ (dis is ρ)) (fa Φ (dis is ρ))) := q
    obtain ⟨ds, a, xs, e0, e1, e2, hl, r, q1⟩ := ownL_get hs1 q
    refine ⟨_, O1, _, hs1.aok hF, hs1.env, rt_onE q1 hs1 fun d v H1 s1 p1 q2 => ?_⟩
    have hs2 := hs1.same s1
    refine ⟨.ref a, e1, _, O1, _, hs2.aok hF, hs2.env, rt_onE q2 hs2 fun k vk H2 s2 p2 q3 => ?_⟩
    have hs3 := hs2.same s2
    cases k with
    | int k =>
      cases p2
      cases hj : ixN ds.length k with
      | none => simp only [hj] at q3; exact q3.elim
      | some j =>
        simp only [hj] at q3
        have hl3 := s2 _ _ (s1 _ _ hl)
        have r3 := (r.same s1).same s2
        exact ⟨a, xs, k, j, rfl, rfl, hl3, by rw [r3.length]; exact hj, q3 _ _ _ (mutL hF hs3 e1 e2 hl3 (r3.set j (p1.same s2)))⟩
    | _ => exact q3.elim
end
end Pv

end
section
namespace Pv
open PySem PySem.Spec PyProof.Rows L2

/-! ### tuple(reversed(a tuple)) -/
theorem slot_rv_hint : PySem.Slot "reversed" "__length_hint__" "reversed.__length_hint__" := by
  refine .of (owner := "reversed") (n := "__length_hint__") ?_ (by decide +kernel) (by decide +kernel) (by decide +kernel) ?_ ?_
  · rw [typeLookup_type, builtinLookup_eq_fast]; kernel_rfl
  · exact .inr (by decide +kernel)
  · rw [isSubtype_type]; kernel_rfl
theorem entry_rv_hint : entryFor table "reversed.__length_hint__" = some Builtin.«reversed.__length_hint__» := entryFor_of_tree (by kernel_rfl)
theorem args_rv_hint (a : Value) : argsOk "reversed.__length_hint__" ⟨[a], []⟩ := by
  unfold argsOk
  rw [signature?_of (id := "reversed.__length_hint__") (n := ['_', '_', 't', 'n', 'i', 'h', '_', 'h', 't', 'g', 'n', 'e', 'l', '_', '_']) (o := ['d', 'e', 's', 'r', 'e', 'v', 'e', 'r']) (by kernel_rfl) RT.owner_rt]
  kernel_rfl
theorem nolen_rv : typeLookup (.type "reversed") "__len__" = pure none := by
  rw [typeLookup_type, builtinLookup_eq_fast]; kernel_rfl
section
variable {prog : Program} {w : World} {A : Around} {E : Value → Shared → Prop} {s : Shared}
theorem walks_rv (hh : A.handled = none) (I t : Addr) (hne : t ≠ I) (items : Array Value) (hz : items.size ≤ sizeLine) :
    Walks prog w A I [I, t] [I] items.size (fun i v => items[items.size - 1 - i]? = some v) (fun i h => i ≤ items.size ∧ RT.IsRt h I t ((items.size : Int) - 1 - (i : Int)) ∧ IsTup h t items) where
  sub := fun b hb => by rw [List.mem_singleton.mp hb]; simp
  frame := fun i h h' x hk => ⟨x.1, x.2.1.at fun o e => hk I (by simp) o e, by
    obtain ⟨o, ho, r⟩ := x.2.2
    exact ⟨o, hk t (by simp) o ho, r⟩⟩
  item := fun i s Q E hi x hQ => by
    obtain ⟨_, hit, ht⟩ := x
    rw [show (items.size : Int) - 1 - (i : Int) = ((items.size - 1 - i : Nat) : Int) by omega] at hit
    have hx : items[items.size - 1 - i]? = some (items[items.size - 1 - i]'(by omega)) := Array.getElem?_eq_getElem (by omega)
    refine RT.next_rt_item hit ht hx hz fun h' r sb => ?_
    rw [show ((items.size - 1 - i : Nat) : Int) - 1 = (items.size : Int) - 1 - ((i + 1 : Nat) : Int) by omega] at r
    refine hQ _ h' (s.toks + 1) hx ⟨hi, r, ?_⟩ fun b o hb e => (sb.2 b (fun z => hb (by simp [z]))).trans e
    obtain ⟨o, ho, q⟩ := ht
    exact ⟨o, (sb.2 t hne).trans ho, q⟩
  done := fun s Q E x hQ => by
    obtain ⟨_, hit, ht⟩ := x
    rw [show (items.size : Int) - 1 - (items.size : Int) = -1 by omega] at hit
    exact RT.next_rt_end hh hit fun h' eb => hQ h' s.toks fun b o hb e => eb b o (fun z => hb (by simp [z])) e
  self := fun i s Q E x h => RT.iter_rt x.2.1 h
theorem hint_rv {I t : Addr} {items : Array Value} {Q : Bool → Shared → Prop} (hit : RT.IsRt s.heap I t ((items.size : Int) - 1)) (ht : IsTup s.heap t items) (hz : items.size ≤ sizeLine)
    (hQ : ∀ b tk, Q b { s with toks := tk }) : wpAny (model prog w) A (Builtin.List.listLengthHint (.ref I)) Q E s := by
  obtain ⟨o, ho, hc, hd⟩ := id hit
  have hn := line63
  unfold Builtin.List.listLengthHint
  refine wpAny_bind (wpAny_specialOf hit.typeIs nolen_rv ?_)
  refine wpAny_bind (wpAny_specialOf hit.typeIs slot_rv_hint.lookup ?_)
  generalize hid : ("reversed.__length_hint__" : String) = id0
  wp_delta
  rw [show splitId id0 = some ("reversed", "__length_hint__") from by subst hid; decide +kernel]
  subst hid
  refine wpAny_bind (wpAny_isInstance (b := true) hit.typeIs PySem.F.sub_reversed_self ?_)
  rw [if_neg (by decide)]
  try dsimp only
  rw [if_neg (by decide +kernel)]
  refine wpAny_bind (wpAny_rule ?_)
  rw [slot_rv_hint.bind]
  refine wpAny_bind (wpAny_pure ?_)
  refine wpAny_bind (wpAny_attempt (wpAny_call_entry slot_rv_hint hit.typeIs entry_rv_hint ?_ (args_rv_hint _)))
  unfold Builtin.«reversed.__length_hint__»
  refine wpAny_bind (wpAny_of_eq (a := Value.ref I) rfl ?_)
  try dsimp only
  refine wpAny_bind (wpAny_field ho hd (x := .ref t) rfl ?_)
  try dsimp only
  rw [if_neg (by simp)]
  have hsz : (items.size : Int) < 2 ^ 63 := by omega
  refine wpAny_bind (len_tuple ht hsz ?_)
  refine wpAny_bind (wpAny_of_eq (a := some ((items.size : Nat) : Int)) rfl ?_)
  try dsimp only
  refine wpAny_bind (wpAny_field (s := { s with toks := s.toks + 1 + 1 }) ho hd (x := rawInt ((items.size : Int) - 1)) rfl ?_)
  show wpAny _ _ (if (items.size : Int) < (items.size : Int) - 1 + 1 then _ else _) _ _ _
  rw [if_neg (by omega)]
  unfold retInt
  refine wpAny_bind (wpAny_mkInt ?_)
  refine wpAny_pure ⟨_, rfl, ?_⟩
  try dsimp only
  refine wpAny_bind (wpAny_of_eq (a := some ((items.size : Int) - 1 + 1)) rfl ?_)
  try dsimp only
  rw [if_neg (by unfold Builtin.List.listFitsIndex; simp; omega), if_neg (by omega), if_neg (by unfold Builtin.List.listTooLong; simp; omega)]
  exact wpAny_pure (hQ _ _)
abbrev revIt (items : Array Value) : Nat → Value → Prop := fun i v => items[items.size - 1 - i]? = some v
abbrev RvOut (s : Shared) (it : Addr) (items : Array Value) (h' : Heap) (acc : Array Value) : Prop := (∀ b o, b ≠ it → s.heap.get? b = some o → h'.get? b = some o) ∧ ItemsOf (revIt items) acc items.size
theorem collect_rv {it t : Addr} {items : Array Value} {Q : List Value → Shared → Prop} (hh : A.handled = none) (hit : RT.IsRt s.heap it t ((items.size : Int) - 1)) (ht : IsTup s.heap t items) (hne : t ≠ it) (hn : items.size ≤ sizeLine)
    (hQ : ∀ (h' : Heap) (tk : Nat) (acc : Array Value), RvOut s it items h' acc → Q acc.toList { s with heap := h', toks := tk }) : wpAny (model prog w) A (collect (.ref it)) Q E s := by
  have W := (walks_rv (prog := prog) (w := w) (A := A.in1) hh it t hne items hn).toS
  obtain ⟨oi, hoi, _⟩ := id hit
  obtain ⟨ot, hot, _⟩ := id ht
  have hSi := Nat.ne_of_gt (Heap.lt_size hoi)
  have hSt := Nat.ne_of_gt (Heap.lt_size hot)
  have hSf : s.heap.objs.size ∉ [it, t] := fun z => (List.mem_cons.mp z).elim hSi fun z => hSt (List.mem_singleton.mp z)
  unfold collect
  refine wpAny_bind (wpAny_runValue (codeAny_builtin F.entry_proto_collect ?_))
  rw [Around.under_plainId F.plain_proto_collect _]
  show wpAny _ A.in1 (newList [] >>= fun l' => again (.builtin "list.__iadd__" ⟨[l', .ref it], []⟩)) _ _ s
  refine wpAny_bind (wpAny_newObj_type (wpAny_pure ⟨plainId_quiet F.plain_list_iadd _, codeAny_builtin F.entry_list_iadd ?_⟩))
  rw [Around.under_plainId F.plain_list_iadd _]
  obtain ⟨s1, hs1⟩ : ∃ s1 : Shared, s1 = { s with heap := s.heap.push { cls := .type "list", data := .seq ([] : List Value).toArray } } := ⟨_, rfl⟩
  have k0 : ∀ b o, s.heap.get? b = some o → s1.heap.get? b = some o := fun b o e => by rw [hs1]; exact Heap.get?_push_of_some _ e
  have hS1 : s1.heap.get? s.heap.objs.size = some { cls := .type "list", data := .seq ([] : List Value).toArray } := by rw [hs1]; exact Heap.get?_push_size _ rfl
  have hit1 : RT.IsRt s1.heap it t ((items.size : Int) - 1) := hit.at fun o e => k0 _ o e
  have ht1 : IsTup s1.heap t items := by
    obtain ⟨o, ho, r⟩ := ht
    exact ⟨o, k0 _ o ho, r⟩
  rw [← hs1]
  show wpAny _ A.in1 (Builtin.List.listExtendWith (.ref s.heap.objs.size) (.ref it) (.ref s.heap.objs.size)) _ _ s1
  unfold Builtin.List.listExtendWith
  refine wpAny_bind (wpAny_typeOf hit1.typeIs ?_)
  have h1 : Builtin.List.listSameRef (.ref s.heap.objs.size) (.ref it) = false := by simp [Builtin.List.listSameRef, hSi]
  rw [if_neg (by rw [h1]; decide)]
  refine wpAny_bind (RT.iter_rt hit1 ?_)
  refine wpAny_bind (wpAny_holding (hint_rv hit1 ht1 hn fun b tk => ?_))
  have fin : ∀ (h2 : Heap) (tk : Nat) (c : Nat), h2.get? s.heap.objs.size = some { cls := .type "list", dict := none, data := .seq #[] c, slots := #[] } → (∀ b o, b ≠ s.heap.objs.size → s1.heap.get? b = some o → h2.get? b = some o) →
      ∀ (R : Except Value Flow → Shared → Prop), (∀ (h' : Heap) (tk : Nat) (acc : Array Value) (c' : Nat), RvOut s it items h' acc → h'.get? s.heap.objs.size = some { cls := .type "list", dict := none, data := .seq acc c', slots := #[] } → R (.ok (.ret (.ref s.heap.objs.size))) { s with heap := h', toks := tk }) →
      codeAny (model prog w) A (.builtin "list.extend.loop" ⟨[.ref s.heap.objs.size, .ref it, .ref s.heap.objs.size], []⟩) R { s with heap := h2, toks := tk } := fun h2 tk c hS2 k2 R hR => by
    have hit2 : RT.IsRt h2 it t ((items.size : Int) - 1) := hit1.at fun o e => k2 _ o hSi.symm e
    have ht2 : IsTup h2 t items := by
      obtain ⟨o, ho, r⟩ := ht1
      exact ⟨o, k2 _ o hSt.symm ho, r⟩
    refine codeAny_extend_loopS W hn _ hSf _ items.size 0 _ _ c rfl (Nat.zero_le _) ⟨Nat.zero_le _, by rw [show (items.size : Int) - 1 - ((0 : Nat) : Int) = (items.size : Int) - 1 by omega]; exact hit2, ht2⟩ hS2 (ItemsOf.nil _) fun s' acc c' hm hS' hacc => ?_
    have e := Moved.eq_with hm
    rw [e]
    refine hR s'.heap s'.toks acc c' ⟨fun b o hb z => ?_, hacc⟩ hS'
    have hbS : b ≠ s.heap.objs.size := fun q => absurd (Heap.lt_size z) (by rw [q]; exact Nat.lt_irrefl _)
    exact hm.heap b o (fun q => (List.mem_cons.mp q).elim hbS fun q => hb (List.mem_singleton.mp q)) (k2 b o hbS (k0 b o z))
  have load : ∀ (h' : Heap) (tk : Nat) (acc : Array Value) (c' : Nat), RvOut s it items h' acc → h'.get? s.heap.objs.size = some { cls := .type "list", dict := none, data := .seq acc c', slots := #[] } → wpAny (model prog w) A (load s.heap.objs.size >>= fun o => match o.data with | .seq xs epoch => pure xs.toList | x => unsupported "internal:collect") Q E { s with heap := h', toks := tk } := fun h' tk acc c' r hS' => by
    refine wpAny_bind (wpAny_load hS' ?_)
    exact wpAny_pure (hQ h' tk acc r)
  have es1 : s1 = { s with heap := s1.heap, toks := s.toks } := by rw [hs1]
  cases b with
  | true =>
    rw [if_pos (by decide +kernel)]
    refine wpAny_bind (wpAny_rule (wpAny_bind ?_))
    show wpAny _ A.in1 (updateSeq s.heap.objs.size (·.push .none) >>= fun _ => updateSeq s.heap.objs.size (·.pop)) _ _ _
    refine wpAny_bind (wpAny_updateSeq (s := { s1 with toks := tk }) hS1 rfl ?_)
    have hS2 := Heap.get?_update_self (Obj.mapSeq (·.push Value.none)) hS1 rfl
    refine wpAny_updateSeq (s := { s1 with heap := s1.heap.update s.heap.objs.size (Obj.mapSeq (·.push Value.none)), toks := tk }) hS2 rfl ?_
    have hS3 := Heap.get?_update_self (Obj.mapSeq (·.pop)) hS2 rfl
    refine wpAny_pure ⟨plainId_quiet F.plain_extend_loop _, ?_⟩
    have e1 : ({ s1 with heap := (s1.heap.update s.heap.objs.size (Obj.mapSeq (·.push Value.none))).update s.heap.objs.size (Obj.mapSeq (·.pop)), toks := tk } : Shared) = { s with heap := (s1.heap.update s.heap.objs.size (Obj.mapSeq (·.push Value.none))).update s.heap.objs.size (Obj.mapSeq (·.pop)), toks := tk } := by rw [es1]
    refine e1 ▸ fin _ tk _ hS3 (fun b o hb e => (Heap.get?_update_other _ _ (Ne.symm hb)).trans ((Heap.get?_update_other _ _ (Ne.symm hb)).trans e)) _ fun h' tk acc c' r hS' => ?_
    exact load h' tk acc c' r hS'
  | false =>
    rw [if_neg (by decide +kernel)]
    refine wpAny_pure ⟨plainId_quiet F.plain_extend_loop _, ?_⟩
    have e1 : ({ s1 with toks := tk } : Shared) = { s with heap := s1.heap, toks := tk } := by rw [es1]
    refine e1 ▸ fin _ tk _ hS1 (fun b o hb e => e) _ fun h' tk acc c' r hS' => ?_
    exact load h' tk acc c' r hS'
theorem tuple_new_rv {it t : Addr} {items : Array Value} {Q₁ : Value → Shared → Prop} (hh : A.handled = none) (hit : RT.IsRt s.heap it t ((items.size : Int) - 1)) (ht : IsTup s.heap t items) (hne : t ≠ it) (hn : items.size ≤ sizeLine)
    (h : ∀ (h' : Heap) (tk : Nat) (acc : Array Value), RvOut s it items h' acc → Q₁ (.ref h'.objs.size) { s with heap := h'.push { cls := .type "tuple", data := .seq acc }, toks := tk }) :
    codeAny (model prog w) A (.call (.builtin "tuple.__new__") ⟨[.type "tuple", .ref it], []⟩) (wants Q₁ E) s := by
  refine codeAny_of_tree ?_
  show wpAny _ A.in1 (do checkBuiltinCall "tuple.__new__" ⟨[.type "tuple", .ref it], []⟩; again (.builtin "tuple.__new__" ⟨[.type "tuple", .ref it], []⟩)) _ _ s
  refine wpAny_bind (wpAny_of_eq (F.newCall_tuple_1 _) (wpAny_pure ⟨plainId_quiet F.plain_tuple_new _, codeAny_builtin F.entry_tuple_new ?_⟩))
  rw [Around.under_plainId F.plain_tuple_new _]
  have f1 := sub_tuple_self
  have f2 := init_tuple_lookup
  have f3 := madeHere_tuple
  have f4 : s.TypeIs (.ref it) "reversed" := hit.typeIs
  have f5 : A.in1.handled = none := hh
  wp_walk using wpAny_typeOf f4, collect_rv (A := A.in1) f5 hit ht hne hn
  intro h' tk acc hk
  show wpAny _ _ (Builtin.Tuple.tupleExact acc.toList.toArray >>= fun v => ret v) _ _ _
  unfold Builtin.Tuple.tupleExact
  have hsz : acc.toList.toArray.size ≤ sizeLine := by
    rw [Array.toArray_toList, hk.2.1]; exact hn
  refine wpAny_bind (wpAny_newObj_type (wpAny_pure ?_) hsz)
  rw [Array.toArray_toList]
  exact h h' tk acc hk
theorem call_tuple_rv {it t : Addr} {items : Array Value} {Q : Value → Shared → Prop} (hh : A.handled = none) (hit : RT.IsRt s.heap it t ((items.size : Int) - 1)) (ht : IsTup s.heap t items) (hne : t ≠ it) (hn : items.size ≤ sizeLine)
    (hQ : ∀ (h' : Heap) (tk : Nat) (acc : Array Value), RvOut s it items h' acc → Q (.ref h'.objs.size) { s with heap := h'.push { cls := .type "tuple", data := .seq acc }, toks := tk }) : wpAny (model prog w) A (call (.type "tuple") [.ref it]) Q E s := by
  refine callType_codes (Q₁ := fun obj s₁ => s₁.TypeIs obj "tuple" ∧ Q obj s₁) F.called_tuple (F.typeCall_tuple_1 _) F.entry_object_init ?_ fun obj s₁ h₁ => ?_
  · exact tuple_new_rv (A := A.in1) hh hit ht hne hn fun h' tk acc hk => ⟨⟨_, Heap.get?_push_size _ rfl, rfl⟩, hQ h' tk acc hk⟩
  · refine ⟨h₁.1, F.args_object_init_2 obj _, ?_⟩
    exact object_init_meets F.called_tuple.init.lookup F.called_tuple.made (by decide) prog w A.in1 _ s₁ ⟨h₁.1, rfl, h₁.2⟩
end
/-- tuple(reversed(x)), x a list or a tuple -/
def tRevA (K : PySem.W.Frag) (te : TE) : TE := fun σ H Q => te σ H fun v H1 => ∃ (a : Addr) (xs : List V), v = .ref a ∧ (SqL K H1 a xs ∨ SqT K H1 a xs) ∧ ∀ q, H1 q = none → Q (.ref q) (upd H1 q (.tup xs.reverse))
section
variable {X : Cx}
theorem pe_revA {e : Expr} {te : TE} {p p2 pos pos2 : Pos} (hc : X.calm = true) (hg : Gl X "tuple") (hm : X.mg "tuple" = none) (hg2 : Gl X "reversed") (hm2 : X.mg "reversed" = none) (he : PE X e te) (hs : starEach [e] X.env = (false, eval e X.env) :: starEach [] X.env) (hs2 : starEach [.Call (.Name "reversed" p2) [e] [] pos2] X.env = (false, eval (.Call (.Name "reversed" p2) [e] [] pos2) X.env) :: starEach [] X.env) :
    PE X (.Call (.Name "tuple" p) [.Call (.Name "reversed" p2) [e] [] pos2] [] pos) (tRevA X.K te) := by
  refine ⟨fun pins s σ H Q I h => Call_ (ld_blt I hg hm boot_tuple (PyProof.Rows.callWith_type1 (args_cons (Call_ (ld_blt I hg2 hm2 PyProof.Rows.boot_reversed (PyProof.Rows.callWith_type1 (args_cons (thn (he.run pins s σ H _ I h) ?_) hs) hs rfl))) hs2) hs2 rfl))⟩
  rintro u s1 ⟨v, H1, I1, r1, a, xs, ev, hq, q⟩
  refine args_nil ?_
  subst ev
  obtain rfl : u = Value.ref a := r1
  rcases hq with hq | hq
  · obtain ⟨its, rv, p', hz⟩ := I1.list hq
    obtain ⟨f0, f1, f2, f3, f4, f5⟩ := I1.fpOk (H' := H1) (b := s1.heap.objs.size) (Nat.le_refl _) (I1.hok.fresh (Nat.le_refl _))
    have hl := p'.isList
    have hne : a ≠ s1.heap.objs.size := by
      obtain ⟨ol, hol, _⟩ := id hl
      exact Nat.ne_of_lt (Heap.lt_size hol)
    have hn : its.toArray.size ≤ sizeLine := by rw [List.size_toArray, ← rv.length]; exact hz
    refine call_reversed_list p'.isList (args_nil ?_)
    refine RT.call_tuple_rev (s := { s1 with heap := s1.heap.push (revObj a ((its.toArray.size : Int) - 1)) }) (I1.ok.hd hc) ⟨_, Heap.get?_push_size _ rfl, rfl, rfl⟩ (hl.push _) hne hn fun h' tk acc hk hi => ?_
    have I2 : Inv X pins σ H1 { s1 with heap := s1.heap.push (revObj a ((its.toArray.size : Int) - 1)) } := I1.kept (t' := s1.toks) fun b o e => Heap.get?_push_of_some _ e
    have I3 : Inv X pins σ H1 { s1 with heap := h', toks := tk } := I2.turned (t' := tk) (fun b o hb e => hk b o hb e) f0 f1 f3 f4 f5
    have new : ObjOk X.prog X.w (upd H1 h'.objs.size (.tup xs.reverse)) (h'.push { cls := .type "tuple", data := .seq acc }) h'.objs.size (.tup xs.reverse) := ⟨by rw [List.length_reverse]; exact hz, acc.toList, RT.vals_rev rv hi, by rw [Array.toArray_toList]; exact IsTup.new _ _⟩
    exact ⟨.ref h'.objs.size, _, I3.laid (t' := tk) (fun c o e => Heap.get?_push_of_some _ e) (Nat.le_refl _) new, rfl, q _ (I3.hok.fresh (Nat.le_refl _))⟩
  · obtain ⟨its, rv, p', hz⟩ := I1.tuple hq
    have hn := line63
    have hl := rv.length
    obtain ⟨f0, f1, f2, f3, f4, f5⟩ := I1.fpOk (H' := H1) (b := s1.heap.objs.size) (Nat.le_refl _) (I1.hok.fresh (Nat.le_refl _))
    have hne : a ≠ s1.heap.objs.size := by
      obtain ⟨ol, hol, _⟩ := id p'
      exact Nat.ne_of_lt (Heap.lt_size hol)
    have hn2 : its.toArray.size ≤ sizeLine := by rw [List.size_toArray, ← rv.length]; exact hz
    have hfit : (its.toArray.size : Int) < 2 ^ 63 := by omega
    refine RT.call_reversed_tup p' (fun A E Q k => len_tuple p' hfit k) ?_
    refine args_nil ?_
    have ht2 : IsTup (s1.heap.push (RT.rtObj a ((its.toArray.size : Int) - 1))) a its.toArray := by
      obtain ⟨o, ho, r⟩ := p'
      exact ⟨o, Heap.get?_push_of_some _ ho, r⟩
    refine call_tuple_rv (s := { s1 with heap := s1.heap.push (RT.rtObj a ((its.toArray.size : Int) - 1)), toks := s1.toks + 1 + 1 }) (I1.ok.hd hc) ⟨_, Heap.get?_push_size _ rfl, rfl, rfl⟩ ht2 hne hn2 fun h' tk acc hk => ?_
    have I2 : Inv X pins σ H1 { s1 with heap := s1.heap.push (RT.rtObj a ((its.toArray.size : Int) - 1)), toks := s1.toks + 1 + 1 } := I1.kept (t' := s1.toks + 1 + 1) fun b o e => Heap.get?_push_of_some _ e
    have I3 : Inv X pins σ H1 { s1 with heap := h', toks := tk } := I2.turned (t' := tk) (fun b o hb e => hk.1 b o hb e) f0 f1 f3 f4 f5
    have new : ObjOk X.prog X.w (upd H1 h'.objs.size (.tup xs.reverse)) (h'.push { cls := .type "tuple", data := .seq acc }) h'.objs.size (.tup xs.reverse) := ⟨by rw [List.length_reverse]; exact hz, acc.toList, RT.vals_rev rv hk.2, by rw [Array.toArray_toList]; exact IsTup.new _ _⟩
    exact ⟨.ref h'.objs.size, _, I3.laid (t' := tk) (fun c o e => Heap.get?_push_of_some _ e) (Nat.le_refl _) new, rfl, q _ (I3.hok.fresh (Nat.le_refl _))⟩
end
end Pv

end
section
namespace Pv
open PySem PySem.Spec PyProof.Rows L2

/-! ### isinstance -/
inductive Cl where
  | bool | int | str | list | tuple
  deriving DecidableEq
def Cl.nm : Cl → String
  | .bool => "bool" | .int => "int" | .str => "str" | .list => "list" | .tuple => "tuple"
def Cl.sn : Cl → Str
  | .bool => "bool" | .int => "int" | .str => "str" | .list => "list" | .tuple => "tuple"
def tyN : D → String
  | .none => "NoneType" | .bool _ => "bool" | .int _ => "int" | .str _ => "str" | .list _ => "list" | .tuple _ => "tuple" | .dict _ => "dict"
def isiop (k : Cl) : D → Bool
  | .none => false
  | .bool _ => match k with | .bool => true | .int => true | _ => false
  | .int _ => match k with | .int => true | _ => false
  | .str _ => match k with | .str => true | _ => false
  | .list _ => match k with | .list => true | _ => false
  | .tuple _ => match k with | .tuple => true | _ => false
  | .dict _ => false
theorem kit_isi (k : Cl) (d : D) : kitB (tyN d) k.nm = some (isiop k d) := by
  cases d <;> cases k <;> first
    | exact (by decide +kernel : kitB "NoneType" "bool" = some false)
    | exact (by decide +kernel : kitB "NoneType" "int" = some false)
    | exact (by decide +kernel : kitB "NoneType" "str" = some false)
    | exact (by decide +kernel : kitB "NoneType" "list" = some false)
    | exact (by decide +kernel : kitB "NoneType" "tuple" = some false)
    | exact (by decide +kernel : kitB "bool" "bool" = some true)
    | exact (by decide +kernel : kitB "bool" "int" = some true)
    | exact (by decide +kernel : kitB "bool" "str" = some false)
    | exact (by decide +kernel : kitB "bool" "list" = some false)
    | exact (by decide +kernel : kitB "bool" "tuple" = some false)
    | exact (by decide +kernel : kitB "int" "bool" = some false)
    | exact (by decide +kernel : kitB "int" "int" = some true)
    | exact (by decide +kernel : kitB "int" "str" = some false)
    | exact (by decide +kernel : kitB "int" "list" = some false)
    | exact (by decide +kernel : kitB "int" "tuple" = some false)
    | exact (by decide +kernel : kitB "str" "bool" = some false)
    | exact (by decide +kernel : kitB "str" "int" = some false)
    | exact (by decide +kernel : kitB "str" "str" = some true)
    | exact (by decide +kernel : kitB "str" "list" = some false)
    | exact (by decide +kernel : kitB "str" "tuple" = some false)
    | exact (by decide +kernel : kitB "list" "bool" = some false)
    | exact (by decide +kernel : kitB "list" "int" = some false)
    | exact (by decide +kernel : kitB "list" "str" = some false)
    | exact (by decide +kernel : kitB "list" "list" = some true)
    | exact (by decide +kernel : kitB "list" "tuple" = some false)
    | exact (by decide +kernel : kitB "tuple" "bool" = some false)
    | exact (by decide +kernel : kitB "tuple" "int" = some false)
    | exact (by decide +kernel : kitB "tuple" "str" = some false)
    | exact (by decide +kernel : kitB "tuple" "list" = some false)
    | exact (by decide +kernel : kitB "tuple" "tuple" = some true)
    | exact (by decide +kernel : kitB "dict" "bool" = some false)
    | exact (by decide +kernel : kitB "dict" "int" = some false)
    | exact (by decide +kernel : kitB "dict" "str" = some false)
    | exact (by decide +kernel : kitB "dict" "list" = some false)
    | exact (by decide +kernel : kitB "dict" "tuple" = some false)
theorem ty_of {K : PySem.W.Frag} {H : Hp} {A : List Addr} {v : V} {d : D} (h : RpB K H A v d) : TyX K H v (.type (tyN d)) := by
  cases d with
  | none => cases (show Rp K H A v .none from h); exact .base .non
  | bool b => cases (show Rp K H A v (.bool b) from h); exact .base (.bl _)
  | int i => cases (show Rp K H A v (.int i) from h); exact .base (.int _)
  | str i => cases (show Rp K H A v (.str i) from h); exact .base (.str _)
  | list ds =>
    obtain ⟨a, xs, rfl, h, _⟩ := h
    rcases h with (h | ⟨o, h⟩) | ⟨o, its, n, e, c, _⟩
    · exact .base (.lst h)
    · exact .base (.frz h)
    · exact .kList e c
  | tuple ds =>
    obtain ⟨a, xs, rfl, h, _⟩ := h.tuple
    rcases h with (h | ⟨o, h⟩) | ⟨o, its, n, e, c, _⟩
    · exact .base (.tup h)
    · exact .fTuple h
    · exact .kTuple e c
  | dict es =>
    obtain ⟨a, kvs, ds, rfl, h, _⟩ := h
    rcases h with h | ⟨o, h⟩
    · exact .base (.dK h)
    · exact .fDict h
section
variable {c : Ctx} {a : Expr} {fa : EvE} {pos p p2 : Pos}
theorem sb_cls (k : Cl) {X : Cx} {Φ : Calls} (ok : Ok c X Φ) (hb : k.sn ∈ c.blts) (hk : c.sc.names.lookup k.sn = some .globalImplicit) : PE X (.Name k.sn p) (tC (.ty k.nm)) := by
  have hg := gl_of ok hk
  have hm := ok.blt _ hb
  cases k
  · exact pe_bltn hg hm (by decide +kernel : bootBuiltins "bool" = some (.type "bool")) rfl
  · exact pe_bltn hg hm (by decide +kernel : bootBuiltins "int" = some (.type "int")) rfl
  · exact pe_bltn hg hm (by decide +kernel : bootBuiltins "str" = some (.type "str")) rfl
  · exact pe_bltn hg hm (by decide +kernel : bootBuiltins "list" = some (.type "list")) rfl
  · exact pe_bltn hg hm (by decide +kernel : bootBuiltins "tuple" = some (.type "tuple")) rfl
theorem se_isi (k : Cl) (hb0 : ("isinstance" : Str) ∈ c.blts) (hk0 : c.sc.names.lookup ("isinstance" : Str) = some .globalImplicit) (hb : k.sn ∈ c.blts) (hk : c.sc.names.lookup k.sn = some .globalImplicit) (ha : SB c a fa) (hn : notStar a = true) :
    SE c (.Call (.Name "isinstance" p) [a, .Name k.sn p2] [] pos) (fun Φ ρ => do let x ← fa Φ ρ; pure (.bool (isiop k x))) := fun X Φ W ok tk =>
  peI (pe_callB call_isi (gl_of ok hk0) (ok.blt _ hb0) (by decide +kernel) (pa_cons (ha X Φ W ok tk) (pa_cons (sb_cls k ok hb hk) pa_nil (star_of rfl _ _)) (star_of hn _ _)) (by decide) (by decide) (star_of hn _ _) (stars_of rfl)) fun σ H Q ⟨A, O, ρ, hA, hρ, q⟩ =>
    ⟨A, O, ρ, hA, hρ, q.bind fun x v H1 s1 p1 q1 => ⟨v, .ty k.nm, .type (tyN x), .type k.nm, isiop k x, rfl, .ty _, ty_of p1, kit_ty (kit_isi k x), q1 _ _ (Same.refl _) (.bl _)⟩⟩
/-- x.bit_length() -/
def bitR : D → Res D
  | .int i => .ok (.int (Builtin.Int.intBits i : Nat))
  | _ => .st
theorem se_bits {x : Str} {pn apos : Pos} (ha : SB c (.Name x pn) fa) (hline : (apos.endLine == pos.line) = true) : SE c (.Call (.Attribute (.Name x pn) "bit_length" apos) [] [] pos) (fun Φ ρ => do let x ← fa Φ ρ; bitR x) := fun X Φ W ok tk =>
  peI (pe_bits (ha X Φ W ok tk) rfl hline) fun σ H Q ⟨A, O, ρ, hA, hρ, q⟩ => ⟨A, O, ρ, hA, hρ, q.bind fun d v H1 s1 p1 q1 => by
    cases d with
    | int i => exact ⟨i, p1.int, q1 _ _ (Same.refl _) (.int _)⟩
    | _ => exact q1.elim⟩
end
end Pv

end
section
namespace Pv
open PySem PySem.Spec PyProof.Rows L2

/-! ### list(range(..)), tuple(range(..)), tuple(reversed(..)) -/
def rgB (i j : Int) : Bool := i62 i && i62 j && decide ((j - i).toNat ≤ 1000000)
def rgop (k : List D → D) : List D → Option D
  | [.int j] => if rgB 0 j then some (k (rngL 0 j.toNat)) else none
  | [.int i, .int j] => if rgB i j then some (k (rngL i (j - i).toNat)) else none
  | _ => none
theorem rgB_ok {i j : Int} (h : rgB i j = true) : RgOk i j := by
  obtain ⟨h1, h2, h3⟩ := and3 h
  have h3 := of_decide_eq_true h3
  exact ⟨(i62_lt h1).1, (i62_lt h1).2, (i62_lt h2).1, (i62_lt h2).2, by omega⟩
theorem rpl_rg {K : PySem.W.Frag} {H : Hp} {A : List Addr} (i : Int) (n : Nat) : RpL K H A ((List.range n).map fun k => V.int (i + (k : Nat))) (rngL i n) := by
  unfold rngL
  induction (List.range n) with
  | nil => exact .nil
  | cons a l ih => exact .cons (.int _) ih
section
variable {c : Ctx} {a b : Expr} {fa fb : EvE} {fs : EvL} {pos p p2 pos2 : Pos}
theorem se_lrg1 (hb : ("range" : Str) ∈ c.blts) (hk : c.sc.names.lookup ("range" : Str) = some .globalImplicit) (hb2 : ("list" : Str) ∈ c.blts) (hk2 : c.sc.names.lookup ("list" : Str) = some .globalImplicit) (ha : SE c a fa) (hn : notStar a = true) :
    SE c (.Call (.Name "list" p2) [.Call (.Name "range" p) [a] [] pos] [] pos2) (fun Φ ρ => do let x ← fa Φ ρ; Res.ofO (rgop .list [x])) := fun X Φ W ok tk =>
  peI (pe_listRg ok.calm (gl_of ok hk2) (ok.blt _ hb2) (prg_1 (gl_of ok hk) (ok.blt _ hb) (ha X Φ W ok tk) (star_of hn _ _)) (star_of rfl _ _)) fun σ H Q ⟨A, O, ρ, hA, hρ, q⟩ => ⟨A, O, ρ, hA, hρ, q.bind fun d v H1 s1 p1 q1 => by
    obtain ⟨r, e1, e2⟩ := q1.ofO
    cases d with
    | int j =>
      obtain ⟨h1, rfl⟩ := ite_some (c := rgB 0 j = true) e1
      refine ⟨j, (by cases p1; rfl), rgB_ok h1, fun q nq => e2 _ _ (same_upd nq) (.lst (.inl ⟨.inl upd_same, (hA.same s1).fresh nq⟩) ?_)⟩
      have : rgV 0 j = (List.range j.toNat).map fun k => V.int (0 + (k : Nat)) := by unfold rgV; rw [Int.sub_zero]
      rw [this]
      exact rpl_rg 0 _
    | _ => cases e1⟩
theorem se_trg1 (hb : ("range" : Str) ∈ c.blts) (hk : c.sc.names.lookup ("range" : Str) = some .globalImplicit) (hb2 : ("tuple" : Str) ∈ c.blts) (hk2 : c.sc.names.lookup ("tuple" : Str) = some .globalImplicit) (ha : SE c a fa) (hn : notStar a = true) :
    SE c (.Call (.Name "tuple" p2) [.Call (.Name "range" p) [a] [] pos] [] pos2) (fun Φ ρ => do let x ← fa Φ ρ; Res.ofO (rgop .tuple [x])) := fun X Φ W ok tk =>
  peI (pe_tupRg ok.calm (gl_of ok hk2) (ok.blt _ hb2) (prg_1 (gl_of ok hk) (ok.blt _ hb) (ha X Φ W ok tk) (star_of hn _ _)) (star_of rfl _ _)) fun σ H Q ⟨A, O, ρ, hA, hρ, q⟩ => ⟨A, O, ρ, hA, hρ, q.bind fun d v H1 s1 p1 q1 => by
    obtain ⟨r, e1, e2⟩ := q1.ofO
    cases d with
    | int j =>
      obtain ⟨h1, rfl⟩ := ite_some (c := rgB 0 j = true) e1
      refine ⟨j, (by cases p1; rfl), rgB_ok h1, fun q nq => e2 _ _ (same_upd nq) (.tup (.inl (.inl upd_same)) ?_)⟩
      have : rgV 0 j = (List.range j.toNat).map fun k => V.int (0 + (k : Nat)) := by unfold rgV; rw [Int.sub_zero]
      rw [this]
      exact rpl_rg 0 _
    | _ => cases e1⟩
theorem se_lrg2 (hb : ("range" : Str) ∈ c.blts) (hk : c.sc.names.lookup ("range" : Str) = some .globalImplicit) (hb2 : ("list" : Str) ∈ c.blts) (hk2 : c.sc.names.lookup ("list" : Str) = some .globalImplicit) (ha : SE c a fa) (hbb : SE c b fb) (hn : notStar a = true) (hn2 : notStar b = true) :
    SE c (.Call (.Name "list" p2) [.Call (.Name "range" p) [a, b] [] pos] [] pos2) (fun Φ ρ => do let x ← fa Φ ρ; let y ← fb Φ ρ; Res.ofO (rgop .list [x, y])) := fun X Φ W ok tk =>
  peI (pe_listRg ok.calm (gl_of ok hk2) (ok.blt _ hb2) (prg_2 (gl_of ok hk) (ok.blt _ hb) (ha X Φ W ok tk) (hbb X Φ W ok tk) (star_of hn _ _) (star_of hn2 _ _) (stars_of (by simp [hn2]))) (star_of rfl _ _)) fun σ H Q ⟨A, O, ρ, hA, hρ, q⟩ => ⟨A, O, ρ, hA, hρ, q.bind fun d v H1 s1 p1 q1 => ⟨A, O, ρ, hA.same s1, hρ.same s1, q1.bind fun e u H2 s2 p3 q2 => by
    obtain ⟨r, e1, e2⟩ := q2.ofO
    cases d with
    | int i =>
      cases e with
      | int j =>
        obtain ⟨h1, rfl⟩ := ite_some (c := rgB i j = true) e1
        refine ⟨i, j, (by cases p1; rfl), (by cases p3; rfl), rgB_ok h1, fun q nq => e2 _ _ (same_upd nq) (.lst (.inl ⟨.inl upd_same, ((hA.same s1).same s2).fresh nq⟩) ?_)⟩
        exact rpl_rg i _
      | _ => cases e1
    | _ => cases e1⟩⟩
theorem se_trg2 (hb : ("range" : Str) ∈ c.blts) (hk : c.sc.names.lookup ("range" : Str) = some .globalImplicit) (hb2 : ("tuple" : Str) ∈ c.blts) (hk2 : c.sc.names.lookup ("tuple" : Str) = some .globalImplicit) (ha : SE c a fa) (hbb : SE c b fb) (hn : notStar a = true) (hn2 : notStar b = true) :
    SE c (.Call (.Name "tuple" p2) [.Call (.Name "range" p) [a, b] [] pos] [] pos2) (fun Φ ρ => do let x ← fa Φ ρ; let y ← fb Φ ρ; Res.ofO (rgop .tuple [x, y])) := fun X Φ W ok tk =>
  peI (pe_tupRg ok.calm (gl_of ok hk2) (ok.blt _ hb2) (prg_2 (gl_of ok hk) (ok.blt _ hb) (ha X Φ W ok tk) (hbb X Φ W ok tk) (star_of hn _ _) (star_of hn2 _ _) (stars_of (by simp [hn2]))) (star_of rfl _ _)) fun σ H Q ⟨A, O, ρ, hA, hρ, q⟩ => ⟨A, O, ρ, hA, hρ, q.bind fun d v H1 s1 p1 q1 => ⟨A, O, ρ, hA.same s1, hρ.same s1, q1.bind fun e u H2 s2 p3 q2 => by
    obtain ⟨r, e1, e2⟩ := q2.ofO
    cases d with
    | int i =>
      cases e with
      | int j =>
        obtain ⟨h1, rfl⟩ := ite_some (c := rgB i j = true) e1
        refine ⟨i, j, (by cases p1; rfl), (by cases p3; rfl), rgB_ok h1, fun q nq => e2 _ _ (same_upd nq) (.tup (.inl (.inl upd_same)) ?_)⟩
        exact rpl_rg i _
      | _ => cases e1
    | _ => cases e1⟩⟩
def trev : D → Res D
  | .list ds => .ok (.tuple ds.reverse)
  | .tuple ds => .ok (.tuple ds.reverse)
  | _ => .st
theorem se_trev (hb : ("reversed" : Str) ∈ c.blts) (hk : c.sc.names.lookup ("reversed" : Str) = some .globalImplicit) (hb2 : ("tuple" : Str) ∈ c.blts) (hk2 : c.sc.names.lookup ("tuple" : Str) = some .globalImplicit) (ha : SB c a fa) (hn : notStar a = true) :
    SE c (.Call (.Name "tuple" p2) [.Call (.Name "reversed" p) [a] [] pos] [] pos2) (fun Φ ρ => do let x ← fa Φ ρ; trev x) := fun X Φ W ok tk =>
  peI (pe_revA ok.calm (gl_of ok hk2) (ok.blt _ hb2) (gl_of ok hk) (ok.blt _ hb) (ha X Φ W ok tk) (star_of hn _ _) (star_of rfl _ _)) fun σ H Q ⟨A, O, ρ, hA, hρ, q⟩ => ⟨A, O, ρ, hA, hρ, q.bind fun d v H1 s1 p1 q1 => by
    cases d with
    | list ds =>
      obtain ⟨a, xs, rfl, h, r⟩ := p1
      exact ⟨a, xs, rfl, .inl h, fun p np => q1 _ _ (same_upd np) (.tup (.inl (.inl upd_same)) ((r.reverse).same (same_upd np)))⟩
    | tuple ds =>
      cases p1 with
      | @tup a xs ds h r => exact ⟨a, xs, rfl, .inr h, fun p np => q1 _ _ (same_upd np) (.tup (.inl (.inl upd_same)) ((r.reverse).same (same_upd np)))⟩
    | _ => exact q1.elim⟩
end
/-! ### a op b op c .. -/
def JC (c : Ctx) (ops : List CmpOp) (es : List Expr) (g : Calls → Env → D → Res D) : Prop := ∀ X Φ W, Ok c X Φ → Takes X W → ∀ (pos : Pos) (pins : List (Addr × Obj)) (s : Shared) (σ : L2.St) (H : Hp) (A : List Addr) (O : List (Option Addr)) (ρ : Env) (x : V) (v : Value) (d : D), Inv X pins σ H s → RelV x v → RpB X.K H A x d → AOk H A → EnvOk X.K H A O σ ρ →
  (∀ Q, Rt X.mg W (pE X.K A) H σ Q (g Φ ρ d) → wpAny (model X.prog X.w) X.A (compareChain pos v ops (evalEach es X.env)) (EP X pins σ Q) X.xe s)
  ∧ (∀ Q, RtB X.mg W H σ Q (g Φ ρ d) → wpAny (model X.prog X.w) X.A (testChain pos v ops (evalEach es X.env)) (TP X pins σ Q) X.xe s)
section
variable {c : Ctx} {a b : Expr} {fa fb : EvE} {op op' : CmpOp} {ops : List CmpOp} {es : List Expr} {g : Calls → Env → D → Res D} {pos : Pos}
def lastC (op : CmpOp) (fb : EvE) : Calls → Env → D → Res D := fun Φ ρ x => do let y ← fb Φ ρ; cmpR op x y
def linkC (op : CmpOp) (fb : EvE) (g : Calls → Env → D → Res D) : Calls → Env → D → Res D := fun Φ ρ x => do let y ← fb Φ ρ; tst (cmpR op x y) fun k => if k then g Φ ρ y else .ok (.bool false)
theorem jc_last (hb : SB c b fb) : JC c [op] [b] (lastC op fb) := fun X Φ W ok tk pos pins s σ H A O ρ x v d I rx px hA hρ => by
  refine ⟨fun Q q => chain_last (thn ((hb X Φ W ok tk).run pins s σ H (fun y H2 => ∃ dy, Same H H2 ∧ RpB X.K H2 A y dy ∧ Rt X.mg W (pE X.K A) H2 σ Q (cmpR op d dy)) I ⟨A, O, ρ, hA, hρ, q.bind fun y u H2 s2 p2 q2 => ⟨y, s2, p2, q2⟩⟩) fun u s2 ⟨y, H2, I2, r2, dy, sm2, p2, q2⟩ => ?_),
    fun Q q => test_last (thn ((hb X Φ W ok tk).run pins s σ H (fun y H2 => ∃ dy, Same H H2 ∧ RpB X.K H2 A y dy ∧ RtB X.mg W H2 σ Q (cmpR op d dy)) I ⟨A, O, ρ, hA, hρ, q.bind fun y u H2 s2 p2 q2 => ⟨y, s2, p2, q2⟩⟩) fun u s2 ⟨y, H2, I2, r2, dy, sm2, p2, q2⟩ => ?_)⟩
  · obtain ⟨k, e1, e2⟩ := cmpR_some q2
    exact opr_cmp ok.hu op pins s2 σ H2 x y v u Q I2 rx r2 ⟨[], d, dy, k, rpb_rp (px.same sm2), rpb_rp p2, e1, e2 _ _ (Same.refl _) (.bl _)⟩
  · obtain ⟨k, e1, e2⟩ := cmpR_someB q2
    refine thn (opr_cmp ok.hu op pins s2 σ H2 x y v u (fun z H3 => z = .bl k ∧ Q k H3) I2 rx r2 ⟨[], d, dy, k, rpb_rp (px.same sm2), rpb_rp p2, e1, rfl, e2 _ (Same.refl _)⟩) fun z s3 ⟨w, H3, I3, r3, ew, q3⟩ => ?_
    subst ew
    cases r3
    exact wpAny_truthy_bool ⟨H3, I3, q3⟩
theorem jc_link {b2 : Expr} (hb : SB c b fb) (hg : JC c (op' :: ops) (b2 :: es) g) : JC c (op :: op' :: ops) (b :: b2 :: es) (linkC op fb g) := fun X Φ W ok tk pos pins s σ H A O ρ x v d I rx px hA hρ => by
  refine ⟨fun Q q => chain_link (thn ((hb X Φ W ok tk).run pins s σ H (fun y H2 => ∃ dy, Same H H2 ∧ RpB X.K H2 A y dy ∧ Rt X.mg W (pE X.K A) H2 σ Q (tst (cmpR op d dy) fun k => if k then g Φ ρ dy else .ok (.bool false))) I ⟨A, O, ρ, hA, hρ, q.bind fun y u H2 s2 p2 q2 => ⟨y, s2, p2, q2⟩⟩) fun u s2 ⟨y, H2, I2, r2, dy, sm2, p2, q2⟩ => ?_),
    fun Q q => test_link (thn ((hb X Φ W ok tk).run pins s σ H (fun y H2 => ∃ dy, Same H H2 ∧ RpB X.K H2 A y dy ∧ RtB X.mg W H2 σ Q (tst (cmpR op d dy) fun k => if k then g Φ ρ dy else .ok (.bool false))) I ⟨A, O, ρ, hA, hρ, q.bind fun y u H2 s2 p2 q2 => ⟨y, s2, p2, q2⟩⟩) fun u s2 ⟨y, H2, I2, r2, dy, sm2, p2, q2⟩ => ?_)⟩
  · cases hc : cmpop op d dy with
    | none =>
      unfold cmpR at q2
      rw [hc] at q2
      exact q2.elim
    | some k =>
      have q2 : Rt X.mg W (pE X.K A) H2 σ Q (if k then g Φ ρ dy else .ok (.bool false)) := by
        unfold cmpR at q2
        rw [hc] at q2
        exact q2
      refine thn (opr_cmp ok.hu op pins s2 σ H2 x y v u (fun z H3 => z = .bl k ∧ H3 = H2) I2 rx r2 ⟨[], d, dy, k, rpb_rp (px.same sm2), rpb_rp p2, hc, rfl, rfl⟩) fun z s3 ⟨w, H3, I3, r3, ew, eH⟩ => ?_
      subst ew
      subst eH
      cases r3
      refine wpAny_truthy_bool ?_
      cases k with
      | false => exact ite_ff ⟨.bl false, _, I3, rfl, q2 _ _ (Same.refl _) (.bl _)⟩
      | true => exact ite_tt ((hg X Φ W ok tk pos pins s3 σ _ A O ρ y u dy I3 r2 p2 (hA.same sm2) (hρ.same sm2)).1 Q q2)
  · cases hc : cmpop op d dy with
    | none =>
      unfold cmpR at q2
      rw [hc] at q2
      exact q2.elim
    | some k =>
      have q2 : RtB X.mg W H2 σ Q (if k then g Φ ρ dy else .ok (.bool false)) := by
        unfold cmpR at q2
        rw [hc] at q2
        exact q2
      refine thn (opr_cmp ok.hu op pins s2 σ H2 x y v u (fun z H3 => z = .bl k ∧ H3 = H2) I2 rx r2 ⟨[], d, dy, k, rpb_rp (px.same sm2), rpb_rp p2, hc, rfl, rfl⟩) fun z s3 ⟨w, H3, I3, r3, ew, eH⟩ => ?_
      subst ew
      subst eH
      cases r3
      refine wpAny_truthy_bool ?_
      cases k with
      | false => exact ite_ff ⟨_, I3, q2 _ (Same.refl _)⟩
      | true => exact ite_tt ((hg X Φ W ok tk pos pins s3 σ _ A O ρ y u dy I3 r2 p2 (hA.same sm2) (hρ.same sm2)).2 Q q2)
theorem se_chain {b2 : Expr} (ha : SB c a fa) (hg : JC c (op :: op' :: ops) (b :: b2 :: es) g) (hm : lastMarks (op :: op' :: ops) (b :: b2 :: es) = false) : SE c (.Compare a (op :: op' :: ops) (b :: b2 :: es) pos) (fun Φ ρ => do let x ← fa Φ ρ; g Φ ρ x) := fun X Φ W ok tk => ⟨fun pins s σ H Q I ⟨A, O, ρ, hA, hρ, q⟩ =>
  Compare_chain (thn ((ha X Φ W ok tk).run pins s σ H (fun y H2 => ∃ dy, Same H H2 ∧ RpB X.K H2 A y dy ∧ Rt X.mg W (pE X.K A) H2 σ Q (g Φ ρ dy)) I ⟨A, O, ρ, hA, hρ, q.bind fun y u H2 s2 p2 q2 => ⟨y, s2, p2, q2⟩⟩) fun u s2 ⟨y, H2, I2, r2, dy, sm2, p2, q2⟩ =>
    (hg X Φ W ok tk pos pins s2 σ H2 A O ρ y u dy I2 r2 p2 (hA.same sm2) (hρ.same sm2)).1 Q q2) hm⟩
theorem st_chain {b2 : Expr} (ha : SB c a fa) (hg : JC c (op :: op' :: ops) (b :: b2 :: es) g) (hm : lastMarks (op :: op' :: ops) (b :: b2 :: es) = false) : ST c (.Compare a (op :: op' :: ops) (b :: b2 :: es) pos) (fun Φ ρ => do let x ← fa Φ ρ; g Φ ρ x) := fun X Φ W ok tk => ⟨fun pins s σ H Q I ⟨A, O, ρ, hA, hρ, q⟩ =>
  isTrue_chain (thn ((ha X Φ W ok tk).run pins s σ H (fun y H2 => ∃ dy, Same H H2 ∧ RpB X.K H2 A y dy ∧ RtB X.mg W H2 σ Q (g Φ ρ dy)) I ⟨A, O, ρ, hA, hρ, q.bind fun y u H2 s2 p2 q2 => ⟨y, s2, p2, q2⟩⟩) fun u s2 ⟨y, H2, I2, r2, dy, sm2, p2, q2⟩ =>
    (hg X Φ W ok tk pos pins s2 σ H2 A O ρ y u dy I2 r2 p2 (hA.same sm2) (hρ.same sm2)).2 Q q2) hm⟩
end
end Pv

end
section
namespace Pv
open PySem PySem.Spec PyProof.Rows L2

/-! ### len(set(numbers)) -/
def ddI (ns : List Int) : List Int := PyProof.Rows.firstMet (fun i => ns.getD i 0) ns.length
def tLenSetD (K : PySem.W.Frag) (ta : TE) : TE := fun σ H Q => ta σ H fun x H1 => ∃ (l : Addr) (ns : List Int), x = .ref l ∧ SqL K H1 l (ns.map V.int) ∧ ns.length ≤ 4000 ∧ Q (.int ((ddI ns).length : Nat)) H1
theorem pe_lenSetD {X : Cx} {a : Expr} {ta : TE} {p p2 q pos : Pos} (hg : Gl X "len") (hm : X.mg "len" = none) (hg2 : Gl X "set") (hm2 : X.mg "set" = none) (ha : PE X a ta) (hc : X.calm = true)
    (na : starEach [a] X.env = (false, eval a X.env) :: starEach [] X.env) : PE X (.Call (.Name "len" p) [.Call (.Name "set" p2) [a] [] q] [] pos) (tLenSetD X.K ta) := by
  refine ⟨fun pins s σ H Q I h => ?_⟩
  refine Call_ (ld_blt I hg hm boot_len ?_)
  refine PyProof.Rows.callWith_builtin1 (PyProof.Rows.args_cons ?_ rfl) rfl rfl
  refine Call_ (ld_blt I hg2 hm2 boot_set ?_)
  refine PyProof.Rows.callWith_type1 (PyProof.Rows.args_cons (thn (ha.run pins s σ H _ I h) fun v s1 ⟨x, H1, I1, r1, q1⟩ => PyProof.Rows.args_nil ?_) na) na rfl
  obtain ⟨l, ns, rfl, hq, hl, q1⟩ := q1
  cases r1
  obtain ⟨its, r, pl, hz⟩ := I1.list hq
  have hlen : its.toArray.size = ns.length := by rw [List.size_toArray, ← r.length, List.length_map]
  refine call_set_list (I1.ok.hd hc) pl.isList (by simpa using RZ.intsAre_vals r) (by rw [hlen]; unfold scanBound; omega) fun h' tk hS hk => ?_
  refine PyProof.Rows.args_nil ?_
  rw [hlen] at hS
  have hle := PyProof.Rows.firstMet_length_le (fun i => ns.getD i 0) ns.length
  obtain ⟨o, es, ep, t, ho, hex, hd, _, _, _, hf, hn⟩ := hS
  have I2 : Inv X pins σ H1 { s1 with heap := h', toks := tk } := I1.kept fun b o e => hk b o (Heap.lt_size e) e
  exact call_len_set ho hex hd hf (by rw [hn] <;> omega) ⟨.int (ddI ns).length, H1, I2.tok _, ⟨_, by rw [hn]; rfl⟩, q1⟩
def lsI : Option (List Int) → Res D
  | some ns => if ns.length ≤ 4000 then .ok (.int ((ddI ns).length : Nat)) else .st
  | none => .st
def lsR : D → Res D
  | .list ds => lsI (intsOf ds)
  | _ => .st
section
variable {c : Ctx} {a : Expr} {fa : EvE} {pos p p2 q : Pos}
theorem se_lenset (hb : ("len" : Str) ∈ c.blts) (hk : c.sc.names.lookup ("len" : Str) = some .globalImplicit) (hb2 : ("set" : Str) ∈ c.blts) (hk2 : c.sc.names.lookup ("set" : Str) = some .globalImplicit) (ha : SB c a fa) (hn : notStar a = true) :
    SE c (.Call (.Name "len" p) [.Call (.Name "set" p2) [a] [] q] [] pos) (fun Φ ρ => do let x ← fa Φ ρ; lsR x) := fun X Φ W ok tk =>
  peI (pe_lenSetD (gl_of ok hk) (ok.blt _ hb) (gl_of ok hk2) (ok.blt _ hb2) (ha X Φ W ok tk) ok.calm (star_of hn _ _)) fun σ H Q ⟨A, O, ρ, hA, hρ, q⟩ => ⟨A, O, ρ, hA, hρ, q.bind fun d v H1 s1 p1 q1 => by
    cases d with
    | list ds =>
      obtain ⟨a, xs, rfl, h, r⟩ := p1
      have q1 : Rt X.mg W (pE X.K A) H1 σ Q (lsI (intsOf ds)) := q1
      cases hz : intsOf ds with
      | none => rw [hz] at q1; exact q1.elim
      | some ns =>
        rw [hz] at q1
        have q9 : Rt X.mg W (pE X.K A) H1 σ Q (if ns.length ≤ 4000 then .ok (.int ((ddI ns).length : Nat)) else .st) := q1
        by_cases hl : ns.length ≤ 4000
        · rw [if_pos hl] at q9
          have e := intsOf_eq hz
          subst e
          have e2 := r.ints
          subst e2
          exact ⟨a, ns, rfl, h, hl, q9 _ _ (Same.refl _) (.int _)⟩
        · rw [if_neg hl] at q9; exact q9.elim
    | _ => exact q1.elim⟩
end
end Pv

end
section

namespace Pv
open PySem PySem.Spec PyProof.Rows L2

/-! ### sorted(set(numbers)) -/
def ddD (ds : List D) : List D := ds.foldl (fun acc x => if acc.any (fun e => PyData.eqv e x) then acc else acc ++ [x]) []
def ssD (ds : List D) : D := .list (sortD (ddD ds))
theorem ddI_spec (ns : List Int) : (ddI ns).Nodup ∧ (∀ k, k ∈ ddI ns ↔ k ∈ ns) ∧ ddD (ns.map PyData.int) = (ddI ns).map PyData.int := by
  have e : (List.range ns.length).map (fun i => ns.getD i 0) = ns := by
    apply List.ext_getElem
    · simp
    · intro i h1 h2
      simp at h1 h2 ⊢
      simp [h1]
  unfold ddI PyProof.Rows.firstMet
  rw [e]
  have go : ∀ (ns acc : List Int), acc.Nodup → (ns.foldl PyProof.Rows.step_dedup acc).Nodup ∧ (∀ k, k ∈ ns.foldl PyProof.Rows.step_dedup acc ↔ k ∈ acc ∨ k ∈ ns) ∧ (ns.map PyData.int).foldl (fun acc x => if acc.any (fun e => PyData.eqv e x) then acc else acc ++ [x]) (acc.map PyData.int) = (ns.foldl PyProof.Rows.step_dedup acc).map PyData.int := by
    intro ns
    induction ns with
    | nil => intro acc h; exact ⟨h, fun k => by simp, rfl⟩
    | cons a ns ih =>
      intro acc h
      have hm : acc.any (· == a) = decide (a ∈ acc) := by
        induction acc with
        | nil => rfl
        | cons b acc ih2 =>
          rw [List.any_cons, ih2 (List.nodup_cons.mp h).2]
          by_cases q : b = a
          · subst q; simp
          · simp [q, Ne.symm q]
      have hq : (acc.map PyData.int).any (fun e => PyData.eqv e (.int a)) = decide (a ∈ acc) := by
        rw [List.any_map, ← hm]
        congr 1
      rw [List.foldl_cons, List.map_cons, List.foldl_cons, hq]
      have hst : PyProof.Rows.step_dedup acc a = if a ∈ acc then acc else acc ++ [a] := by
        unfold PyProof.Rows.step_dedup
        rw [hm]
        by_cases q : a ∈ acc <;> simp [q]
      rw [hst]
      by_cases q : a ∈ acc
      · rw [if_pos q, if_pos (by simpa using q)]
        obtain ⟨i1, i2, i3⟩ := ih acc h
        refine ⟨i1, fun k => ?_, i3⟩
        rw [i2, List.mem_cons]
        constructor
        · rintro (z | z)
          · exact .inl z
          · exact .inr (.inr z)
        · rintro (z | rfl | z)
          · exact .inl z
          · exact .inl q
          · exact .inr z
      · rw [if_neg q, if_neg (by simpa using q)]
        obtain ⟨i1, i2, i3⟩ := ih (acc ++ [a]) (by
          rw [List.nodup_append]
          refine ⟨h, by simp, fun x hx y hy => ?_⟩
          have : y = a := by simpa using hy
          subst this
          exact fun z => q (z ▸ hx))
        refine ⟨i1, fun k => ?_, ?_⟩
        · rw [i2, List.mem_append, List.mem_cons, or_assoc]; simp
        · rw [← i3, List.map_append]; rfl
  obtain ⟨h1, h2, h3⟩ := go ns [] .nil
  exact ⟨h1, fun k => by rw [h2]; simp, h3⟩
theorem sortD_ints (ns : List Int) : sortD (ns.map PyData.int) = (ns.mergeSort fun a b => decide (a ≤ b)).map PyData.int := by
  unfold sortD
  rw [← List.map_mergeSort (r := fun a b => decide (a ≤ b)) (s := fun a b => !PySem.W.dataLt b a)]
  intro a _ b _
  rw [PySem.W.dataLt_int]
  by_cases h : a ≤ b
  · rw [decide_eq_true h, decide_eq_false (by omega)]; rfl
  · rw [decide_eq_false h, decide_eq_true (by omega)]; rfl
theorem asc_uniq : ∀ {l m : List Int}, l.Pairwise (· < ·) → m.Pairwise (· < ·) → (∀ x, x ∈ l ↔ x ∈ m) → l = m
  | [], [], _, _, _ => rfl
  | [], b :: m, _, _, h => absurd ((h b).mpr (by simp)) (by simp)
  | a :: l, [], _, _, h => absurd ((h a).mp (by simp)) (by simp)
  | a :: l, b :: m, h1, h2, h => by
    obtain ⟨a1, a2⟩ := List.pairwise_cons.mp h1
    obtain ⟨b1, b2⟩ := List.pairwise_cons.mp h2
    have hab : a = b := by
      rcases List.mem_cons.mp ((h a).mp (by simp)) with e | e
      · exact e
      · rcases List.mem_cons.mp ((h b).mpr (by simp)) with e2 | e2
        · exact e2.symm
        · have := b1 a e; have := a1 b e2; omega
    subst hab
    congr 1
    refine asc_uniq a2 b2 fun x => ⟨fun hx => ?_, fun hx => ?_⟩
    · rcases List.mem_cons.mp ((h x).mp (by simp [hx])) with e | e
      · have := a1 x hx; omega
      · exact e
    · rcases List.mem_cons.mp ((h x).mpr (by simp [hx])) with e | e
      · have := b1 x hx; omega
      · exact e
theorem ssD_ints {ns ns' : List Int} (h1 : ns'.Pairwise (· < ·)) (h2 : ∀ k, k ∈ ns' ↔ k ∈ ns) : ssD (ns.map PyData.int) = .list (ns'.map PyData.int) := by
  obtain ⟨d1, d2, d3⟩ := ddI_spec ns
  unfold ssD
  rw [d3, sortD_ints]
  congr 2
  have hs : ((ddI ns).mergeSort fun a b => decide (a ≤ b)).Pairwise fun a b => decide (a ≤ b) = true := List.pairwise_mergeSort (fun a b d h1 h2 => by simp only [decide_eq_true_eq] at *; omega) (fun a b => by simp only [Bool.or_eq_true, decide_eq_true_eq]; omega) _
  have hn : ((ddI ns).mergeSort fun a b => decide (a ≤ b)).Nodup := (List.mergeSort_perm _ _).nodup_iff.mpr d1
  refine asc_uniq ?_ h1 fun x => ?_
  · refine List.Pairwise.imp ?_ (List.Pairwise.and hs hn)
    intro a b ⟨q1, q2⟩
    simp only [decide_eq_true_eq] at q1
    have : a ≠ b := q2
    omega
  · rw [List.mem_mergeSort, d2, h2]
section
variable {X : Cx}
/-- set(numbers), a list or a tuple -/
def rSetI (K : PySem.W.Frag) (w : World) : List V → Hp → VK → Prop := fun vs H Q => ∃ (l : Addr) (ns : List Int), vs = [.ref l] ∧ (SqL K H l (ns.map V.int) ∨ SqT K H l (ns.map V.int)) ∧ ns.length ≤ 4000 ∧
  ∀ p, H p = none → Q (.ref p) (upd H p (SetO w p (fun j => decide (j ∈ ns)) (ddI ns).length))
theorem setR_count {w : World} {h : Heap} {a : Addr} {ns : List Int} {c : Nat} (R : SetR w h a (fun j => decide (j ∈ ns)) c) : c = (ddI ns).length := by
  obtain ⟨o, es, ep, t, _, _, _, _, n1, m1, _, _, hc, _⟩ := R
  obtain ⟨d1, d2, _⟩ := ddI_spec ns
  have e : (es.toList.map keyOf).length = (ddI ns).length := ((List.perm_ext_iff_of_nodup n1 d1).mpr fun k => by rw [d2, ← m1]; simp).length_eq
  rw [List.length_map, Array.length_toList, hc] at e
  exact e
theorem cr_setI (hc : X.calm = true) : CallR X (.type "set") (rSetI X.K X.w) := by
  intro pins s σ H vs us Q I r h
  obtain ⟨l, ns, rfl, hl, hz, q⟩ := h
  rw [Vals.ref1 r]
  have hn : H s.heap.objs.size = none := I.hok.fresh (Nat.le_refl _)
  have hb : ns.length + 1 < scanBound := by unfold scanBound; omega
  have fin : ∀ (h' : Heap) (tk c : Nat), SetR X.w h' s.heap.objs.size (fun j => decide (j ∈ ns)) c → c ≤ ns.length → (∀ b o, s.heap.get? b = some o → h'.get? b = some o) → EP X pins σ Q (.ref s.heap.objs.size) { s with heap := h', toks := tk } := fun h' tk c R _ k => by
    rw [setR_count R] at R
    exact ⟨.ref s.heap.objs.size, _, I.laid (t' := tk) k (Nat.le_refl _) (setO_new R), rfl, q _ hn⟩
  rcases hl with hl | hl
  · obtain ⟨its, rv, pl, _⟩ := I.list hl
    exact set_of_list (P := X.prog) (w := X.w) ns (I.ok.hd hc) pl.isList (by simpa using RZ.intsAre_vals rv) hb fin
  · obtain ⟨its, rv, pl, _⟩ := I.tuple hl
    exact call_set_tupI (P := X.prog) (w := X.w) ns (I.ok.hd hc) (show s.heap.IsTuple l its.toArray from pl) (by simpa using RZ.intsAre_vals rv) hb fin
/-- len(set) -/
theorem cr_lenSetO : CallR X (.builtin "len") (fun vs H Q => ∃ (a : Addr) (S : Int → Bool) (n : Nat), vs = [.ref a] ∧ H a = some (SetO X.w a S n) ∧ n ≤ 4000 ∧ Q (.int n) H) := by
  intro pins s σ H vs us Q I r h
  obtain ⟨a, S, n, rfl, ha, hn, q⟩ := h
  rw [Vals.ref1 r]
  obtain ⟨o, es, ep, t, ho, hex, hd, _, _, _, _, hf, hc, _⟩ := setO_get I ha
  exact call_len_set ho hex hd hf (by rw [hc] <;> omega) ⟨.int n, H, I.tok _, ⟨_, by rw [hc]⟩, q⟩
def seqD : D → Option (List D)
  | .list ds => some ds
  | .tuple ds => some ds
  | _ => none
def ssR (d : D) : Res D := match seqD d with
  | some ds => match intsOf ds with
    | some ns => if decide (ns.length ≤ 4000) && decide ((ddI ns).length < 64) then .ok (ssD ds) else .st
    | none => .st
  | none => .st
variable {c : Ctx} {a : Expr} {fa : EvE} {pos p p2 q : Pos}
theorem seq_ints {K : PySem.W.Frag} {H : Hp} {A : List Addr} {v : V} {d : D} {ds : List D} {ns : List Int} (h : RpB K H A v d) (e : seqD d = some ds) (e2 : intsOf ds = some ns) : ∃ a, v = .ref a ∧ (SqL K H a (ns.map V.int) ∨ SqT K H a (ns.map V.int)) := by
  have e3 := intsOf_eq e2
  cases d <;> first | (cases e; done) | skip
  · cases e
    obtain ⟨a, xs, rfl, hx, hr⟩ := h
    subst e3
    rw [hr.ints] at hx
    exact ⟨a, rfl, .inl hx⟩
  · cases e
    obtain ⟨a, xs, rfl, hx, hr⟩ := h.tuple
    subst e3
    rw [hr.ints] at hx
    exact ⟨a, rfl, .inr hx⟩
theorem se_sset (hb : ("sorted" : Str) ∈ c.blts) (hk : c.sc.names.lookup ("sorted" : Str) = some .globalImplicit) (hb2 : ("set" : Str) ∈ c.blts) (hk2 : c.sc.names.lookup ("set" : Str) = some .globalImplicit) (ha : SB c a fa) (hn : notStar a = true) :
    SE c (.Call (.Name "sorted" p) [.Call (.Name "set" p2) [a] [] q] [] pos) (fun Φ ρ => do let x ← fa Φ ρ; ssR x) := fun X Φ W ok tk =>
  have e1 := pe_callTy (p := p2) (pos := q) (cr_setI ok.calm) (gl_of ok hk2) (ok.blt _ hb2) (by decide +kernel) (pa_cons (ha X Φ W ok tk) pa_nil (star_of hn _ _)) (by decide) (by decide) (star_of hn _ _) (stars_of rfl)
  peI (pe_callB (cr_sortedSet ok.calm) (gl_of ok hk) (ok.blt _ hb) (by decide +kernel) (pa_cons e1 pa_nil (star_of rfl _ _)) (by decide) (by decide) (star_of rfl _ _) (stars_of rfl)) fun σ H Q ⟨A, O, ρ, hA, hρ, q⟩ => by
    refine ⟨A, O, ρ, hA, hρ, q.bind fun d v H1 s1 p1 q1 => ?_⟩
    unfold ssR at q1
    cases hs : seqD d with
    | none => rw [hs] at q1; exact q1.elim
    | some ds =>
      rw [hs] at q1
      cases hi : intsOf ds with
      | none =>
        have q1 : Rt X.mg W (pE X.K A) H1 σ Q (match intsOf ds with | some ns => if decide (ns.length ≤ 4000) && decide ((ddI ns).length < 64) then .ok (ssD ds) else .st | none => .st) := q1
        rw [hi] at q1; exact q1.elim
      | some ns =>
        have q1 : Rt X.mg W (pE X.K A) H1 σ Q (match intsOf ds with | some ns => if decide (ns.length ≤ 4000) && decide ((ddI ns).length < 64) then .ok (ssD ds) else .st | none => .st) := q1
        rw [hi] at q1
        have q1 : Rt X.mg W (pE X.K A) H1 σ Q (if decide (ns.length ≤ 4000) && decide ((ddI ns).length < 64) then .ok (ssD ds) else .st) := q1
        by_cases hz : (decide (ns.length ≤ 4000) && decide ((ddI ns).length < 64)) = true
        · rw [if_pos hz] at q1
          obtain ⟨z1, z2⟩ := and2 hz
          obtain ⟨l, rfl, hl⟩ := seq_ints p1 hs hi
          refine ⟨l, ns, rfl, hl, of_decide_eq_true z1, fun b nb => ?_⟩
          refine ⟨b, _, _, rfl, upd_same, of_decide_eq_true z2, fun ns' r h1 h2 h3 nr => ?_⟩
          have hA1 := hA.same s1
          have sm := (same_upd (o := SetO X.w b (fun j => decide (j ∈ ns)) (ddI ns).length) nb).trans (same_upd (o := .lst (ns'.map V.int)) nr)
          refine q1 _ _ sm ?_
          have e3 := intsOf_eq hi
          subst e3
          rw [ssD_ints (ns' := ns') h1 fun k => by rw [h2]; simp]
          exact .lst (.inl ⟨.inl upd_same, ((hA1.same (same_upd nb)).fresh nr)⟩) (rpl_int ns')
        · rw [if_neg hz] at q1; exact q1.elim
/-- len(set(numbers)), list or tuple -/
def lsR2 (d : D) : Res D := match seqD d with
  | some ds => lsI (intsOf ds)
  | none => .st
theorem se_lenset2 (hb : ("len" : Str) ∈ c.blts) (hk : c.sc.names.lookup ("len" : Str) = some .globalImplicit) (hb2 : ("set" : Str) ∈ c.blts) (hk2 : c.sc.names.lookup ("set" : Str) = some .globalImplicit) (ha : SB c a fa) (hn : notStar a = true) :
    SE c (.Call (.Name "len" p) [.Call (.Name "set" p2) [a] [] q] [] pos) (fun Φ ρ => do let x ← fa Φ ρ; lsR2 x) := fun X Φ W ok tk =>
  have e1 := pe_callTy (p := p2) (pos := q) (cr_setI ok.calm) (gl_of ok hk2) (ok.blt _ hb2) (by decide +kernel) (pa_cons (ha X Φ W ok tk) pa_nil (star_of hn _ _)) (by decide) (by decide) (star_of hn _ _) (stars_of rfl)
  peI (pe_callB cr_lenSetO (gl_of ok hk) (ok.blt _ hb) (by decide +kernel) (pa_cons e1 pa_nil (star_of rfl _ _)) (by decide) (by decide) (star_of rfl _ _) (stars_of rfl)) fun σ H Q ⟨A, O, ρ, hA, hρ, q⟩ => by
    refine ⟨A, O, ρ, hA, hρ, q.bind fun d v H1 s1 p1 q1 => ?_⟩
    unfold lsR2 at q1
    cases hs : seqD d with
    | none => rw [hs] at q1; exact q1.elim
    | some ds =>
      rw [hs] at q1
      have q1 : Rt X.mg W (pE X.K A) H1 σ Q (lsI (intsOf ds)) := q1
      cases hi : intsOf ds with
      | none => rw [hi] at q1; exact q1.elim
      | some ns =>
        rw [hi] at q1
        have q9 : Rt X.mg W (pE X.K A) H1 σ Q (if ns.length ≤ 4000 then .ok (.int ((ddI ns).length : Nat)) else .st) := q1
        by_cases hz : ns.length ≤ 4000
        · rw [if_pos hz] at q9
          obtain ⟨l, rfl, hl⟩ := seq_ints p1 hs hi
          refine ⟨l, ns, rfl, hl, hz, fun b nb => ?_⟩
          have hle := PyProof.Rows.firstMet_length_le (fun i => ns.getD i 0) ns.length
          exact ⟨b, _, _, rfl, upd_same, Nat.le_trans hle hz, q9 _ _ (same_upd nb) (.int _)⟩
        · rw [if_neg hz] at q9; exact q9.elim
end
/-! ### xs.index(x) -/
def idxL (ds : List D) (y : D) : Res D := if okD (.list ds) && okD y then Res.ofO ((SeqAt.dataPlace ds y).map fun j => .int (j : Nat)) else .st
def idxR (x : D) (m : Res D) : Res D := match x with
  | .list ds => m >>= idxL ds
  | _ => .st
section
variable {X : Cx}
theorem mt_idx (hu : X.A.units + 70 < cLine) : MtR X "list.index" (fun x xs H Q => ∃ (A : List Addr) (a : Addr) (vs : List V) (ds : List D) (y : V) (d : D) (j : Nat), x = .ref a ∧ xs = [y] ∧ SqL X.K H a vs ∧ RpL X.K H A vs ds ∧ Rp X.K H A y d ∧ (okD (.list ds) && okD d) = true ∧ SeqAt.dataPlace ds d = some j ∧ Q (.int (j : Nat)) H) := by
  intro pins s σ H x xs v us Q I rx rxs h
  obtain ⟨A, a, vs, ds, y, d, j, rfl, rfl, hl, hr, hy, hk, hp, q⟩ := h
  cases rx
  obtain ⟨k1, k2⟩ := and2 hk
  obtain ⟨p1, p2⟩ := and2 k1
  obtain ⟨p3, p4⟩ := and2 k2
  have p1 : PyData.plainAll ds = true := by simpa [PyData.plain] using p1
  have p2 := of_decide_eq_true p2
  have p4 := of_decide_eq_true p4
  cases rxs with
  | cons ry rt =>
    rename_i uy ut
    cases rt
    obtain ⟨its, rv, ⟨⟨cls, dd, data, sls⟩, n, ho, hc, hdn, hdt⟩, hlen⟩ := I.list hl
    simp only at hc hdt
    subst hc hdt
    obtain ⟨bs, r1⟩ := Dp.reads I d y uy (hy.dp p3) ry
    obtain ⟨as, r2⟩ := Dp.readsAll I ds vs its (hr.dp p1) rv
    obtain ⟨hj, e1, e2⟩ := SeqAt.hit_at (vs := its.toArray) (show ReadsAll s.heap its.toArray.toList ds as from r2) p1 hp
    have hsl := sizeLine_eq
    have hjl : j < its.length := by simpa using hj
    have hvl := rv.length
    refine call_meets PySem.F.slot_list_index ⟨_, ho, rfl⟩ PySem.F.entry_list_index (PySem.F.args_list_index_2 _ _)
      (SeqAt.list_indexAt a its.toArray n dd sls uy (fun u => PyData.eqv (SeqAt.readOf s.heap u) d) j hj (by omega) e1 e2) ⟨ho, fun u hu' => ?_, ⟨.int (j : Nat), H, I.tok _, ⟨_, rfl⟩, q⟩⟩
    have hu2 : u ∈ its := by simpa using hu'
    obtain ⟨i, hi, rfl⟩ := List.getElem_of_mem hu2
    obtain ⟨hi2, e3⟩ := SeqAt.readOf_at (vs := its.toArray) (show ReadsAll s.heap its.toArray.toList ds as from r2) p1 i (by simpa using hi)
    have e3 : SeqAt.readOf s.heap its[i] = ds[i] := by simpa using e3
    rw [e3]
    have hdl := SeqAt.ReadsAll.length ds its as r2
    have hx : vs[i]? = some vs[i] := List.getElem?_eq_getElem (by omega)
    obtain ⟨u2, q1, q2⟩ := rv.get hx
    rw [List.getElem?_eq_getElem hi] at q1
    cases q1
    obtain ⟨y2, q3, q4⟩ := hr.get hx
    rw [List.getElem?_eq_getElem hi2] at q3
    cases q3
    have pi := plainAll_iff.mp p1 ds[i] (List.getElem_mem hi2)
    obtain ⟨cs, r3⟩ := Dp.reads I _ _ _ (q4.dp pi) q2
    refine SeqAt.eqAt_plain ds[i] d X.A.in1 s _ _ cs bs r3 r1 pi p3 ?_
    show X.A.units + 1 + min _ _ < cLine
    omega
where
  plainAll_iff {ds : List D} : PyData.plainAll ds = true ↔ ∀ d ∈ ds, d.plain = true := by
    induction ds with
    | nil => simp [PyData.plainAll]
    | cons d ds ih => simp [PyData.plainAll, ih]
variable {c : Ctx} {a b : Expr} {fa fb : EvE} {pos apos : Pos}
theorem mtX {ι : Type} {id : String} {r : ι → V → List V → Hp → VK → Prop} (h : ∀ a, MtR X id (r a)) : MtR X id (fun x xs H Q => ∃ a, r a x xs H Q) := fun pins s σ H x xs v us Q I rx rxs ⟨a, q⟩ => h a pins s σ H x xs v us Q I rx rxs q
theorem se_idx {x : Str} {pn : Pos} (ha : SB c (.Name x pn) fa) (hb : SB c b fb) (hn : notStar b = true) (hline : (apos.endLine == pos.line) = true) :
    SE c (.Call (.Attribute (.Name x pn) "index" apos) [b] [] pos) (fun Φ ρ => do let x ← fa Φ ρ; idxR x (fb Φ ρ)) := fun X Φ W ok tk =>
  peI (pe_bm PySem.F.plainAttrs_list PySem.F.slot_list_index PySem.F.type_list_index (mt_idx ok.hu) (ha X Φ W ok tk) (pa_cons (hb X Φ W ok tk) pa_nil (star_of hn _ _)) rfl (few1 hn) hline (star_of hn _ _) rfl) fun σ H Q ⟨A, O, ρ, hA, hρ, q⟩ => by
    refine ⟨A, O, ρ, hA, hρ, q.bind fun d v H1 s1 p1 q1 => ?_⟩
    cases d with
    | list ds =>
      obtain ⟨l, xs, rfl, hx, hr⟩ := p1
      refine ⟨.inl ⟨rfl, xs, hx⟩, A, O, ρ, hA.same s1, hρ.same s1, Rt.bind (m := fb Φ ρ) (g := idxL ds) q1 fun e u H2 s2 p2 q2 => ?_⟩
      have q2 : Rt X.mg W (pE X.K A) H2 σ Q (if okD (.list ds) && okD e then Res.ofO ((SeqAt.dataPlace ds e).map fun j => .int (j : Nat)) else .st) := q2
      by_cases hk : (okD (.list ds) && okD e) = true
      · rw [if_pos hk] at q2
        obtain ⟨r, e1, e2⟩ := q2.ofO
        obtain ⟨j, e3, rfl⟩ := Option.map_eq_some_iff.mp e1
        exact ⟨[], l, xs, ds, u, e, j, rfl, rfl, s2.seq hx, (hr.same s2).sub (by simp), rpb_rp p2, hk, e3, e2 _ _ (Same.refl _) (.int _)⟩
      · rw [if_neg hk] at q2; exact q2.elim
    | _ => exact q1.elim
end
end Pv

end
section
namespace Pv
open PySem PySem.Spec PyProof.Rows L2

/-! ### dict comprehensions -/
def dcL (asg : D → Res Env) (cond key val : Env → Res D) : List D → List (D × D) → Res (List (D × D))
  | [], acc => .ok acc
  | d :: ds, acc => do
    let ρ' ← noex (asg d)
    let k ← noex (cond ρ')
    match k with
    | .bool true => do
      let y ← noex (key ρ')
      let z ← noex (val ρ')
      let kk ← Res.ofO (keyO y)
      dcL asg cond key val ds (putE acc kk z)
    | .bool false => dcL asg cond key val ds acc
    | _ => .st
def dcE (own : List Nat) (t : Tg) (fi : EvL) (fc fk fv : EvE) : EvE := fun Φ ρ => do
  let ds ← fi Φ ρ
  if sm ds.length then do
    let r ← dcL (fun d => asgT t d (wipeE ρ own)) (fc Φ) (fk Φ) (fv Φ) ds []
    pure (.dict r)
  else .st
theorem noex_no {α : Type} {m : Res α} {c : Str} : noex m ≠ .ex c := by cases m <;> intro h <;> cases h
theorem dcL_noex {asg : D → Res Env} {cond key val : Env → Res D} {c : Str} : ∀ (ds : List D) (acc : List (D × D)), dcL asg cond key val ds acc ≠ .ex c
  | [], acc, h => by cases h
  | d :: ds, acc, h => by
    unfold dcL at h
    cases h1 : noex (asg d) with
    | st => rw [h1] at h; cases h
    | ex z => exact noex_no h1
    | ok ρ' =>
      rw [h1, Res.ok_bind] at h
      cases h2 : noex (cond ρ') with
      | st => rw [h2] at h; cases h
      | ex z => exact noex_no h2
      | ok k =>
        rw [h2, Res.ok_bind] at h
        cases k with
        | bool b =>
          cases b with
          | false => exact dcL_noex ds acc h
          | true =>
            have h : (noex (key ρ') >>= fun y => noex (val ρ') >>= fun z => Res.ofO (keyO y) >>= fun kk => dcL asg cond key val ds (putE acc kk z)) = .ex c := h
            cases h3 : noex (key ρ') with
            | st => rw [h3] at h; cases h
            | ex z => exact noex_no h3
            | ok y =>
              rw [h3, Res.ok_bind] at h
              cases h4 : noex (val ρ') with
              | st => rw [h4] at h; cases h
              | ex z => exact noex_no h4
              | ok z =>
                rw [h4, Res.ok_bind] at h
                cases h5 : keyO y with
                | none => rw [h5] at h; cases h
                | some kk => rw [h5] at h; exact dcL_noex ds _ h
        | _ => cases h
/-! ### expressions that make a new dict -/
def RtFd (K : PySem.W.Frag) (mg : Str → Option Value) (W : WX) (A : List Addr) (H : Hp) (σ : L2.St) (Q : VK) : Res D → Prop
  | .st => False
  | .ok (.dict es) => ∀ p kvs ds H1, Same H H1 → H p = none → H1 p = some (.dK kvs) → RpL K H1 (p :: A) (kvs.map (·.2)) ds → es = zipE kvs ds → Q (.ref p) H1
  | .ok _ => False
  | .ex c => ∀ C H', Same H H' → mg c = some (.ref C) → W (.ref C) none σ H'
def tFd (K : PySem.W.Frag) (mg : Str → Option Value) (W : WX) (f : Env → Res D) : TE := fun σ H Q => ∃ A O ρ, AOk H A ∧ EnvOk K H A O σ ρ ∧ RtFd K mg W A H σ Q (f ρ)
def SFd (c : Ctx) (e : Expr) (f : EvE) : Prop := ∀ X Φ W, Ok c X Φ → Takes X W → PE X e (tFd X.K X.mg W (f Φ))
section
variable {K : PySem.W.Frag} {mg : Str → Option Value} {W : WX} {A : List Addr} {H H1 : Hp} {σ : L2.St} {Q Q1 : VK}
theorem RtFd.of {m : Res D} (hA : AOk H A) (h : Rt mg W (pE K A) H σ Q m) (hd : ∀ d, m = .ok d → ∃ es, d = .dict es) : RtFd K mg W A H σ Q m := by
  cases m with
  | st => exact h
  | ok d =>
    obtain ⟨es, rfl⟩ := hd d rfl
    exact fun p kvs ds H1 s np e r q => h _ _ s (.dic (.inl e) (hA.fresh np) (r.sub fun _ z => List.mem_cons_of_mem _ z) q)
  | ex c => exact h
end
section
variable {c : Ctx} {a e iter tg : Expr} {fa fc fk fv fe : EvE} {fi : EvL} {pos pos' : Pos}
theorem keyO_V {K : PySem.W.Frag} {H : Hp} {A : List Addr} {v : V} {d : D} {k : Key} (h : Rp K H A v d) (e : keyO d = some k) : v = kV k := key_V h e
theorem dc_readF {K : PySem.W.Frag} {mg : Str → Option Value} {W : WX} {bor : Bool} {t : Tg} {Φ : Calls} {own : List Nat} (ht : ∀ i ∈ t.slots, i ∈ own) {A : List Addr} {O : List (Option Addr)} {ρ : Env} {σ : L2.St} {H : Hp} {Q : VK} (hA : AOk H A) (hρ : EnvOk K H A O σ ρ)
    (q : RtFd K mg W A H σ Q (dcE own t fi fc fk fv Φ ρ)) : tDc (tI K mg W bor (fi Φ)) (tG K t) (tXT K mg W0 (fc Φ)) (tX K mg W0 pE (fk Φ)) (tX K mg W0 pE (fv Φ)) own σ H Q := by
  refine ⟨A, O, ρ, hA, hρ, ?_⟩
  unfold dcE at q
  cases hi : fi Φ ρ with
  | st => rw [hi] at q; exact q
  | ex z => rw [hi] at q; exact q
  | ok ds =>
    rw [hi, Res.ok_bind] at q
    intro J H1 s1 wk D nD
    have hsm : sm ds.length = true := by
      by_cases h : sm ds.length = true
      · exact h
      · rw [if_neg h] at q; exact q.elim
    rw [if_pos hsm] at q
    cases hr : dcL (fun d => asgT t d (wipeE ρ own)) (fc Φ) (fk Φ) (fv Φ) ds [] with
    | st => rw [hr] at q; exact q.elim
    | ex z => exact (dcL_noex ds [] hr).elim
    | ok total =>
      rw [hr] at q
      have q : ∀ p kvs ds H1, Same H H1 → H p = none → H1 p = some (.dK kvs) → RpL K H1 (p :: A) (kvs.map (·.2)) ds → total = zipE kvs ds → Q (.ref p) H1 := q
      have hA1 := hA.same s1
      have hρ1 := hρ.same s1
      have hz : ds.length ≤ 1000000 := of_decide_eq_true hsm
      have hS := sizeLine_eq
      refine ⟨fun i m H2 => m = ds.length - i ∧ i ≤ ds.length ∧ Same H1 H2 ∧ ∃ kvs accD, H2 D = some (.dK kvs) ∧ RpL K H2 (D :: A) (kvs.map (·.2)) accD ∧ dcL (fun d => asgT t d (wipeE ρ own)) (fc Φ) (fk Φ) (fv Φ) (ds.drop i) (zipE kvs accD) = .ok total ∧ kvs.length ≤ i,
        ⟨ds.length, by simp, Nat.zero_le _, same_upd nD, [], [], upd_same, .nil, by simpa [zipE] using hr, Nat.le_refl _⟩, ?_⟩
      rintro i m H2 ⟨rfl, hi, s2, kvs, accD, hD, hacc, hrest, hlen⟩
      have hA2 : AOk H2 (D :: A) := fun p hp => by
        rcases List.mem_cons.mp hp with rfl | hp
        · exact ⟨_, hD, trivial⟩
        · exact (hA1.same s2) p hp
      have hρ2 : EnvOk K H2 (D :: A) O σ ρ := (hρ1.new nD).same s2
      obtain ⟨wgo, wst⟩ := wk i H2 (D :: A) (fun b o _ e => s2 b o e) fun p hp => by
        rcases List.mem_cons.mp hp with rfl | hp
        · exact .inr nD
        · exact .inl hp
      by_cases hlt : i < ds.length
      · have hd : ds[i]? = some ds[i] := List.getElem?_eq_getElem hlt
        obtain ⟨go, yl⟩ := wgo _ hd
        have hdrop : ds.drop i = ds[i] :: ds.drop (i + 1) := List.drop_eq_getElem_cons hlt
        rw [hdrop] at hrest
        unfold dcL at hrest
        cases h1 : asgT t ds[i] (wipeE ρ own) with
        | st => rw [h1] at hrest; cases hrest
        | ex z => rw [h1] at hrest; cases hrest
        | ok ρ' =>
          have e1 : noex (asgT t ds[i] (wipeE ρ own)) = .ok ρ' := by rw [h1]; rfl
          rw [e1, Res.ok_bind] at hrest
          refine .inr ⟨go, fun H' => Same H1 H' ∧ ∃ kvs accD, H' D = some (.dK kvs) ∧ RpL K H' (D :: A) (kvs.map (·.2)) accD ∧ dcL (fun d => asgT t d (wipeE ρ own)) (fc Φ) (fk Φ) (fv Φ) (ds.drop (i + 1)) (zipE kvs accD) = .ok total ∧ kvs.length ≤ i + 1,
            fun H' ⟨s', x⟩ => ⟨ds.length - (i + 1), by omega, rfl, hlt, s', x⟩, fun x H' hy => ?_⟩
          obtain ⟨s3, hx⟩ := yl x H' hy
          refine ⟨D :: A, wipeO O own, wipeE ρ own, ds[i], hA2.same s3, (hρ2.same s3).wipe own, hx, ?_⟩
          rw [h1]
          refine fun σ' O' e4 _ e5 => ⟨?_, ?_⟩
          · have e6 := e5 own ht
            rw [e6]
            have idem : ∀ vs : List Nat, wipe (wipe σ vs) vs = wipe σ vs := fun vs => by
              apply List.ext_getElem?
              intro j
              by_cases hj : j < σ.length
              · rw [wipe_at (by rw [wipe_length]; exact hj), wipe_at hj]
                by_cases hm : j ∈ vs
                · rw [if_pos hm, if_pos hm]
                · rw [if_neg hm, if_neg hm]
              · rw [List.getElem?_eq_none (by rw [wipe_length, wipe_length]; omega), List.getElem?_eq_none (by rw [wipe_length]; omega)]
            exact idem own
          · refine ⟨D :: A, O', ρ', hA2.same s3, e4, ?_⟩
            cases h2 : fc Φ ρ' with
            | st => rw [h2] at hrest; cases hrest
            | ex z => rw [h2] at hrest; cases hrest
            | ok k =>
              have e7 : noex (fc Φ ρ') = .ok k := by rw [h2]; rfl
              rw [e7, Res.ok_bind] at hrest
              have hD3 : H' D = some (.dK kvs) := s3 _ _ hD
              cases k with
              | bool b =>
                intro H3 s4
                have s34 := s3.trans s4
                cases b with
                | false =>
                  refine iteF ⟨(s2.trans s3).trans s4, kvs, accD, s4 _ _ hD3, (hacc.same s3).same s4, hrest, by omega⟩
                | true =>
                  have hrest : (noex (fk Φ ρ') >>= fun y => noex (fv Φ ρ') >>= fun z => Res.ofO (keyO y) >>= fun kk => dcL (fun d => asgT t d (wipeE ρ own)) (fc Φ) (fk Φ) (fv Φ) (ds.drop (i + 1)) (putE (zipE kvs accD) kk z)) = .ok total := hrest
                  refine iteT ⟨D :: A, O', ρ', hA2.same s34, e4.same s4, ?_⟩
                  cases h3 : fk Φ ρ' with
                  | st => rw [h3] at hrest; cases hrest
                  | ex z => rw [h3] at hrest; cases hrest
                  | ok y =>
                    have e8 : noex (fk Φ ρ') = .ok y := by rw [h3]; rfl
                    rw [e8, Res.ok_bind] at hrest
                    intro vk H4 s5 hvk
                    have s345 := s34.trans s5
                    refine ⟨D :: A, O', ρ', hA2.same s345, (e4.same s4).same s5, ?_⟩
                    cases h4 : fv Φ ρ' with
                    | st => rw [h4] at hrest; cases hrest
                    | ex z => rw [h4] at hrest; cases hrest
                    | ok z =>
                      have e9 : noex (fv Φ ρ') = .ok z := by rw [h4]; rfl
                      rw [e9, Res.ok_bind] at hrest
                      cases h5 : keyO y with
                      | none => rw [h5] at hrest; cases hrest
                      | some kk =>
                        rw [h5, Res.ofO_some, Res.ok_bind] at hrest
                        intro v H5 s6 hv
                        have sAll := s345.trans s6
                        have hD5 : H5 D = some (.dK kvs) := sAll _ _ hD
                        have hacc5 : RpL K H5 (D :: A) (kvs.map (·.2)) accD := hacc.same sAll
                        obtain ⟨ds', r1, r2⟩ := put_zip (k := kk) hacc5 hv
                        have hAD : AOk H5 [D] := fun p hp => by
                          have : p = D := by simpa using hp
                          subst this
                          exact ⟨_, hD5, trivial⟩
                        have bt : But [D] H5 (upd H5 D (.dK (putK kvs kk v))) := But.upd (by simp)
                        refine ⟨kvs, kk, keyO_V hvk h5, hD5, by rw [hS]; omega, ?_, putK kvs kk v, ds', upd_same, r1.but bt hAD (by simp), by rw [← r2]; exact hrest, ?_⟩
                        · intro b o hb
                          have hb5 : H5 b = some o := s6 _ _ (s5 _ _ (s4 _ _ (s3 _ _ (s2 _ _ hb))))
                          rw [upd_ne (fun z => by rw [z, nD] at hb; cases hb)]
                          exact hb5
                        · have := length_putK kvs kk v
                          omega
              | _ => cases hrest
      · have e : i = ds.length := by omega
        subst e
        rw [List.drop_length] at hrest
        cases hrest
        exact .inl ⟨wst (Nat.le_refl _), q D kvs accD _ (s1.trans s2) (s1.free nD) hD hacc rfl⟩
theorem dcE_dict {own : List Nat} {t : Tg} {Φ : Calls} {ρ : Env} {d : D} (h : dcE own t fi fc fk fv Φ ρ = .ok d) : ∃ es, d = .dict es := by
  unfold dcE at h
  cases hi : fi Φ ρ with
  | st => rw [hi] at h; cases h
  | ex z => rw [hi] at h; cases h
  | ok ds =>
    rw [hi, Res.ok_bind] at h
    by_cases hz : sm ds.length = true
    · rw [if_pos hz] at h
      cases hr : dcL (fun d => asgT t d (wipeE ρ own)) (fc Φ) (fk Φ) (fv Φ) ds [] with
      | st => rw [hr] at h; cases h
      | ex z => rw [hr] at h; cases h
      | ok r => rw [hr] at h; cases h; exact ⟨r, rfl⟩
    · rw [if_neg hz] at h; cases h
theorem sfd_dc {scope : Scope} {own : List (Str × Nat)} {ifs : List Expr} {kx vx : Expr} {t : Tg} (bor : Bool) (hi : SI bor c tg iter fi) (bo : BlkOk c.N c.sc scope own) (hg : SG (c.blk scope) tg t) (ht : ∀ i ∈ t.slots, i ∈ own.map (·.2)) (hc : STs (c.blk scope) ifs fc) (hk : SE (c.blk scope) kx fk) (hv : SE (c.blk scope) vx fv)
    (hs : ∀ env x, foldedSetIterable iter env x = pure x) : SFd c (.DictComp kx vx [⟨tg, iter, ifs, 0⟩] scope pos) (dcE (own.map (·.2)) t fi fc fk fv) := fun X Φ W ok tk =>
  peI (pe_dc ok.calm (by rw [ok.hN]; exact ok.nd) (hi X Φ W ok tk) (by rw [ok.hN, ok.sc]; exact bo)
    (fun s H C cl fp => hg _ Φ (ok_blk ok bo s H C cl fp)) (fun s H C cl fp => hc _ Φ W0 (ok_blk ok bo s H C cl fp) takes0) (fun s H C cl fp => hk _ Φ W0 (ok_blk ok bo s H C cl fp) takes0) (fun s H C cl fp => hv _ Φ W0 (ok_blk ok bo s H C cl fp) takes0) (hs _))
    fun σ H Q ⟨A, O, ρ, hA, hρ, q⟩ => dc_readF ht hA hρ q
theorem se_dc {scope : Scope} {own : List (Str × Nat)} {ifs : List Expr} {kx vx : Expr} {t : Tg} (bor : Bool) (hi : SI bor c tg iter fi) (bo : BlkOk c.N c.sc scope own) (hg : SG (c.blk scope) tg t) (ht : ∀ i ∈ t.slots, i ∈ own.map (·.2)) (hc : STs (c.blk scope) ifs fc) (hk : SE (c.blk scope) kx fk) (hv : SE (c.blk scope) vx fv)
    (hs : ∀ env x, foldedSetIterable iter env x = pure x) : SE c (.DictComp kx vx [⟨tg, iter, ifs, 0⟩] scope pos) (dcE (own.map (·.2)) t fi fc fk fv) := fun X Φ W ok tk =>
  peI (sfd_dc (pos := pos) bor hi bo hg ht hc hk hv hs X Φ W ok tk) fun σ H Q ⟨A, O, ρ, hA, hρ, q⟩ => ⟨A, O, ρ, hA, hρ, RtFd.of hA q fun d h => dcE_dict h⟩
def dNil : EvE := fun _ _ => .ok (.dict [])
theorem sfd_nil : SFd c (.Dict [] [] pos) dNil := fun X Φ W ok tk =>
  peI pe_dnewK fun σ H Q ⟨A, O, ρ, hA, hρ, q⟩ => fun p np => q p [] [] _ (same_upd np) np upd_same .nil rfl
theorem se_dnil : SE c (.Dict [] [] pos) dNil := fun X Φ W ok tk =>
  peI (sfd_nil (pos := pos) X Φ W ok tk) fun σ H Q ⟨A, O, ρ, hA, hρ, q⟩ => ⟨A, O, ρ, hA, hρ, RtFd.of hA q fun d h => by cases h; exact ⟨[], rfl⟩⟩
/-! statements -/
def stD (i : Nat) (m : Res D) (ρ : Env) : SR := onE m ρ fun d => match d with | .dict es => if i < ρ.length then .nx (ρ.set i (some (true, .dict es))) else .st | _ => .st
theorem rtf_stD {K : PySem.W.Frag} {mg : Str → Option Value} {W : WX} {F : Fm} {O : List (Option Addr)} {σ : L2.St} {H : Hp} {ρ : Env} {Dn : Ends} {i : Nat} {m : Res D} (h : RtS K mg W F Dn (stD i m ρ)) (hF : F.Ok) (s : StO K F O σ H ρ) : RtFd K mg W (F.A0 ++ rts O) H σ (fun x H1 => gName i x σ H1 Dn.nx) m := by
  unfold stD at h
  cases m with
  | st => exact h
  | ex c => exact fun C H' s' hm => h C σ H' O (s.same s') hm
  | ok d =>
    cases d with
    | dict es =>
      intro p kvs ds H1 s1 np e r hz
      have h : RtS K mg W F Dn (if i < ρ.length then .nx (ρ.set i (some (true, .dict es))) else .st) := h
      have hi : i < ρ.length := by
        by_cases hi : i < ρ.length
        · exact hi
        · rw [if_neg hi] at h; exact h.elim
      rw [if_pos hi] at h
      refine h _ _ _ (s.put i hF s1 np (.ownD (List.mem_append_right _ (mem_rts.mpr ?_)) e (r.sub fun a ha => ?_) hz))
      · have hO : i < O.length := by rw [s.env.sl.len.2]; exact hi
        exact List.mem_of_getElem? (i := i) (by rw [List.getElem?_set_self hO])
      · rcases List.mem_append.mp ha with ha | ha
        · exact List.mem_cons_of_mem _ (List.mem_append_left _ ha)
        · rcases mem_set (mem_rts.mp ha) with ha | ha
          · exact List.mem_cons_of_mem _ (List.mem_append_right _ (mem_rts.mpr ha))
          · cases ha; simp
    | _ => exact h
theorem s_setD {i : Nat} {x : Str} (is : List Nat) (hi : c.N[i]? = some x) (hx : LocC c x) (he : SFd c e fe) (hs : ∀ env, env.scope = c.sc → swapsWith e (some (.Name x pos')) pos.line env = pure false) :
    SS c (.Assign [.Name x pos'] e pos) (fun Φ ρ => stD i (fe Φ (dis is ρ)) (dis is ρ)) := fun X Φ W ok tk hp =>
  psI (ps_set (i := i) (by rw [ok.hN]; exact ok.nd) (by rw [ok.hN]; exact hi) (hx.loc ok).1 (he X Φ W ok tk) (hs _ ok.sc) (hx.loc ok).2) fun Dn σ H ⟨F, O, ρ, hF, hs, q⟩ => by
    obtain ⟨O', hs'⟩ := hs.dis hF is
    exact ⟨_, O', _, hs'.aok hF, hs'.env, rtf_stD q hF hs'⟩
theorem ps_setDc {X : Cx} {i : Nat} {y : Str} {py : Pos} {kx vx tg iter : Expr} {ifs : List Expr} {scope : Scope} {own : List (Str × Nat)} {pos spos : Pos} {wi : TI} {g : TG} {tt : TT} {tk tv : TE} (hc : X.calm = true) (hN : X.N.Nodup) (hy : X.N[i]? = some y) (hyl : X.env.scope.names.lookup y = some .local)
    (hsw : swapsWith (.DictComp kx vx [⟨tg, iter, ifs, 0⟩] scope pos) (some (.Name y py)) spos.line X.env = pure true) (hi : PI X tg iter wi) (ok : BlkOk X.N X.env.scope scope own)
    (hg : ∀ (s : Shared) (H : Hp) (C : Addr) (cl : List (Str × Addr)) (fp : List Addr), PG (X.blk s H scope (compEnvC scope cl C X.env) fp) tg g) (ht : ∀ (s : Shared) (H : Hp) (C : Addr) (cl : List (Str × Addr)) (fp : List Addr), PTs (X.blk s H scope (compEnvC scope cl C X.env) fp) ifs tt)
    (hk : ∀ (s : Shared) (H : Hp) (C : Addr) (cl : List (Str × Addr)) (fp : List Addr), PE (X.blk s H scope (compEnvC scope cl C X.env) fp) kx tk)
    (he : ∀ (s : Shared) (H : Hp) (C : Addr) (cl : List (Str × Addr)) (fp : List Addr), PE (X.blk s H scope (compEnvC scope cl C X.env) fp) vx tv) (hs : ∀ x, foldedSetIterable iter X.env x = pure x) :
    PS X (.Assign [.Name y py] (.DictComp kx vx [⟨tg, iter, ifs, 0⟩] scope pos) spos) (tAsg (tDc wi g tt tk tv (own.map (·.2))) (gName i)) := ⟨fun pins s σ H D I h => by
  rw [exec_Assign_Name_used _ _ _ _ hsw]
  refine wpAny_bind (wpAny_standAt (wpAny_bind ?_))
  show wpAny _ X.A (do let _ ← comprehension (.DictComp kx vx [⟨tg, iter, ifs, 0⟩] scope pos) scope X.env (firstIterPos [⟨tg, iter, ifs, 0⟩] pos) newDict false (eval iter X.env) (some (assign (.Name y py) X.env))) _ _ s
  have h : tDc wi g tt tk tv (own.map (·.2)) σ H (fun x H1 => gName i x σ H1 D.nx) := h
  refine wpAny_bind (thn (dc_core (Qf := fun _ s' => SP X pins D .next s') hc hN I hi ok hg ht hk he hs h fun L C s' m H' I' q hn f => ?_) fun _ s' hq => wpAny_pure (wpAny_pure hq))
  obtain ⟨f0, f1, f2, f3, f4, f5⟩ := f
  refine (show wpAny _ _ (assign (.Name y py) X.env (.ref L)) _ _ _ from wpAny_assign_Name (store_ok2 (v := V.ref L) I' hN hy (.inl hyl) rfl (fun s2 I2 ⟨a, sb, ha⟩ => ⟨m, hn.sameBut sb ?_, fun h3 sb3 => ⟨_, H', I2.turned (t' := s2.toks) (fun b o hb e => (sb3.2 b hb).trans e) f0 f1 f3 f4 f5, q⟩⟩) (.inr hyl)))
  rcases ha with z | z
  · rw [z]; exact f1
  · exact fun e => f4 y a z e.symm⟩
theorem s_setDc {i : Nat} {x : Str} {spos : Pos} {scope : Scope} {own : List (Str × Nat)} {ifs : List Expr} {kx vx : Expr} {t : Tg} (bor : Bool) (is : List Nat) (hi' : c.N[i]? = some x) (hx : c.sc.names.lookup x = some .local)
    (hsw : ∀ env, env.scope = c.sc → swapsWith (.DictComp kx vx [⟨tg, iter, ifs, 0⟩] scope pos) (some (.Name x pos')) spos.line env = pure true)
    (hi : SI bor c tg iter fi) (bo : BlkOk c.N c.sc scope own) (hg : SG (c.blk scope) tg t) (ht : ∀ i ∈ t.slots, i ∈ own.map (·.2)) (hc : STs (c.blk scope) ifs fc) (hk : SE (c.blk scope) kx fk) (hv : SE (c.blk scope) vx fv)
    (hs : ∀ env x, foldedSetIterable iter env x = pure x) : SS c (.Assign [.Name x pos'] (.DictComp kx vx [⟨tg, iter, ifs, 0⟩] scope pos) spos) (fun Φ ρ => stD i (dcE (own.map (·.2)) t fi fc fk fv Φ (dis is ρ)) (dis is ρ)) := fun X Φ W ok tk hp =>
  psI (ps_setDc (i := i) ok.calm (by rw [ok.hN]; exact ok.nd) (by rw [ok.hN]; exact hi') (by rw [ok.sc]; exact hx) (hsw _ ok.sc) (hi X Φ W ok tk) (by rw [ok.hN, ok.sc]; exact bo)
    (fun s H C cl fp => hg _ Φ (ok_blk ok bo s H C cl fp)) (fun s H C cl fp => hc _ Φ W0 (ok_blk ok bo s H C cl fp) takes0) (fun s H C cl fp => hk _ Φ W0 (ok_blk ok bo s H C cl fp) takes0) (fun s H C cl fp => hv _ Φ W0 (ok_blk ok bo s H C cl fp) takes0) (hs _))
    fun Dn σ H ⟨F, O, ρ, hF, hs, q⟩ => by
      obtain ⟨O', hs'⟩ := hs.dis hF is
      exact dc_readF ht (hs'.aok hF) hs'.env (rtf_stD q hF hs')
/-- d[k] = v, d owned -/
def ownDD (i : Nat) (ρ : Env) (k : List (D × D) → SR) : SR := match ρ[i]? with
  | some (some (true, .dict es)) => k es
  | _ => .st
def setSD (i : Nat) (ρ : Env) (m : Res D) (mk : Res D) : SR := ownDD i ρ fun es => onE m ρ fun d => onE mk ρ fun k => match keyO k with
  | some kk => if sm es.length then .nx (ρ.set i (some (true, .dict (putE es kk d)))) else .st
  | none => .st
theorem ownDD_get {K : PySem.W.Frag} {mg : Str → Option Value} {W : WX} {F : Fm} {O : List (Option Addr)} {σ : L2.St} {H : Hp} {ρ : Env} {Dn : Ends} {i : Nat} {k : List (D × D) → SR} (hs : StO K F O σ H ρ) (h : RtS K mg W F Dn (ownDD i ρ k)) :
    ∃ a kvs ds, ρ[i]? = some (some (true, .dict (zipE kvs ds))) ∧ σ[i]? = some (some (.ref a)) ∧ O[i]? = some (some a) ∧ H a = some (.dK kvs) ∧ RpL K H (F.A0 ++ rts O) (kvs.map (·.2)) ds ∧ RtS K mg W F Dn (k (zipE kvs ds)) := by
  unfold ownDD at h
  split at h
  · rename_i es e
    obtain ⟨x, r, e1, e2, sl⟩ := hs.env.sl.get e
    cases sl with
    | ownD m hl r q => subst q; exact ⟨_, _, _, e, e1, e2, hl, r, h⟩
  · exact h.elim
theorem s_storeD {i : Nat} {x : Str} {p : Pos} (is : List Nat) (hi : c.N[i]? = some x) (hv : Vis c.sc x) (hd : (x == ("__debug__" : Str)) = false) (hcd : (x == ("__classdict__" : Str)) = false) (he : SE c e fe) (hk : SE c a fa)
    (hw : ∀ env, swapsWith e (some (.Subscript (.Name x p) a pos')) pos.line env = pure false) :
    SS c (.Assign [.Subscript (.Name x p) a pos'] e pos) (fun Φ ρ => setSD i (dis is ρ) (fe Φ (dis is ρ)) (fa Φ (dis is ρ))) := fun X Φ W ok tk hp =>
  psI (ps_dput (by have := ok.hu; omega) (pe_var (i := i) (by rw [ok.hN]; exact hi) (by rw [ok.sc]; exact hv) hd hcd) (hk X Φ W ok tk) (he X Φ W ok tk) (hw _)) fun Dn σ H ⟨F, O, ρ, hF, hs, q⟩ => by
    obtain ⟨O1, hs1⟩ := hs.dis hF is
    have q : RtS X.K X.mg W F Dn (setSD i (dis is ρ) (fe Φ (dis is ρ)) (fa Φ (dis is ρ))) := q
    obtain ⟨b, kvs, ds, e0, e1, e2, hl, r, q1⟩ := ownDD_get hs1 q
    refine ⟨_, O1, _, hs1.aok hF, hs1.env, rt_onE q1 hs1 fun d v H1 s1 p1 q2 => ?_⟩
    have hs2 := hs1.same s1
    refine ⟨.ref b, e1, _, O1, _, hs2.aok hF, hs2.env, rt_onE q2 hs2 fun k vk H2 s2 p2 q3 => ?_⟩
    have hs3 := hs2.same s2
    cases hkk : keyO k with
    | none => simp only [hkk] at q3; exact q3.elim
    | some kk =>
      simp only [hkk] at q3
      by_cases hz : sm (zipE kvs ds).length = true
      · rw [if_pos hz] at q3
        have hl3 := s2 _ _ (s1 _ _ hl)
        have r3 := (r.same s1).same s2
        obtain ⟨ds', r1, r2⟩ := put_zip (k := kk) r3 (p1.same s2)
        have hlen : kvs.length ≤ 1000000 := by
          have h1 : (zipE kvs ds).length = kvs.length := by
            have := r.length
            rw [List.length_map] at this
            unfold zipE
            rw [List.length_zip, List.length_map, this, Nat.min_self]
          have := of_decide_eq_true hz
          omega
        have hS := sizeLine_eq
        have hAD : AOk H2 [b] := fun p hp => by
          have : p = b := by simpa using hp
          subst this
          exact ⟨_, hl3, trivial⟩
        have bt : But [b] H2 (upd H2 b (.dK (putK kvs kk v))) := But.upd (by simp)
        have inb : b ∈ F.A0 ++ rts O1 := List.mem_append_right _ (mem_rts.mpr (List.mem_of_getElem? e2))
        refine ⟨b, _, rfl, .inl ⟨kvs, kk, hl3, keyO_V p2 hkk, by rw [hS]; omega, rfl⟩, q3 _ _ _ (hs3.mut (x := none) i hF e1 e2 (.ownD inb upd_same (r1.but bt hAD (by simpa using inb)) r2))⟩
      · rw [if_neg hz] at q3; exact q3.elim
end
end Pv

end
section
namespace Pv
open PySem PySem.Spec PyProof.Rows L2

/-! ### the text, as it is computed -/
mutual
inductive E where
  | cst (d : D)
  | var (i : Nat) | varB (i : Nat)
  | glob (d : D)
  | bin (op : Operator) (a b : E)
  | un (op : UnaryOp) (a : E)
  | cmp (op : CmpOp) (a b : E)
  | one (a : E) | and (a b : E) | or (a b : E) | not (a : E)
  | ite (t a b : E)
  | tup (es : Es) | lst (es : Es)
  | ix (a b : E) | slc (a : E) (lo hi : Eo)
  | blt (b : Bn) (es : Es) | isi (k : Cl) (a : E)
  | bits (a : E)
  | lset (a : E)
  | rg1 (k : Bool) (a : E) | rg2 (k : Bool) (a b : E) | trev (a : E)
  | chain (a : E) (op : CmpOp) (b : E) (r : Ch)
  | call (f : Str) (es : Es) | lent (f : Str) (es : Es)
  | lc (own : List Nat) (t : Tg) (it : It) (cond : Eo) (elt : E)
  | dc (own : List Nat) (t : Tg) (it : It) (cond : Eo) (k v : E)
  | dnil | sset (a : E) | idx (a b : E)
inductive Ch where
  | last (op : CmpOp) (b : E) | link (op : CmpOp) (b : E) (r : Ch)
inductive Es where
  | nil | cons (a : E) (es : Es)
inductive Eo where
  | none | some (a : E)
inductive It where
  | val (a : E) | rev (a : E) | enm (a : E)
  | rng1 (a : E) | rng2 (a b : E) | rng3 (a b d : E)
end
def kfn (k : Bool) : List D → D := if k then .tuple else .list
mutual
def ev : E → EvE
  | .cst d => fun _ _ => .ok d
  | .var i => fun _ ρ => rdV i ρ
  | .varB i => fun _ ρ => rdB i ρ
  | .glob d => fun _ _ => .ok d
  | .bin op a b => fun Φ ρ => do let x ← ev a Φ ρ; let y ← ev b Φ ρ; Res.ofO (binop op x y)
  | .un op a => fun Φ ρ => do let x ← ev a Φ ρ; Res.ofO (unop op x)
  | .cmp op a b => fun Φ ρ => do let x ← ev a Φ ρ; let y ← ev b Φ ρ; cmpR op x y
  | .one a => ev a
  | .and a b => fun Φ ρ => andR (ev a Φ ρ) (ev b Φ ρ)
  | .or a b => fun Φ ρ => orR (ev a Φ ρ) (ev b Φ ρ)
  | .not a => fun Φ ρ => notR (ev a Φ ρ)
  | .ite t a b => fun Φ ρ => iteR (ev t Φ ρ) (ev a Φ ρ) (ev b Φ ρ)
  | .tup es => fun Φ ρ => do let r ← evs es Φ ρ; smL r .tuple
  | .lst es => fun Φ ρ => do let r ← evs es Φ ρ; smL r .list
  | .ix a b => fun Φ ρ => do let x ← ev a Φ ρ; let y ← ev b Φ ρ; Res.ofO (ixop x y)
  | .slc a lo hi => fun Φ ρ => do let x ← ev a Φ ρ; let l ← evo lo Φ ρ; let h ← evo hi Φ ρ; Res.ofO (slop x l h)
  | .blt b es => fun Φ ρ => do let r ← evs es Φ ρ; Res.ofO (bltop b r)
  | .isi k a => fun Φ ρ => do let x ← ev a Φ ρ; pure (.bool (isiop k x))
  | .bits a => fun Φ ρ => do let x ← ev a Φ ρ; bitR x
  | .rg1 k a => fun Φ ρ => do let x ← ev a Φ ρ; Res.ofO (rgop (kfn k) [x])
  | .rg2 k a b => fun Φ ρ => do let x ← ev a Φ ρ; let y ← ev b Φ ρ; Res.ofO (rgop (kfn k) [x, y])
  | .lset a => fun Φ ρ => do let x ← ev a Φ ρ; lsR2 x
  | .sset a => fun Φ ρ => do let x ← ev a Φ ρ; ssR x
  | .idx a b => fun Φ ρ => do let x ← ev a Φ ρ; idxR x (ev b Φ ρ)
  | .dnil => dNil
  | .dc own t it cond k v => dcE own t (evi it) (evc cond) (ev k) (ev v)
  | .trev a => fun Φ ρ => do let x ← ev a Φ ρ; trev x
  | .chain a op b r => fun Φ ρ => do let x ← ev a Φ ρ; linkC op (ev b) (evch r) Φ ρ x
  | .call f es => fun Φ ρ => do let r ← evs es Φ ρ; Φ f r
  | .lent f es => fun Φ ρ => do let r ← evs es Φ ρ; purR (Φ f r)
  | .lc own t it cond elt => lcE own t (evi it) (evc cond) (ev elt)
def evch : Ch → Calls → Env → D → Res D
  | .last op b => lastC op (ev b)
  | .link op b r => linkC op (ev b) (evch r)
def evs : Es → EvL
  | .nil => fun _ _ => .ok []
  | .cons a es => fun Φ ρ => do let x ← ev a Φ ρ; let r ← evs es Φ ρ; pure (x :: r)
def evo : Eo → EvO
  | .none => fun _ _ => .ok none
  | .some a => fun Φ ρ => intR (ev a Φ ρ)
def evc : Eo → EvE
  | .none => fun _ _ => .ok (.bool true)
  | .some a => ev a
def evi : It → EvL
  | .val a => fun Φ ρ => do let d ← ev a Φ ρ; itemsOf d
  | .rev a => fun Φ ρ => do let d ← ev a Φ ρ; let r ← seqOf d; pure r.reverse
  | .enm a => fun Φ ρ => do let d ← ev a Φ ρ; let r ← seqOf d; pure (enumFrom 0 r)
  | .rng1 a => fun Φ ρ => do let x ← ev a Φ ρ; rng [x]
  | .rng2 a b => fun Φ ρ => do let x ← ev a Φ ρ; let y ← ev b Φ ρ; rng [x, y]
  | .rng3 a b d => fun Φ ρ => do let x ← ev a Φ ρ; let y ← ev b Φ ρ; let z ← ev d Φ ρ; rng [x, y, z]
end

/-! ### side conditions -/
inductive Md where
  | v | b | t | w
  deriving DecidableEq
def Snd : Md → Ctx → Expr → EvE → Prop
  | .v => SE
  | .b => SB
  | .t => ST
  | .w => SW
def plainT : Expr → Bool
  | .Name .. => true
  | .Call .. => true
  | .Constant .. => true
  | .Subscript .. => true
  | .BinOp .. => true
  | _ => false
theorem plainT_ok {e : Expr} (h : plainT e = true) : ∀ env whole, isTrue e env whole = (do let v ← whole; standAt e.pos; holding [v] (truthy v)) := by
  cases e <;> first
    | (cases h; done)
    | exact fun _ _ => rfl
def okM (m : Md) (e : Expr) : Bool := match m with
  | .v => true
  | .b => true
  | .t => plainT e
  | .w => false
theorem snd_of {m : Md} {c : Ctx} {e : Expr} {f : EvE} (h : SE c e f) (k : okM m e = true) : Snd m c e f := by
  cases m with
  | v => exact h
  | b => exact sx_b h
  | t => exact st_val h (plainT_ok k)
  | w => cases k
def nmB (c : Ctx) (i : Nat) (x : Str) : Bool := decide (c.N[i]? = some x) && (match c.sc.names.lookup x with | some .local => true | some .cell => true | some .free => true | _ => false) && ((x == ("__debug__" : Str)) == false) && ((x == ("__classdict__" : Str)) == false)
theorem nmB_ok {c : Ctx} {i : Nat} {x : Str} (h : nmB c i x = true) : c.N[i]? = some x ∧ Vis c.sc x ∧ (x == ("__debug__" : Str)) = false ∧ (x == ("__classdict__" : Str)) = false := by
  unfold nmB at h
  rw [Bool.and_eq_true, Bool.and_eq_true, Bool.and_eq_true] at h
  obtain ⟨⟨⟨h1, h2⟩, h3⟩, h4⟩ := h
  refine ⟨of_decide_eq_true h1, ?_, beq_iff_eq.mp h3, beq_iff_eq.mp h4⟩
  unfold Vis
  split at h2
  · rename_i e; exact .inl e
  · rename_i e; exact .inr (.inl e)
  · rename_i e; exact .inr (.inr e)
  · cases h2
def locB (c : Ctx) (x : Str) : Bool := match c.sc.names.lookup x with | some .local => true | some .cell => decide (x ∈ c.cok) | _ => false
theorem locB_ok {c : Ctx} {x : Str} (h : locB c x = true) : LocC c x := by
  unfold locB at h
  unfold LocC
  split at h
  · rename_i e; exact .inl e
  · rename_i e; exact .inr ⟨e, of_decide_eq_true h⟩
  · cases h
def glB (c : Ctx) (x : Str) : Bool := decide (c.sc.names.lookup x = some .globalImplicit) && ((x == ("__debug__" : Str)) == false)
theorem glB_ok {c : Ctx} {x : Str} (h : glB c x = true) : c.sc.names.lookup x = some .globalImplicit ∧ (x == ("__debug__" : Str)) = false := by
  unfold glB at h
  rw [Bool.and_eq_true] at h
  exact ⟨of_decide_eq_true h.1, beq_iff_eq.mp h.2⟩
def bltB (c : Ctx) (x : Str) : Bool := decide (x ∈ c.blts) && decide (c.sc.names.lookup x = some .globalImplicit)
theorem bltB_ok {c : Ctx} {x : Str} (h : bltB c x = true) : x ∈ c.blts ∧ c.sc.names.lookup x = some .globalImplicit := by
  unfold bltB at h
  rw [Bool.and_eq_true] at h
  exact ⟨of_decide_eq_true h.1, of_decide_eq_true h.2⟩
def rgN (k : Bool) : Str := if k then "tuple" else "list"
def cstB : Const → D → Bool
  | .none, .none => true
  | .bool a, .bool b => a == b
  | .int a, .int b => decide (a = b)
  | .str a, .str b => decide (a = b)
  | _, _ => false
theorem cstB_ok {c : Ctx} {k : Const} {d : D} {j : Nat} {pos : Pos} (h : cstB k d = true) : SE c (.Constant k j pos) (fun _ _ => .ok d) := by
  cases k <;> cases d <;> first
    | (cases h; done)
    | exact se_none
    | (have := beq_iff_eq.mp h; subst this; exact se_bool)
    | (have := of_decide_eq_true h; subst this; first | exact se_int | exact se_str)
def globD : D → Bool
  | .int _ => true | .bool _ => true | .str _ => true | .none => true
  | _ => false
def memG (c : Ctx) (x : Str) (d : D) : Bool := c.gl.any fun p => decide (p.1 = x) && (match p.2, d with
  | .int a, .int b => decide (a = b)
  | .str a, .str b => decide (a = b)
  | _, _ => false)
theorem memG_ok {c : Ctx} {x : Str} {d : D} (h : memG c x d = true) : (x, d) ∈ c.gl := by
  unfold memG at h
  obtain ⟨⟨y, e⟩, h1, h2⟩ := List.any_eq_true.mp h
  rw [Bool.and_eq_true] at h2
  have e1 : y = x := of_decide_eq_true h2.1
  subst e1
  have h3 := h2.2
  cases e <;> cases d <;> first
    | cases h3
    | (have := of_decide_eq_true h3; subst this; exact h1)
def plainIx : Expr → Bool
  | .Slice .. => false
  | _ => true
theorem plainIx_ok {e : Expr} (h : plainIx e = true) : PlainIx e := by
  cases e <;> first
    | (cases h; done)
    | exact fun _ _ => rfl
def notSet : Expr → Bool
  | .Set .. => false
  | _ => true
theorem notSet_fold {e : Expr} (h : notSet e = true) : ∀ env x, foldedSetIterable e env x = pure x := by
  cases e <;> first
    | (cases h; done)
    | exact fun _ _ => rfl
theorem notSet_mark {e : Expr} (op : CmpOp) (h : notSet e = true) : behindInMarks op e = false := by
  cases e <;> first
    | (cases h; done)
    | with_unfolding_all rfl
def blkB (N : List Str) (sc scope : Scope) (own : List (Str × Nat)) : Bool :=
  decide (scope.kind = .function) && scope.names.all (fun y => decide (scope.names.lookup y.1 = some y.2)) && own.all (fun p => decide (N[p.2]? = some p.1))
  && scope.names.all (fun y => if y.2 = .free then decide (sc.names.lookup y.1 = some .cell ∨ sc.names.lookup y.1 = some .free) else true)
  && scope.names.all (fun y => if y.2 = .local ∨ y.2 = .cell then decide (y.1 ∈ own.map (·.1) ∨ y.1 ∉ N) else true)
theorem blkB_ok {N : List Str} {sc scope : Scope} {own : List (Str × Nat)} (h : blkB N sc scope own = true) : BlkOk N sc scope own := by
  unfold blkB at h
  simp only [Bool.and_eq_true] at h
  obtain ⟨⟨⟨⟨h1, h2⟩, h3⟩, h4⟩, h5⟩ := h
  refine ⟨of_decide_eq_true h1, fun y hy => of_decide_eq_true (List.all_eq_true.mp h2 y hy), fun y hy => of_decide_eq_true (List.all_eq_true.mp h3 y hy), fun y hy e => ?_, fun y hy e => ?_⟩
  · have := List.all_eq_true.mp h4 y hy
    rw [if_pos e] at this
    exact of_decide_eq_true this
  · have := List.all_eq_true.mp h5 y hy
    rw [if_pos e] at this
    exact of_decide_eq_true this
def ownN (c : Ctx) (own : List Nat) : List (Str × Nat) := own.map fun i => ((c.N[i]?).getD "", i)
theorem ownN_snd (c : Ctx) (own : List Nat) : (ownN c own).map (·.2) = own := by
  unfold ownN
  rw [List.map_map]
  show own.map (fun i => i) = own
  exact List.map_id' own
/-! targets -/
mutual
def chkG : Tg → Ctx → Expr → Bool
  | .var i, c, e => match e with
    | .Name x _ => decide (c.N[i]? = some x) && locB c x
    | _ => false
  | .tup ts, c, e => match e with
    | .Tuple es _ _ => chkGs ts c es && es.all notStar && (es.length == ts.len)
    | _ => false
def chkGs : Tgs → Ctx → List Expr → Bool
  | .nil, _, es => match es with
    | [] => true
    | _ => false
  | .cons t ts, c, es => match es with
    | [] => false
    | e :: es => chkG t c e && chkGs ts c es && notStar e
end
mutual
theorem chkG_ok : ∀ (t : Tg) (c : Ctx) (e : Expr), chkG t c e = true → SG c e t
  | .var i, c, e, h => by
    cases e <;> first
      | (cases h; done)
      | (rename_i x _
         have h : (decide (c.N[i]? = some x) && locB c x) = true := h
         rw [Bool.and_eq_true] at h
         exact sg_var (of_decide_eq_true h.1) (locB_ok h.2))
  | .tup ts, c, e, h => by
    cases e <;> first
      | (cases h; done)
      | (rename_i es _ _
         have h : (chkGs ts c es && es.all notStar && (es.length == ts.len)) = true := h
         rw [Bool.and_eq_true, Bool.and_eq_true] at h
         exact sg_tup (chkGs_ok ts c es h.1.1) h.1.2 (beq_iff_eq.mp h.2))
theorem chkGs_ok : ∀ (t : Tgs) (c : Ctx) (es : List Expr), chkGs t c es = true → SGs c es t
  | .nil, c, es, h => by
    cases es with
    | nil => exact sgs_nil
    | cons _ _ => cases h
  | .cons t ts, c, es, h => by
    cases es with
    | nil => cases h
    | cons e es =>
      have h : (chkG t c e && chkGs ts c es && notStar e) = true := h
      rw [Bool.and_eq_true, Bool.and_eq_true] at h
      exact sgs_cons (chkG_ok t c e h.1.1) (chkGs_ok ts c es h.1.2) h.2
end
def mB (bor : Bool) : Md := if bor then .b else .v
def slB (t : Tg) (own : List Nat) : Bool := t.slots.all fun i => decide (i ∈ own)
theorem slB_ok {t : Tg} {own : List Nat} (h : slB t own = true) : ∀ i ∈ t.slots, i ∈ own := fun i hi => of_decide_eq_true (List.all_eq_true.mp h i hi)
/-! expressions -/
def mdA : Md → Md
  | .w => .t
  | .t => .t
  | _ => .v
def mdR : Md → Md
  | .w => .w
  | .t => .w
  | _ => .v
def mdN : Md → Md
  | .t => .t
  | _ => .v
mutual
def chk : E → Md → Ctx → Expr → Bool
  | .cst d, m, c, e => okM m e && match e with
    | .Constant k _ _ => cstB k d
    | _ => false
  | .var i, m, c, e => okM m e && match e with
    | .Name x _ => nmB c i x
    | _ => false
  | .varB i, m, c, e => decide (m = .b) && match e with
    | .Name x _ => nmB c i x
    | _ => false
  | .glob d, m, c, e => okM m e && match e with
    | .Name x _ => memG c x d && glB c x
    | _ => false
  | .bin op a b, m, c, e => okM m e && match e with
    | .BinOp x o y _ => decide (op = o) && chk a .b c x && chk b .b c y
    | _ => false
  | .un op a, m, c, e => okM m e && match e with
    | .UnaryOp o x _ => decide (op ≠ .Not) && decide (op = o) && chk a .v c x
    | _ => false
  | .cmp op a b, m, c, e => decide (m ≠ .w) && match e with
    | .Compare x [o] [y] _ => decide (op = o) && notSet y && chk a .b c x && chk b .b c y
    | _ => false
  | .one a, m, c, e => match e with
    | .BoolOp _ [x] _ => chk a (mdA m) c x
    | _ => false
  | .and a b, m, c, e => match e with
    | .BoolOp .And (x :: y :: r) p => chk a (mdA m) c x && chk b (mdR m) c (.BoolOp .And (y :: r) p)
    | _ => false
  | .or a b, m, c, e => match e with
    | .BoolOp .Or (x :: y :: r) p => chk a (mdA m) c x && chk b (mdR m) c (.BoolOp .Or (y :: r) p)
    | _ => false
  | .not a, m, c, e => decide (m ≠ .w) && match e with
    | .UnaryOp .Not x _ => chk a (mdN m) c x
    | _ => false
  | .ite t a b, m, c, e => okM m e && match e with
    | .IfExp d x y _ => chk t .t c d && chk a .v c x && chk b .v c y
    | _ => false
  | .tup es, m, c, e => okM m e && match e with
    | .Tuple xs _ _ => chks es .v c xs
    | _ => false
  | .lst es, m, c, e => okM m e && match e with
    | .List xs _ => chks es .v c xs
    | _ => false
  | .ix a b, m, c, e => okM m e && match e with
    | .Subscript x y _ => plainIx y && chk a .b c x && chk b .b c y
    | _ => false
  | .slc a lo hi, m, c, e => okM m e && match e with
    | .Subscript x (.Slice l h none _) _ => chk a .b c x && chko lo c l && chko hi c h
    | _ => false
  | .blt k es, m, c, e => okM m e && match e with
    | .Call (.Name x _) (y :: ys) [] _ => decide (x = bName k) && bltB c x && notStar y && ys.all notStar && chks es .b c (y :: ys)
    | _ => false
  | .isi k a, m, c, e => okM m e && match e with
    | .Call (.Name x _) [y, .Name z _] [] _ => decide (x = ("isinstance" : Str)) && decide (z = k.sn) && bltB c x && bltB c z && notStar y && chk a .b c y
    | _ => false
  | .bits a, m, c, e => okM m e && match e with
    | .Call (.Attribute (.Name x p) k ap) [] [] cp => decide (k = ("bit_length" : Str)) && (ap.endLine == cp.line) && chk a .b c (.Name x p)
    | _ => false
  | .rg1 k a, m, c, e => okM m e && match e with
    | .Call (.Name x _) [.Call (.Name y _) [z] [] _] [] _ => decide (x = rgN k) && decide (y = ("range" : Str)) && bltB c x && bltB c y && notStar z && chk a .v c z
    | _ => false
  | .rg2 k a b, m, c, e => okM m e && match e with
    | .Call (.Name x _) [.Call (.Name y _) [z, w] [] _] [] _ => decide (x = rgN k) && decide (y = ("range" : Str)) && bltB c x && bltB c y && notStar z && notStar w && chk a .v c z && chk b .v c w
    | _ => false
  | .lset a, m, c, e => okM m e && match e with
    | .Call (.Name x _) [.Call (.Name y _) [z] [] _] [] _ => decide (x = ("len" : Str)) && decide (y = ("set" : Str)) && bltB c x && bltB c y && notStar z && chk a .b c z
    | _ => false
  | .sset a, m, c, e => okM m e && match e with
    | .Call (.Name x _) [.Call (.Name y _) [z] [] _] [] _ => decide (x = ("sorted" : Str)) && decide (y = ("set" : Str)) && bltB c x && bltB c y && notStar z && chk a .b c z
    | _ => false
  | .idx a b, m, c, e => okM m e && match e with
    | .Call (.Attribute (.Name x p) k ap) [y] [] cp => decide (k = ("index" : Str)) && (ap.endLine == cp.line) && notStar y && chk a .b c (.Name x p) && chk b .b c y
    | _ => false
  | .dnil, m, c, e => okM m e && match e with
    | .Dict [] [] _ => true
    | _ => false
  | .trev a, m, c, e => okM m e && match e with
    | .Call (.Name x _) [.Call (.Name y _) [z] [] _] [] _ => decide (x = ("tuple" : Str)) && decide (y = ("reversed" : Str)) && bltB c x && bltB c y && notStar z && chk a .b c z
    | _ => false
  | .chain a op b r, m, c, e => decide (m ≠ .w) && match e with
    | .Compare x (o :: o2 :: os) (y :: y2 :: ys) _ => decide (op = o) && chk a .b c x && chk b .b c y && chkch r c (o2 :: os) (y2 :: ys)
    | _ => false
  | .call f es, m, c, e => okM m e && match e with
    | .Call (.Name x _) (y :: ys) [] _ => decide (x = f) && decide (x ∈ c.fns) && glB c x && notStar y && ys.all notStar && chks es .v c (y :: ys)
    | _ => false
  | .lent f es, m, c, e => okM m e && match e with
    | .Call (.Name x _) (y :: ys) [] _ => decide (x = f) && decide (x ∈ c.fns) && glB c x && notStar y && ys.all notStar && chks es .b c (y :: ys)
    | _ => false
  | .lc own t it cond elt, m, c, e => okM m e && match e with
    | .ListComp x [⟨tg, iter, ifs, 0⟩] scope _ => notSet iter && blkB c.N c.sc scope (ownN c own) && slB t own && chkG t (c.blk scope) tg && chki it true c tg iter && chkc cond (c.blk scope) ifs && chk elt .v (c.blk scope) x
    | _ => false
  | .dc own t it cond k v, m, c, e => okM m e && match e with
    | .DictComp x y [⟨tg, iter, ifs, 0⟩] scope _ => notSet iter && blkB c.N c.sc scope (ownN c own) && slB t own && chkG t (c.blk scope) tg && chki it true c tg iter && chkc cond (c.blk scope) ifs && chk k .v (c.blk scope) x && chk v .v (c.blk scope) y
    | _ => false
def chkch : Ch → Ctx → List CmpOp → List Expr → Bool
  | .last op b, c, os, es => match os, es with
    | [o], [y] => decide (op = o) && notSet y && chk b .b c y
    | _, _ => false
  | .link op b r, c, os, es => match os, es with
    | o :: o2 :: os, y :: y2 :: ys => decide (op = o) && chk b .b c y && chkch r c (o2 :: os) (y2 :: ys)
    | _, _ => false
def chks : Es → Md → Ctx → List Expr → Bool
  | .nil, _, _, es => match es with
    | [] => true
    | _ => false
  | .cons a as, m, c, es => match es with
    | [] => false
    | e :: es => notStar e && chk a m c e && chks as m c es
def chko : Eo → Ctx → Option Expr → Bool
  | .none, _, e => match e with
    | none => true
    | some _ => false
  | .some a, c, e => match e with
    | none => false
    | some e => chk a .v c e
def chkc : Eo → Ctx → List Expr → Bool
  | .none, _, e => match e with
    | [] => true
    | _ => false
  | .some a, c, e => match e with
    | [e] => chk a .t c e
    | _ => false
def chki : It → Bool → Ctx → Expr → Expr → Bool
  | .val a, bor, c, _, e => chk a (mB bor) c e
  | .rev a, bor, c, _, e => match e with
    | .Call (.Name x _) [y] [] _ => decide (x = ("reversed" : Str)) && bltB c x && notStar y && chk a (mB bor) c y
    | _ => false
  | .enm a, bor, c, tg, e => match e, tg with
    | .Call (.Name x _) [y] [] _, .Tuple _ _ _ => decide (x = ("enumerate" : Str)) && bltB c x && notStar y && chk a (mB bor) c y
    | _, _ => false
  | .rng1 a, bor, c, _, e => match e with
    | .Call (.Name x _) [y] [] _ => decide (x = ("range" : Str)) && bltB c x && notStar y && chk a .v c y
    | _ => false
  | .rng2 a b, bor, c, _, e => match e with
    | .Call (.Name x _) [y, z] [] _ => decide (x = ("range" : Str)) && bltB c x && notStar y && notStar z && chk a .v c y && chk b .v c z
    | _ => false
  | .rng3 a b d, bor, c, _, e => match e with
    | .Call (.Name x _) [y, z, u] [] _ => decide (x = ("range" : Str)) && bltB c x && notStar y && notStar z && notStar u && chk a .v c y && chk b .v c z && chk d .v c u
    | _ => false
end
end Pv

end
section
namespace Pv
open PySem PySem.Spec PyProof.Rows L2

/-! ### the check is sound -/
def SndL : Md → Ctx → List Expr → EvL → Prop
  | .v => SXs pEs
  | .b => SXs pBs
  | _ => fun _ _ _ => True
theorem si_of_eq {bor : Bool} {c : Ctx} {tg e : Expr} {f g : EvL} (h : SI bor c tg e f) (q : ∀ Φ ρ, f Φ ρ = g Φ ρ) : SI bor c tg e g := by
  have : f = g := by funext Φ ρ; exact q Φ ρ
  rw [← this]; exact h
theorem a2 {a b : Bool} (h : (a && b) = true) : a = true ∧ b = true := and2 h
mutual
theorem chk_ok : ∀ (x : E) (m : Md) (c : Ctx) (e : Expr), chk x m c e = true → Snd m c e (ev x)
  | .cst d, m, c, e, h => by
    obtain ⟨h0, h⟩ := a2 h
    cases e <;> first
      | (cases h; done)
      | exact snd_of (cstB_ok h) h0
  | .var i, m, c, e, h => by
    obtain ⟨h0, h⟩ := a2 h
    cases e <;> first
      | (cases h; done)
      | exact snd_of (se_var (nmB_ok h).1 (nmB_ok h).2.1 (nmB_ok h).2.2.1 (nmB_ok h).2.2.2) h0
  | .varB i, m, c, e, h => by
    obtain ⟨h0, h⟩ := a2 h
    have hm : m = .b := of_decide_eq_true h0
    subst hm
    cases e <;> first
      | (cases h; done)
      | exact sb_var (nmB_ok h).1 (nmB_ok h).2.1 (nmB_ok h).2.2.1 (nmB_ok h).2.2.2
  | .glob d, m, c, e, h => by
    obtain ⟨h0, h⟩ := a2 h
    cases e <;> first
      | (cases h; done)
      | exact snd_of (se_glob (memG_ok (a2 h).1) (glB_ok (a2 h).2).1 (glB_ok (a2 h).2).2) h0
  | .bin op a b, m, c, e, h => by
    obtain ⟨h0, h⟩ := a2 h
    cases e <;> first
      | (cases h; done)
      | (obtain ⟨h1, h3⟩ := a2 h
         obtain ⟨h1, h2⟩ := a2 h1
         have := of_decide_eq_true h1
         subst this
         exact snd_of (se_bin (chk_ok a .b c _ h2) (chk_ok b .b c _ h3)) h0)
  | .un op a, m, c, e, h => by
    obtain ⟨h0, h⟩ := a2 h
    cases e <;> first
      | (cases h; done)
      | (obtain ⟨h9, h3⟩ := a2 h
         obtain ⟨h1, h2⟩ := a2 h9
         have := of_decide_eq_true h2
         subst this
         exact snd_of (se_un (of_decide_eq_true h1) (chk_ok a .v c _ h3)) h0)
  | .cmp op a b, m, c, e, h => by
    obtain ⟨h0, h⟩ := a2 h
    have hm : m ≠ .w := of_decide_eq_true h0
    cases e with
    | Compare x os ys p =>
      match os, ys, h with
      | [o], [y], h =>
        obtain ⟨h1, h4⟩ := a2 h
        obtain ⟨h1, h3⟩ := a2 h1
        obtain ⟨h1, h2⟩ := a2 h1
        have := of_decide_eq_true h1
        subst this
        have ha := chk_ok a .b c _ h3
        have hb := chk_ok b .b c _ h4
        have hn := notSet_mark op h2
        cases m with
        | v => exact se_cmp ha hb hn
        | b => exact sx_b (se_cmp ha hb hn)
        | t => exact st_cmp ha hb hn
        | w => exact absurd rfl hm
    | _ => cases h
  | .one a, m, c, e, h => by
    cases e with
    | BoolOp o xs p =>
      match xs, h with
      | [x], h =>
        have h : chk a (mdA m) c x = true := by cases m <;> exact h
        have ha := chk_ok a _ c x h
        cases m with
        | v => exact se_one ha
        | b => exact sx_b (se_one ha)
        | t => cases o with
          | And => exact sw_t (sw_and1 ha)
          | Or => exact sw_t (sw_or1 ha)
        | w => cases o with
          | And => exact sw_and1 ha
          | Or => exact sw_or1 ha
    | _ => cases h
  | .and a b, m, c, e, h => by
    cases e with
    | BoolOp o xs p =>
      match o, xs, h with
      | .And, x :: y :: r, h =>
        obtain ⟨h1, h2⟩ := a2 h
        have h1 : chk a (mdA m) c x = true := by cases m <;> exact h1
        have h2 : chk b (mdR m) c (.BoolOp .And (y :: r) p) = true := by cases m <;> exact h2
        have ha := chk_ok a _ c x h1
        have hb := chk_ok b _ c _ h2
        cases m with
        | v => exact se_and ha hb
        | b => exact sx_b (se_and ha hb)
        | t => exact sw_t (sw_and ha hb)
        | w => exact sw_and ha hb
    | _ => cases h
  | .or a b, m, c, e, h => by
    cases e with
    | BoolOp o xs p =>
      match o, xs, h with
      | .Or, x :: y :: r, h =>
        obtain ⟨h1, h2⟩ := a2 h
        have h1 : chk a (mdA m) c x = true := by cases m <;> exact h1
        have h2 : chk b (mdR m) c (.BoolOp .Or (y :: r) p) = true := by cases m <;> exact h2
        have ha := chk_ok a _ c x h1
        have hb := chk_ok b _ c _ h2
        cases m with
        | v => exact se_or ha hb
        | b => exact sx_b (se_or ha hb)
        | t => exact sw_t (sw_or ha hb)
        | w => exact sw_or ha hb
    | _ => cases h
  | .not a, m, c, e, h => by
    obtain ⟨h0, h⟩ := a2 h
    have hm : m ≠ .w := of_decide_eq_true h0
    cases e with
    | UnaryOp o x p =>
      cases o with
      | Not =>
        have h : chk a (mdN m) c x = true := h
        cases m with
        | v => exact se_not (chk_ok a .v c x h)
        | b => exact sx_b (se_not (chk_ok a .v c x h))
        | t => exact st_not (chk_ok a .t c x h)
        | w => exact absurd rfl hm
      | _ => cases h
    | _ => cases h
  | .ite t a b, m, c, e, h => by
    obtain ⟨h0, h⟩ := a2 h
    cases e <;> first
      | (cases h; done)
      | (obtain ⟨h1, h3⟩ := a2 h
         obtain ⟨h1, h2⟩ := a2 h1
         exact snd_of (se_ite (chk_ok t .t c _ h1) (chk_ok a .v c _ h2) (chk_ok b .v c _ h3)) h0)
  | .tup es, m, c, e, h => by
    obtain ⟨h0, h⟩ := a2 h
    cases e <;> first
      | (cases h; done)
      | exact snd_of (se_tup (chks_ok es .v c _ h)) h0
  | .lst es, m, c, e, h => by
    obtain ⟨h0, h⟩ := a2 h
    cases e <;> first
      | (cases h; done)
      | exact snd_of (se_lst (chks_ok es .v c _ h)) h0
  | .ix a b, m, c, e, h => by
    obtain ⟨h0, h⟩ := a2 h
    cases e <;> first
      | (cases h; done)
      | (obtain ⟨h1, h3⟩ := a2 h
         obtain ⟨h1, h2⟩ := a2 h1
         exact snd_of (se_ix (chk_ok a .b c _ h2) (chk_ok b .b c _ h3) (plainIx_ok h1)) h0)
  | .slc a lo hi, m, c, e, h => by
    obtain ⟨h0, h⟩ := a2 h
    cases e with
    | Subscript x s p =>
      cases s with
      | Slice l hh st p2 =>
        cases st with
        | none =>
          obtain ⟨h1, h3⟩ := a2 h
          obtain ⟨h1, h2⟩ := a2 h1
          exact snd_of (se_slc (chk_ok a .b c _ h1) (chko_ok lo c _ h2) (chko_ok hi c _ h3)) h0
        | some _ => cases h
      | _ => cases h
    | _ => cases h
  | .blt k es, m, c, e, h => by
    obtain ⟨h0, h⟩ := a2 h
    cases e with
    | Call f as ks p =>
      match f, as, ks, h with
      | .Name x p2, y :: ys, [], h =>
        obtain ⟨h1, h5⟩ := a2 h
        obtain ⟨h1, h4⟩ := a2 h1
        obtain ⟨h1, h3⟩ := a2 h1
        obtain ⟨h1, h2⟩ := a2 h1
        have e1 := of_decide_eq_true h1
        subst e1
        exact snd_of (se_blt (bltB_ok h2).1 (bltB_ok h2).2 (chks_ok es .b c _ h5) h3 h4) h0
    | _ => cases h
  | .isi k a, m, c, e, h => by
    obtain ⟨h0, h⟩ := a2 h
    cases e with
    | Call f as ks p =>
      match f, as, ks, h with
      | .Name x p2, [y, .Name z p3], [], h =>
        obtain ⟨h1, h6⟩ := a2 h
        obtain ⟨h1, h5⟩ := a2 h1
        obtain ⟨h1, h4⟩ := a2 h1
        obtain ⟨h1, h3⟩ := a2 h1
        obtain ⟨h1, h2⟩ := a2 h1
        have e1 := of_decide_eq_true h1
        have e2 := of_decide_eq_true h2
        subst e1
        subst e2
        exact snd_of (se_isi k (bltB_ok h3).1 (bltB_ok h3).2 (bltB_ok h4).1 (bltB_ok h4).2 (chk_ok a .b c _ h6) h5) h0
    | _ => cases h
  | .bits a, m, c, e, h => by
    obtain ⟨h0, h⟩ := a2 h
    cases e with
    | Call f as ks p =>
      match f, as, ks, h with
      | .Attribute (.Name x p2) k ap, [], [], h =>
        obtain ⟨h1, h3⟩ := a2 h
        obtain ⟨h1, h2⟩ := a2 h1
        have e1 := of_decide_eq_true h1
        subst e1
        exact snd_of (se_bits (chk_ok a .b c _ h3) h2) h0
    | _ => cases h
  | .rg1 k a, m, c, e, h => by
    obtain ⟨h0, h⟩ := a2 h
    cases e with
    | Call f as ks p =>
      match f, as, ks, h with
      | .Name x p2, [.Call (.Name y p3) [z] [] p4], [], h =>
        obtain ⟨h1, h6⟩ := a2 h
        obtain ⟨h1, h5⟩ := a2 h1
        obtain ⟨h1, h4⟩ := a2 h1
        obtain ⟨h1, h3⟩ := a2 h1
        obtain ⟨h1, h2⟩ := a2 h1
        have e1 := of_decide_eq_true h1
        have e2 := of_decide_eq_true h2
        subst e1
        subst e2
        cases k with
        | false => exact snd_of (se_lrg1 (bltB_ok h4).1 (bltB_ok h4).2 (bltB_ok h3).1 (bltB_ok h3).2 (chk_ok a .v c _ h6) h5) h0
        | true => exact snd_of (se_trg1 (bltB_ok h4).1 (bltB_ok h4).2 (bltB_ok h3).1 (bltB_ok h3).2 (chk_ok a .v c _ h6) h5) h0
    | _ => cases h
  | .rg2 k a b, m, c, e, h => by
    obtain ⟨h0, h⟩ := a2 h
    cases e with
    | Call f as ks p =>
      match f, as, ks, h with
      | .Name x p2, [.Call (.Name y p3) [z, w] [] p4], [], h =>
        obtain ⟨h1, h8⟩ := a2 h
        obtain ⟨h1, h7⟩ := a2 h1
        obtain ⟨h1, h6⟩ := a2 h1
        obtain ⟨h1, h5⟩ := a2 h1
        obtain ⟨h1, h4⟩ := a2 h1
        obtain ⟨h1, h3⟩ := a2 h1
        obtain ⟨h1, h2⟩ := a2 h1
        have e1 := of_decide_eq_true h1
        have e2 := of_decide_eq_true h2
        subst e1
        subst e2
        cases k with
        | false => exact snd_of (se_lrg2 (bltB_ok h4).1 (bltB_ok h4).2 (bltB_ok h3).1 (bltB_ok h3).2 (chk_ok a .v c _ h7) (chk_ok b .v c _ h8) h5 h6) h0
        | true => exact snd_of (se_trg2 (bltB_ok h4).1 (bltB_ok h4).2 (bltB_ok h3).1 (bltB_ok h3).2 (chk_ok a .v c _ h7) (chk_ok b .v c _ h8) h5 h6) h0
    | _ => cases h
  | .trev a, m, c, e, h => by
    obtain ⟨h0, h⟩ := a2 h
    cases e with
    | Call f as ks p =>
      match f, as, ks, h with
      | .Name x p2, [.Call (.Name y p3) [z] [] p4], [], h =>
        obtain ⟨h1, h6⟩ := a2 h
        obtain ⟨h1, h5⟩ := a2 h1
        obtain ⟨h1, h4⟩ := a2 h1
        obtain ⟨h1, h3⟩ := a2 h1
        obtain ⟨h1, h2⟩ := a2 h1
        have e1 := of_decide_eq_true h1
        have e2 := of_decide_eq_true h2
        subst e1
        subst e2
        exact snd_of (se_trev (bltB_ok h4).1 (bltB_ok h4).2 (bltB_ok h3).1 (bltB_ok h3).2 (chk_ok a .b c _ h6) h5) h0
    | _ => cases h
  | .lset a, m, c, e, h => by
    obtain ⟨h0, h⟩ := a2 h
    cases e with
    | Call f as ks p =>
      match f, as, ks, h with
      | .Name x p2, [.Call (.Name y p3) [z] [] p4], [], h =>
        obtain ⟨h1, h6⟩ := a2 h
        obtain ⟨h1, h5⟩ := a2 h1
        obtain ⟨h1, h4⟩ := a2 h1
        obtain ⟨h1, h3⟩ := a2 h1
        obtain ⟨h1, h2⟩ := a2 h1
        have e1 := of_decide_eq_true h1
        have e2 := of_decide_eq_true h2
        subst e1
        subst e2
        exact snd_of (se_lenset2 (bltB_ok h3).1 (bltB_ok h3).2 (bltB_ok h4).1 (bltB_ok h4).2 (chk_ok a .b c _ h6) h5) h0
    | _ => cases h
  | .sset a, m, c, e, h => by
    obtain ⟨h0, h⟩ := a2 h
    cases e with
    | Call f as ks p =>
      match f, as, ks, h with
      | .Name x p2, [.Call (.Name y p3) [z] [] p4], [], h =>
        obtain ⟨h1, h6⟩ := a2 h
        obtain ⟨h1, h5⟩ := a2 h1
        obtain ⟨h1, h4⟩ := a2 h1
        obtain ⟨h1, h3⟩ := a2 h1
        obtain ⟨h1, h2⟩ := a2 h1
        have e1 := of_decide_eq_true h1
        have e2 := of_decide_eq_true h2
        subst e1
        subst e2
        exact snd_of (se_sset (bltB_ok h3).1 (bltB_ok h3).2 (bltB_ok h4).1 (bltB_ok h4).2 (chk_ok a .b c _ h6) h5) h0
    | _ => cases h
  | .dnil, m, c, e, h => by
    obtain ⟨h0, h⟩ := a2 h
    cases e with
    | Dict ks vs p =>
      match ks, vs, h with
      | [], [], h => exact snd_of se_dnil h0
    | _ => cases h
  | .idx a b, m, c, e, h => by
    obtain ⟨h0, h⟩ := a2 h
    cases e with
    | Call f as ks p =>
      match f, as, ks, h with
      | .Attribute (.Name x p2) k ap, [y], [], h =>
        obtain ⟨h1, h5⟩ := a2 h
        obtain ⟨h1, h4⟩ := a2 h1
        obtain ⟨h1, h3⟩ := a2 h1
        obtain ⟨h1, h2⟩ := a2 h1
        have e1 := of_decide_eq_true h1
        subst e1
        exact snd_of (se_idx (chk_ok a .b c _ h4) (chk_ok b .b c _ h5) h3 h2) h0
    | _ => cases h
  | .dc own t it cond k v, m, c, e, h => by
    obtain ⟨h0, h⟩ := a2 h
    cases e with
    | DictComp x y gs scope p =>
      match gs, h with
      | [⟨tg, iter, ifs, 0⟩], h =>
        obtain ⟨h1, h8⟩ := a2 h
        obtain ⟨h1, h7⟩ := a2 h1
        obtain ⟨h1, h6⟩ := a2 h1
        obtain ⟨h1, h5⟩ := a2 h1
        obtain ⟨h1, h4⟩ := a2 h1
        obtain ⟨h1, h3⟩ := a2 h1
        obtain ⟨h1, h2⟩ := a2 h1
        have ow := ownN_snd c own
        have := se_dc (pos := p) true (chki_ok it true c tg _ h5) (blkB_ok h2) (chkG_ok t _ _ h4) (by rw [ow]; exact slB_ok h3) (chkc_ok cond _ _ h6) (chk_ok k .v _ _ h7) (chk_ok v .v _ _ h8) (notSet_fold h1)
        rw [ow] at this
        exact snd_of this h0
    | _ => cases h
  | .chain a op b r, m, c, e, h => by
    obtain ⟨h0, h⟩ := a2 h
    have hm : m ≠ .w := of_decide_eq_true h0
    cases e with
    | Compare x os ys p =>
      match os, ys, h with
      | o :: o2 :: os, y :: y2 :: ys, h =>
        obtain ⟨h1, h4⟩ := a2 h
        obtain ⟨h1, h3⟩ := a2 h1
        obtain ⟨h1, h2⟩ := a2 h1
        have := of_decide_eq_true h1
        subst this
        have ha := chk_ok a .b c _ h2
        have hb := chk_ok b .b c _ h3
        obtain ⟨hr, hl⟩ := chkch_ok r c _ _ h4
        have hl2 : lastMarks (op :: o2 :: os) (y :: y2 :: ys) = false := hl
        cases m with
        | v => exact se_chain ha (jc_link hb hr) hl2
        | b => exact sx_b (se_chain ha (jc_link hb hr) hl2)
        | t => exact st_chain ha (jc_link hb hr) hl2
        | w => exact absurd rfl hm
    | _ => cases h
  | .call g es, m, c, e, h => by
    obtain ⟨h0, h⟩ := a2 h
    cases e with
    | Call f as ks p =>
      match f, as, ks, h with
      | .Name x p2, y :: ys, [], h =>
        obtain ⟨h1, h6⟩ := a2 h
        obtain ⟨h1, h5⟩ := a2 h1
        obtain ⟨h1, h4⟩ := a2 h1
        obtain ⟨h1, h3⟩ := a2 h1
        obtain ⟨h1, h2⟩ := a2 h1
        have e1 := of_decide_eq_true h1
        subst e1
        exact snd_of (se_call (of_decide_eq_true h2) (glB_ok h3).1 (glB_ok h3).2 (chks_ok es .v c _ h6) h4 h5) h0
    | _ => cases h
  | .lent g es, m, c, e, h => by
    obtain ⟨h0, h⟩ := a2 h
    cases e with
    | Call f as ks p =>
      match f, as, ks, h with
      | .Name x p2, y :: ys, [], h =>
        obtain ⟨h1, h6⟩ := a2 h
        obtain ⟨h1, h5⟩ := a2 h1
        obtain ⟨h1, h4⟩ := a2 h1
        obtain ⟨h1, h3⟩ := a2 h1
        obtain ⟨h1, h2⟩ := a2 h1
        have e1 := of_decide_eq_true h1
        subst e1
        exact snd_of (se_lent (of_decide_eq_true h2) (glB_ok h3).1 (glB_ok h3).2 (chks_ok es .b c _ h6) h4 h5) h0
    | _ => cases h
  | .lc own t it cond elt, m, c, e, h => by
    obtain ⟨h0, h⟩ := a2 h
    cases e with
    | ListComp x gs scope p =>
      match gs, h with
      | [⟨tg, iter, ifs, 0⟩], h =>
        obtain ⟨h1, h7⟩ := a2 h
        obtain ⟨h1, h6⟩ := a2 h1
        obtain ⟨h1, h5⟩ := a2 h1
        obtain ⟨h1, h4⟩ := a2 h1
        obtain ⟨h1, h3⟩ := a2 h1
        obtain ⟨h1, h2⟩ := a2 h1
        have ow := ownN_snd c own
        have := se_lc (pos := p) true (chki_ok it true c tg _ h5) (blkB_ok h2) (chkG_ok t _ _ h4) (by rw [ow]; exact slB_ok h3) (chkc_ok cond _ _ h6) (chk_ok elt .v _ _ h7) (notSet_fold h1)
        rw [ow] at this
        exact snd_of this h0
    | _ => cases h
theorem chkch_ok : ∀ (x : Ch) (c : Ctx) (os : List CmpOp) (es : List Expr), chkch x c os es = true → JC c os es (evch x) ∧ lastMarks os es = false
  | .last op b, c, os, es, h => by
    match os, es, h with
    | [o], [y], h =>
      obtain ⟨h9, h3⟩ := a2 h
      obtain ⟨h1, h2⟩ := a2 h9
      have := of_decide_eq_true h1
      subst this
      exact ⟨jc_last (chk_ok b .b c _ h3), notSet_mark op h2⟩
  | .link op b r, c, os, es, h => by
    match os, es, h with
    | o :: o2 :: os, y :: y2 :: ys, h =>
      obtain ⟨h9, h3⟩ := a2 h
      obtain ⟨h1, h2⟩ := a2 h9
      have := of_decide_eq_true h1
      subst this
      obtain ⟨hr, hl⟩ := chkch_ok r c _ _ h3
      exact ⟨jc_link (chk_ok b .b c _ h2) hr, hl⟩
theorem chks_ok : ∀ (x : Es) (m : Md) (c : Ctx) (e : List Expr), chks x m c e = true → SndL m c e (evs x)
  | .nil, m, c, e, h => by
    cases e with
    | nil => cases m <;> first | exact trivial | exact ss_nil fun _ _ _ => .nil
    | cons _ _ => cases h
  | .cons a as, m, c, e, h => by
    cases e with
    | nil => cases h
    | cons e es =>
      obtain ⟨h9, h3⟩ := a2 h
      obtain ⟨h1, h2⟩ := a2 h9
      have ha := chk_ok a m c e h2
      have hs := chks_ok as m c es h3
      cases m with
      | v => exact ses_cons ha hs h1
      | b => exact sbs_cons ha hs h1
      | t => exact trivial
      | w => exact trivial
theorem chko_ok : ∀ (x : Eo) (c : Ctx) (e : Option Expr), chko x c e = true → SO c e (evo x)
  | .none, c, e, h => by
    cases e with
    | none => exact so_none
    | some _ => cases h
  | .some a, c, e, h => by
    cases e with
    | none => cases h
    | some e => exact so_some (chk_ok a .v c e h)
theorem chkc_ok : ∀ (x : Eo) (c : Ctx) (e : List Expr), chkc x c e = true → STs c e (evc x)
  | .none, c, e, h => by
    cases e with
    | nil => exact sts_nil
    | cons _ _ => cases h
  | .some a, c, e, h => by
    match e, h with
    | [e], h => exact sts_one (chk_ok a .t c e h)
theorem chki_ok : ∀ (x : It) (bor : Bool) (c : Ctx) (tg e : Expr), chki x bor c tg e = true → SI bor c tg e (evi x)
  | .val a, bor, c, tg, e, h => by
    have ha := chk_ok a (mB bor) c e h
    exact si_val bor (by cases bor <;> exact ha)
  | .rev a, bor, c, tg, e, h => by
    cases e with
    | Call f as ks p =>
      match f, as, ks, h with
      | .Name x p2, [y], [], h =>
        obtain ⟨h1, h4⟩ := a2 h
        obtain ⟨h1, h3⟩ := a2 h1
        obtain ⟨h1, h2⟩ := a2 h1
        have e1 := of_decide_eq_true h1
        subst e1
        have ha := chk_ok a (mB bor) c y h4
        exact si_rev bor (bltB_ok h2).1 (bltB_ok h2).2 (by cases bor <;> exact ha) h3
    | _ => cases h
  | .enm a, bor, c, tg, e, h => by
    cases e with
    | Call f as ks p =>
      match f, as, ks, tg, h with
      | .Name x p2, [y], [], .Tuple _ _ _, h =>
        obtain ⟨h1, h4⟩ := a2 h
        obtain ⟨h1, h3⟩ := a2 h1
        obtain ⟨h1, h2⟩ := a2 h1
        have e1 := of_decide_eq_true h1
        subst e1
        have ha := chk_ok a (mB bor) c y h4
        exact si_enm bor (bltB_ok h2).1 (bltB_ok h2).2 (by cases bor <;> exact ha) h3
    | _ => cases h
  | .rng1 a, bor, c, tg, e, h => by
    cases e with
    | Call f as ks p =>
      match f, as, ks, h with
      | .Name x p2, [y], [], h =>
        obtain ⟨h1, h4⟩ := a2 h
        obtain ⟨h1, h3⟩ := a2 h1
        obtain ⟨h1, h2⟩ := a2 h1
        have e1 := of_decide_eq_true h1
        subst e1
        have := si_rng1 (tg := tg) (p := p2) (pos := p) bor (bltB_ok h2).1 (bltB_ok h2).2 (ses_cons (chk_ok a .v c y h4) (ss_nil fun _ _ _ => .nil) h3) h3
        exact si_of_eq this fun Φ ρ => by
          show _ = (ev a Φ ρ >>= fun x => rng [x])
          cases ev a Φ ρ <;> rfl
    | _ => cases h
  | .rng2 a b, bor, c, tg, e, h => by
    cases e with
    | Call f as ks p =>
      match f, as, ks, h with
      | .Name x p2, [y, z], [], h =>
        obtain ⟨h1, h6⟩ := a2 h
        obtain ⟨h1, h5⟩ := a2 h1
        obtain ⟨h1, h4⟩ := a2 h1
        obtain ⟨h1, h3⟩ := a2 h1
        obtain ⟨h1, h2⟩ := a2 h1
        have e1 := of_decide_eq_true h1
        subst e1
        have := si_rng2 (tg := tg) (p := p2) (pos := p) bor (bltB_ok h2).1 (bltB_ok h2).2 (ses_cons (chk_ok a .v c y h5) (ses_cons (chk_ok b .v c z h6) (ss_nil fun _ _ _ => .nil) h4) h3) h3 h4
        exact si_of_eq this fun Φ ρ => by
          show _ = (ev a Φ ρ >>= fun x => ev b Φ ρ >>= fun y => rng [x, y])
          cases ev a Φ ρ <;> cases ev b Φ ρ <;> rfl
    | _ => cases h
  | .rng3 a b d, bor, c, tg, e, h => by
    cases e with
    | Call f as ks p =>
      match f, as, ks, h with
      | .Name x p2, [y, z, u], [], h =>
        obtain ⟨h1, h8⟩ := a2 h
        obtain ⟨h1, h7⟩ := a2 h1
        obtain ⟨h1, h6⟩ := a2 h1
        obtain ⟨h1, h5⟩ := a2 h1
        obtain ⟨h1, h4⟩ := a2 h1
        obtain ⟨h1, h3⟩ := a2 h1
        obtain ⟨h1, h2⟩ := a2 h1
        have e1 := of_decide_eq_true h1
        subst e1
        have := si_rng3 (tg := tg) (p := p2) (pos := p) bor (bltB_ok h2).1 (bltB_ok h2).2 (ses_cons (chk_ok a .v c y h6) (ses_cons (chk_ok b .v c z h7) (ses_cons (chk_ok d .v c u h8) (ss_nil fun _ _ _ => .nil) h5) h4) h3) h3 h4 h5
        exact si_of_eq this fun Φ ρ => by
          show _ = (ev a Φ ρ >>= fun x => ev b Φ ρ >>= fun y => ev d Φ ρ >>= fun z => rng [x, y, z])
          cases ev a Φ ρ <;> cases ev b Φ ρ <;> cases ev d Φ ρ <;> rfl
    | _ => cases h
end
end Pv

end
section
namespace Pv
open PySem PySem.Spec PyProof.Rows L2

/-! ### statements -/
mutual
inductive S where
  | pass | brk | cont
  | ret (e : E) | expr (e : E)
  | ifs (t : E) (a b : Ss)
  | set (i : Nat) (is : List Nat) (e : E)
  | setF (i : Nat) (is : List Nat) (e : E)
  | asg (is : List Nat) (t : Tg) (e : E)
  | fors (is : List Nat) (t : Tg) (it : It) (b : Ss)
  | whl (t : E) (b : Ss)
  | app (i : Nat) (is : List Nat) (e : E)
  | ext (i : Nat) (is : List Nat) (e : E)
  | rem (i : Nat) (is : List Nat) (e : E)
  | sto (i : Nat) (is : List Nat) (k e : E)
  | setD (i : Nat) (is : List Nat) (e : E)
  | stoD (i : Nat) (is : List Nat) (k e : E)
  | rais (x : Str)
inductive Ss where
  | nil | cons (s : S) (ss : Ss)
end
mutual
def ex : S → EvS
  | .pass => fun _ ρ => .nx ρ
  | .brk => fun _ ρ => .bk ρ
  | .cont => fun _ ρ => .ct ρ
  | .ret e => fun Φ ρ => onE (ev e Φ (clr ρ)) ρ .rt
  | .expr e => fun Φ ρ => onE (ev e Φ ρ) ρ fun _ => .nx ρ
  | .ifs t a b => fun Φ ρ => onE (ev t Φ ρ) ρ fun d => match d with | .bool k => if k then exs a Φ ρ else exs b Φ ρ | _ => .st
  | .set i is e => fun Φ ρ => onE (ev e Φ (dis is ρ)) (dis is ρ) fun d => .nx ((dis is ρ).set i (some (false, d)))
  | .setF i is e => fun Φ ρ => stF i (ev e Φ (dis is ρ)) (dis is ρ)
  | .asg is t e => fun Φ ρ => onE (ev e Φ (dis is ρ)) (dis is ρ) fun d => asgS t d (dis is ρ) .nx
  | .fors is t it b => fun Φ ρ => onE (evi it Φ (dis is ρ)) (dis is ρ) fun ds => forL t (exs b Φ) ds (dis is ρ)
  | .whl t b => fun Φ ρ => whileN (ev t Φ) (exs b Φ) FUEL ρ
  | .app i is e => fun Φ ρ => apS i (dis is ρ) (ev e Φ (dis is ρ))
  | .ext i is e => fun Φ ρ => exS i (dis is ρ) (ev e Φ (dis is ρ))
  | .rem i is e => fun Φ ρ => remS i (dis is ρ) (ev e Φ (dis is ρ))
  | .sto i is k e => fun Φ ρ => setS i (dis is ρ) (ev e Φ (dis is ρ)) (ev k Φ (dis is ρ))
  | .setD i is e => fun Φ ρ => stD i (ev e Φ (dis is ρ)) (dis is ρ)
  | .stoD i is k e => fun Φ ρ => setSD i (dis is ρ) (ev e Φ (dis is ρ)) (ev k Φ (dis is ρ))
  | .rais x => fun _ ρ => .ex x ρ
def exs : Ss → EvS
  | .nil => fun _ ρ => .nx ρ
  | .cons s ss => fun Φ ρ => (ex s Φ ρ).seq (exs ss Φ)
end

def notLc : Expr → Bool
  | .ListComp .. => false
  | .SetComp .. => false
  | .DictComp .. => false
  | _ => true
theorem notLc_sw {e : Expr} (h : notLc e = true) (t : Option Expr) (l : Nat) (env : PySem.Env) : swapsWith e t l env = pure false := by
  cases e <;> first
    | (cases h; done)
    | rfl
def swL (c : Ctx) (t : Str) (tp vp : Pos) (scope : Scope) : Bool :=
  (if c.sc.kind.isAnnotationScope then ScopeKind.function else c.sc.kind) == .function && c.sc.names.lookup t == some .local && tp.line == vp.line && !(scope.names.any fun (n, k) => n == t && (k == .local || k == .cell))
theorem swL_eq {c : Ctx} {t : Str} {tp vp : Pos} {scope : Scope} {elt : Expr} {gs : List Comprehension} {l : Nat} : ∀ env : PySem.Env, env.scope = c.sc → swapsWith (.ListComp elt gs scope vp) (some (.Name t tp)) l env = pure (swL c t tp vp scope) := fun env h => by
  unfold swL
  rw [← h]
  rfl
def isTupE : Expr → Bool
  | .Tuple .. => true
  | .List .. => true
  | _ => false
theorem notTup_ws {tg e : Expr} (h : isTupE e = false) : ∀ env : PySem.Env, swappedStores [tg] e env = pure none := fun env => by
  cases e <;> first
    | (cases h; done)
    | (cases tg <;> rfl)
def notNameT : Expr → Bool
  | .Tuple .. => true
  | _ => false
theorem sole_sw {tg e : Expr} (h2 : notLc e = true) (l : Nat) (env : PySem.Env) : swapsWithSole [tg] e l env = pure false := notLc_sw h2 _ _ _
theorem notName_sw {tg e : Expr} (h : notNameT tg = true) (h2 : notLc e = true) (l : Nat) (env : PySem.Env) : swapsWithSole [tg] e l env = pure false := notLc_sw h2 _ _ _
/-! expressions that give a new list -/
def chkF (x : E) (c : Ctx) (e : Expr) : Bool := match x with
  | .lst es => match e with
    | .List xs _ => chks es .v c xs
    | _ => false
  | .bin op a b => match e with
    | .BinOp x o y _ => decide (op = o) && chk a .b c x && chk b .b c y
    | _ => false
  | .blt .list es => match e with
    | .Call (.Name x _) (y :: ys) [] _ => decide (x = ("list" : Str)) && bltB c x && notStar y && ys.all notStar && chks es .b c (y :: ys)
    | _ => false
  | .lc own t it cond elt => match e with
    | .ListComp x [⟨tg, iter, ifs, 0⟩] scope _ => notSet iter && blkB c.N c.sc scope (ownN c own) && slB t own && chkG t (c.blk scope) tg && chki it true c tg iter && chkc cond (c.blk scope) ifs && chk elt .v (c.blk scope) x
    | _ => false
  | _ => false
theorem chkF_ok (x : E) (c : Ctx) (e : Expr) (h : chkF x c e = true) : SF c e (ev x) := by
  cases x <;> first
    | (cases h; done)
    | skip
  case lst es =>
    cases e <;> first
      | (cases h; done)
      | exact sf_lst (chks_ok es .v c _ h)
  case bin op a b =>
    cases e <;> first
      | (cases h; done)
      | (obtain ⟨h1, h3⟩ := a2 h
         obtain ⟨h1, h2⟩ := a2 h1
         have := of_decide_eq_true h1
         subst this
         exact sf_bin (chk_ok a .b c _ h2) (chk_ok b .b c _ h3))
  case blt k es =>
    cases k <;> first
      | (cases h; done)
      | skip
    cases e with
    | Call f as ks p =>
      match f, as, ks, h with
      | .Name x p2, y :: ys, [], h =>
        obtain ⟨h1, h5⟩ := a2 h
        obtain ⟨h1, h4⟩ := a2 h1
        obtain ⟨h1, h3⟩ := a2 h1
        obtain ⟨h1, h2⟩ := a2 h1
        have e1 := of_decide_eq_true h1
        subst e1
        exact sf_list (bltB_ok h2).1 (bltB_ok h2).2 (chks_ok es .b c _ h5) h3 h4
    | _ => cases h
  case lc own t it cond elt =>
    cases e with
    | ListComp x gs scope p =>
      match gs, h with
      | [⟨tg, iter, ifs, 0⟩], h =>
        obtain ⟨h1, h7⟩ := a2 h
        obtain ⟨h1, h6⟩ := a2 h1
        obtain ⟨h1, h5⟩ := a2 h1
        obtain ⟨h1, h4⟩ := a2 h1
        obtain ⟨h1, h3⟩ := a2 h1
        obtain ⟨h1, h2⟩ := a2 h1
        have ow := ownN_snd c own
        have := sf_lc (pos := p) true (chki_ok it true c tg _ h5) (blkB_ok h2) (chkG_ok t _ _ h4) (by rw [ow]; exact slB_ok h3) (chkc_ok cond _ _ h6) (chk_ok elt .v _ _ h7) (notSet_fold h1)
        rw [ow] at this
        exact this
    | _ => cases h
theorem chkF_lc {x : E} {c : Ctx} {y : Expr} {gs : List Comprehension} {scope : Scope} {p : Pos} (h : chkF x c (.ListComp y gs scope p) = true) : ∃ own t it cond elt, x = .lc own t it cond elt := by
  cases x with
  | lc own t it cond elt => exact ⟨_, _, _, _, _, rfl⟩
  | blt k es => cases k <;> cases h
  | _ => cases h
def swD (c : Ctx) (t : Str) (tp vp : Pos) (scope : Scope) : Bool := swL c t tp vp scope
theorem swD_eq {c : Ctx} {t : Str} {tp vp : Pos} {scope : Scope} {kx vx : Expr} {gs : List Comprehension} {l : Nat} : ∀ env : PySem.Env, env.scope = c.sc → swapsWith (.DictComp kx vx gs scope vp) (some (.Name t tp)) l env = pure (swD c t tp vp scope) := fun env h => by
  unfold swD swL
  rw [← h]
  rfl
/-! expressions that give a new dict -/
def chkFd (x : E) (c : Ctx) (e : Expr) : Bool := match x with
  | .dnil => match e with
    | .Dict [] [] _ => true
    | _ => false
  | .dc own t it cond k v => match e with
    | .DictComp x y [⟨tg, iter, ifs, 0⟩] scope _ => notSet iter && blkB c.N c.sc scope (ownN c own) && slB t own && chkG t (c.blk scope) tg && chki it true c tg iter && chkc cond (c.blk scope) ifs && chk k .v (c.blk scope) x && chk v .v (c.blk scope) y
    | _ => false
  | _ => false
theorem chkFd_ok (x : E) (c : Ctx) (e : Expr) (h : chkFd x c e = true) : SFd c e (ev x) := by
  cases x <;> first
    | (cases h; done)
    | skip
  case dnil =>
    cases e with
    | Dict ks vs p =>
      match ks, vs, h with
      | [], [], h => exact sfd_nil
    | _ => cases h
  case dc own t it cond k v =>
    cases e with
    | DictComp x y gs scope p =>
      match gs, h with
      | [⟨tg, iter, ifs, 0⟩], h =>
        obtain ⟨h1, h8⟩ := a2 h
        obtain ⟨h1, h7⟩ := a2 h1
        obtain ⟨h1, h6⟩ := a2 h1
        obtain ⟨h1, h5⟩ := a2 h1
        obtain ⟨h1, h4⟩ := a2 h1
        obtain ⟨h1, h3⟩ := a2 h1
        obtain ⟨h1, h2⟩ := a2 h1
        have ow := ownN_snd c own
        have := sfd_dc (pos := p) true (chki_ok it true c tg _ h5) (blkB_ok h2) (chkG_ok t _ _ h4) (by rw [ow]; exact slB_ok h3) (chkc_ok cond _ _ h6) (chk_ok k .v _ _ h7) (chk_ok v .v _ _ h8) (notSet_fold h1)
        rw [ow] at this
        exact this
    | _ => cases h
theorem chkFd_dc {x : E} {c : Ctx} {y z : Expr} {gs : List Comprehension} {scope : Scope} {p : Pos} (h : chkFd x c (.DictComp y z gs scope p) = true) : ∃ own t it cond k v, x = .dc own t it cond k v := by
  cases x with
  | dc own t it cond k v => exact ⟨_, _, _, _, _, _, rfl⟩
  | _ => cases h
mutual
def chS : S → Ctx → Stmt → Bool
  | .pass, _, s => match s with
    | .Pass _ => true
    | _ => false
  | .brk, _, s => match s with
    | .Break _ => true
    | _ => false
  | .cont, _, s => match s with
    | .Continue _ => true
    | _ => false
  | .ret e, c, s => match s with
    | .Return (some x) _ => chk e .v c x
    | _ => false
  | .expr e, c, s => match s with
    | .Expr x _ => notLc x && chk e .v c x
    | _ => false
  | .rais x, c, s => match s with
    | .Raise (some (.Call (.Name y _) [] [] _)) none _ => decide (y = x) && decide (x ∈ c.exc) && decide (c.sc.names.lookup x = some .globalImplicit) && !(x == ("__debug__" : Str))
    | _ => false
  | .ifs t a b, c, s => match s with
    | .If x y z _ => chk t .t c x && chSs a c y && chSs b c z
    | _ => false
  | .set i is e, c, s => match s with
    | .Assign [.Name x _] v _ => decide (c.N[i]? = some x) && locB c x && notLc v && chk e .v c v
    | _ => false
  | .setF i is e, c, s => match s with
    | .Assign [.Name x tp] v _ => decide (c.N[i]? = some x) && locB c x && chkF e c v && (match v with
      | .ListComp _ _ scope vp => true
      | _ => notLc v)
    | _ => false
  | .asg is t e, c, s => match s with
    | .Assign [tg] v _ => notNameT tg && !isTupE v && notLc v && chk e .v c v && chkG t c tg
    | _ => false
  | .fors is t it b, c, s => match s with
    | .For tg iter body [] _ => notSet iter && chki it false c tg iter && chkG t c tg && chSs b c body
    | _ => false
  | .whl t b, c, s => match s with
    | .While x body [] _ => chk t .t c x && chSs b c body
    | _ => false
  | .app i is e, c, s => match s with
    | .Expr (.Call (.Attribute (.Name x _) m ap) [v] [] cp) _ => decide (m = ("append" : Str)) && nmB c i x && (ap.endLine == cp.line) && notStar v && chk e .v c v
    | _ => false
  | .ext i is e, c, s => match s with
    | .Expr (.Call (.Attribute (.Name x _) m ap) [v] [] cp) _ => decide (m = ("extend" : Str)) && nmB c i x && (ap.endLine == cp.line) && notStar v && chk e .v c v
    | _ => false
  | .rem i is e, c, s => match s with
    | .Expr (.Call (.Attribute (.Name x _) m ap) [v] [] cp) _ => decide (m = ("remove" : Str)) && nmB c i x && (ap.endLine == cp.line) && notStar v && chk e .v c v
    | _ => false
  | .sto i is k e, c, s => match s with
    | .Assign [.Subscript (.Name x _) j _] v _ => nmB c i x && notLc v && plainIx j && !isTupE v && chk k .v c j && chk e .v c v
    | _ => false
  | .setD i is e, c, s => match s with
    | .Assign [.Name x tp] v _ => decide (c.N[i]? = some x) && locB c x && chkFd e c v && (match v with
      | .DictComp _ _ _ scope vp => true
      | _ => notLc v)
    | _ => false
  | .stoD i is k e, c, s => match s with
    | .Assign [.Subscript (.Name x _) j _] v _ => nmB c i x && notLc v && chk k .v c j && chk e .v c v
    | _ => false
def chSs : Ss → Ctx → List Stmt → Bool
  | .nil, _, s => match s with
    | [] => true
    | _ => false
  | .cons a as, c, s => match s with
    | [] => false
    | s :: ss => chS a c s && chSs as c ss
end
mutual
theorem chS_ok : ∀ (x : S) (c : Ctx) (s : Stmt), chS x c s = true → SS c s (ex x)
  | .pass, c, s, h => by
    cases s <;> first
      | (cases h; done)
      | exact s_pass
  | .brk, c, s, h => by
    cases s <;> first
      | (cases h; done)
      | exact s_brk
  | .cont, c, s, h => by
    cases s <;> first
      | (cases h; done)
      | exact s_cont
  | .ret e, c, s, h => by
    cases s with
    | Return v p =>
      cases v with
      | none => cases h
      | some v => exact s_ret (chk_ok e .v c v h)
    | _ => cases h
  | .expr e, c, s, h => by
    cases s <;> first
      | (cases h; done)
      | exact s_expr (chk_ok e .v c _ (a2 h).2) fun env _ => notLc_sw (a2 h).1 _ _ _
  | .rais x, c, s, h => by
    unfold chS at h
    split at h
    · obtain ⟨h1, h4⟩ := a2 h
      obtain ⟨h1, h3⟩ := a2 h1
      obtain ⟨h1, h2⟩ := a2 h1
      have e := of_decide_eq_true h1
      subst e
      exact s_raise (of_decide_eq_true h2) (of_decide_eq_true h3) (by simpa using h4)
    · cases h
  | .ifs t a b, c, s, h => by
    cases s <;> first
      | (cases h; done)
      | (obtain ⟨h9, h3⟩ := a2 h
         obtain ⟨h1, h2⟩ := a2 h9
         exact s_if (chk_ok t .t c _ h1) (chSs_ok a c _ h2) (chSs_ok b c _ h3))
  | .set i is e, c, s, h => by
    cases s with
    | Assign ts v p =>
      match ts, h with
      | [.Name x tp], h =>
        obtain ⟨h9, h4⟩ := a2 h
        obtain ⟨h8, h3⟩ := a2 h9
        obtain ⟨h1, h2⟩ := a2 h8
        exact s_set is (of_decide_eq_true h1) (locB_ok h2) (chk_ok e .v c _ h4) fun env _ => notLc_sw h3 _ _ _
    | _ => cases h
  | .setF i is e, c, s, h => by
    cases s with
    | Assign ts v p =>
      match ts, h with
      | [.Name x tp], h =>
        obtain ⟨h9, h4⟩ := a2 h
        obtain ⟨h8, h3⟩ := a2 h9
        obtain ⟨h1, h2⟩ := a2 h8
        have hs := of_decide_eq_true h1
        by_cases hl : notLc v = true
        · exact s_setF is hs (locB_ok h2) (chkF_ok e c v h3) fun env _ => notLc_sw hl _ _ _
        · cases v with
          | ListComp y gs scope vp =>
            by_cases hw : swL c x tp vp scope = true
            · obtain ⟨own, t, it, cond, elt, rfl⟩ := chkF_lc h3
              match gs, h3 with
              | [⟨tg, iter, ifs, 0⟩], h =>
                obtain ⟨h1, h7⟩ := a2 h
                obtain ⟨h1, h6⟩ := a2 h1
                obtain ⟨h1, h5⟩ := a2 h1
                obtain ⟨h1, h4⟩ := a2 h1
                obtain ⟨h1, h3⟩ := a2 h1
                obtain ⟨h1, h2⟩ := a2 h1
                have ow := ownN_snd c own
                have hloc : c.sc.names.lookup x = some .local := by
                  have hw2 := hw
                  unfold swL at hw2
                  exact beq_iff_eq.mp (a2 (a2 (a2 hw2).1).1).2
                have := s_setLc (i := i) (pos' := tp) (spos := p) (pos := vp) true is hs hloc (fun env he => by rw [swL_eq env he, hw]) (chki_ok it true c tg _ h5) (blkB_ok h2) (chkG_ok t _ _ h4) (by rw [ow]; exact slB_ok h3) (chkc_ok cond _ _ h6) (chk_ok elt .v _ _ h7) (notSet_fold h1)
                rw [ow] at this
                exact this
            · exact s_setF is hs (locB_ok h2) (chkF_ok e c _ h3) fun env he => by
                rw [swL_eq env he, Bool.eq_false_iff.mpr hw]
          | _ => exact absurd h4 hl
    | _ => cases h
  | .asg is t e, c, s, h => by
    cases s with
    | Assign ts v p =>
      match ts, h with
      | [tg], h =>
        obtain ⟨h9, h5⟩ := a2 h
        obtain ⟨h8, h4⟩ := a2 h9
        obtain ⟨h7, h3⟩ := a2 h8
        obtain ⟨h1, h2⟩ := a2 h7
        have hv : isTupE v = false := by cases q : isTupE v with | false => rfl | true => rw [q] at h2; cases h2
        exact s_asg is (chkG_ok t c tg h5) (chk_ok e .v c v h4) (fun env _ => notName_sw h1 h3 _ _) (fun env _ => notTup_ws hv env) (by cases tg <;> first | (cases h1; done) | rfl)
    | _ => cases h
  | .fors is t it b, c, s, h => by
    cases s with
    | For tg iter body els p =>
      match els, h with
      | [], h =>
        obtain ⟨h9, h4⟩ := a2 h
        obtain ⟨h8, h3⟩ := a2 h9
        obtain ⟨h1, h2⟩ := a2 h8
        exact s_for is (chki_ok it false c tg iter h2) (chkG_ok t c tg h3) (chSs_ok b c body h4) (notSet_fold h1)
    | _ => cases h
  | .whl t b, c, s, h => by
    cases s with
    | While x body els p =>
      match els, h with
      | [], h =>
        obtain ⟨h1, h2⟩ := a2 h
        exact s_while (chk_ok t .t c x h1) (chSs_ok b c body h2)
    | _ => cases h
  | .app i is e, c, s, h => by
    cases s with
    | Expr y p =>
      match y, h with
      | .Call (.Attribute (.Name x p1) m ap) [v] [] cp, h =>
        obtain ⟨h9, h5⟩ := a2 h
        obtain ⟨h8, h4⟩ := a2 h9
        obtain ⟨h7, h3⟩ := a2 h8
        obtain ⟨h1, h2⟩ := a2 h7
        have e1 := of_decide_eq_true h1
        subst e1
        exact s_append is (nmB_ok h2).1 (nmB_ok h2).2.1 (nmB_ok h2).2.2.1 (nmB_ok h2).2.2.2 (chk_ok e .v c v h5) h4 h3
    | _ => cases h
  | .ext i is e, c, s, h => by
    cases s with
    | Expr y p =>
      match y, h with
      | .Call (.Attribute (.Name x p1) m ap) [v] [] cp, h =>
        obtain ⟨h9, h5⟩ := a2 h
        obtain ⟨h8, h4⟩ := a2 h9
        obtain ⟨h7, h3⟩ := a2 h8
        obtain ⟨h1, h2⟩ := a2 h7
        have e1 := of_decide_eq_true h1
        subst e1
        exact s_extend is (nmB_ok h2).1 (nmB_ok h2).2.1 (nmB_ok h2).2.2.1 (nmB_ok h2).2.2.2 (chk_ok e .v c v h5) h4 h3
    | _ => cases h
  | .rem i is e, c, s, h => by
    cases s with
    | Expr y p =>
      match y, h with
      | .Call (.Attribute (.Name x p1) m ap) [v] [] cp, h =>
        obtain ⟨h9, h5⟩ := a2 h
        obtain ⟨h8, h4⟩ := a2 h9
        obtain ⟨h7, h3⟩ := a2 h8
        obtain ⟨h1, h2⟩ := a2 h7
        have e1 := of_decide_eq_true h1
        subst e1
        exact s_remove is (nmB_ok h2).1 (nmB_ok h2).2.1 (nmB_ok h2).2.2.1 (nmB_ok h2).2.2.2 (chk_ok e .v c v h5) h4 h3
    | _ => cases h
  | .sto i is k e, c, s, h => by
    cases s with
    | Assign ts v p =>
      match ts, h with
      | [.Subscript (.Name x p1) j p2], h =>
        obtain ⟨h10, h6⟩ := a2 h
        obtain ⟨h9, h5⟩ := a2 h10
        obtain ⟨h8, h4⟩ := a2 h9
        obtain ⟨h7, h3⟩ := a2 h8
        obtain ⟨h1, h2⟩ := a2 h7
        exact s_store is (nmB_ok h1).1 (nmB_ok h1).2.1 (nmB_ok h1).2.2.1 (nmB_ok h1).2.2.2 (chk_ok e .v c v h6) (chk_ok k .v c j h5) (fun env => sole_sw h2 _ env) (by cases j <;> first | (cases h3; done) | exact fun _ _ => rfl)
    | _ => cases h
  | .setD i is e, c, s, h => by
    cases s with
    | Assign ts v p =>
      match ts, h with
      | [.Name x tp], h =>
        obtain ⟨h9, h4⟩ := a2 h
        obtain ⟨h8, h3⟩ := a2 h9
        obtain ⟨h1, h2⟩ := a2 h8
        have hs := of_decide_eq_true h1
        by_cases hl : notLc v = true
        · exact s_setD is hs (locB_ok h2) (chkFd_ok e c v h3) fun env _ => notLc_sw hl _ _ _
        · cases v with
          | DictComp y z gs scope vp =>
            by_cases hw : swD c x tp vp scope = true
            · obtain ⟨own, t, it, cond, k, v, rfl⟩ := chkFd_dc h3
              match gs, h3 with
              | [⟨tg, iter, ifs, 0⟩], h =>
                obtain ⟨h1, h8⟩ := a2 h
                obtain ⟨h1, h7⟩ := a2 h1
                obtain ⟨h1, h6⟩ := a2 h1
                obtain ⟨h1, h5⟩ := a2 h1
                obtain ⟨h1, h4⟩ := a2 h1
                obtain ⟨h1, h3⟩ := a2 h1
                obtain ⟨h1, h2⟩ := a2 h1
                have ow := ownN_snd c own
                have hloc : c.sc.names.lookup x = some .local := by
                  have hw2 := hw
                  unfold swD swL at hw2
                  exact beq_iff_eq.mp (a2 (a2 (a2 hw2).1).1).2
                have := s_setDc (i := i) (pos' := tp) (spos := p) (pos := vp) true is hs hloc (fun env he => by rw [swD_eq env he, hw]) (chki_ok it true c tg _ h5) (blkB_ok h2) (chkG_ok t _ _ h4) (by rw [ow]; exact slB_ok h3) (chkc_ok cond _ _ h6) (chk_ok k .v _ _ h7) (chk_ok v .v _ _ h8) (notSet_fold h1)
                rw [ow] at this
                exact this
            · exact s_setD is hs (locB_ok h2) (chkFd_ok e c _ h3) fun env he => by
                rw [swD_eq env he, Bool.eq_false_iff.mpr hw]
          | _ => exact absurd h4 hl
    | _ => cases h
  | .stoD i is k e, c, s, h => by
    cases s with
    | Assign ts v p =>
      match ts, h with
      | [.Subscript (.Name x p1) j p2], h =>
        obtain ⟨h9, h4⟩ := a2 h
        obtain ⟨h8, h3⟩ := a2 h9
        obtain ⟨h1, h2⟩ := a2 h8
        exact s_storeD is (nmB_ok h1).1 (nmB_ok h1).2.1 (nmB_ok h1).2.2.1 (nmB_ok h1).2.2.2 (chk_ok e .v c v h4) (chk_ok k .v c j h3) (fun env => notLc_sw h2 _ _ env)
    | _ => cases h
theorem chSs_ok : ∀ (x : Ss) (c : Ctx) (s : List Stmt), chSs x c s = true → SSs c s (exs x)
  | .nil, c, s, h => by
    cases s with
    | nil => exact sq_nil
    | cons _ _ => cases h
  | .cons a as, c, s, h => by
    cases s with
    | nil => cases h
    | cons s ss =>
      obtain ⟨h1, h2⟩ := a2 h
      exact sq_cons (chS_ok a c s h1) (chSs_ok as c ss h2)
end
end Pv

end
section
namespace Pv
open PySem PySem.Spec PyProof.Rows L2

/-! ### the defs of a text -/
structure Fd where
  nm : Str
  st : Stmt
  ps : List Str
  N : List Str
  body : Ss
abbrev Tab := List Fd
def findT (T : Tab) (f : Str) : Option Fd := T.find? fun d => decide (d.nm = f)
def endR : SR → Res D
  | .rt d => .ok d
  | .nx _ => .ok .none
  | .ex c _ => .ex c
  | _ => .st
def start1 (n : Nat) (ds : List D) : Env := ds.map (fun d => some (false, d)) ++ List.replicate (n - ds.length) none
def runB (np nN : Nat) (b : Ss) (Φ : Calls) (ds : List D) : Res D := if ds.length = np then endR (exs b Φ (start1 nN ds)) else .st
abbrev runF (d : Fd) (Φ : Calls) (ds : List D) : Res D := runB d.ps.length d.N.length d.body Φ ds
def callAt (T : Tab) : Nat → Calls
  | 0 => fun _ _ => .st
  | n + 1 => fun f ds => match findT T f with
    | some d => runF d (callAt T n) ds
    | none => .st
theorem callAt_eq {T : Tab} {n : Nat} {f : Str} {d : Fd} {ds : List D} (h : findT T f = some d) : callAt T (n + 1) f ds = runF d (callAt T n) ds := by
  show (match findT T f with | some d => runF d (callAt T n) ds | none => .st) = _
  rw [h]
/-! what is known of the text behind the top -/
def FnFact (K : PySem.W.Frag) (mg : Str → Option Value) (x : Str) (st : Stmt) (ps : List Str) : Prop := ∃ fa fd, Fun K x x st fa fd ∧ mg x = some (.ref fa) ∧ ∀ us : List Value, us.length = ps.length → bindArgs fd ⟨us, []⟩ = pure (ps.zip us)
theorem fact_mk {K : PySem.W.Frag} {h : Heap} {mg : Str → Option Value} (X : K.In h) (G : h.Ns mainGlobals mg) {x : Str} {st : Stmt} {ps : List Str} {f : Addr} {od an : Option Addr} {sl : Array (Option Value)} {oc kV dc pm cd ct : Value}
    (a : PySem.W.nsIn K mainGlobals x = some (some (.ref f))) (l : K.lookup f = some ⟨oc, od, .func (PySem.W.fnOf x x (defArgs st) (defBody st) (defScope st) .none kV dc pm an cd ct), sl⟩) (c : PySem.W.codeIn K cd x = true) (k : PySem.W.keepIn K (.ref f) = true)
    (b : ∀ (kV doc pm : Value) (an : Option Addr) (cdv ct : Value) (us : List Value), us.length = ps.length → bindArgs (PySem.W.fnOf x x (defArgs st) (defBody st) (defScope st) .none kV doc pm an cdv ct) ⟨us, []⟩ = pure (ps.zip us)) : FnFact K mg x st ps :=
  ⟨f, _, fun_mk l c k, PySem.W.mg_of X G a, b _ _ _ _ _ _⟩
def ExcIn (K : PySem.W.Frag) (x : Str) : Prop := ∃ (C : Addr) (bmB : List Value) (B newId initId : String), PySem.W.nsIn K mainGlobals x = some (some (.ref C)) ∧ PySem.W.keepIn K (.ref C) = true ∧ PySem.W.subIn K (.ref C) (.type "BaseException") = some true ∧ PySem.W.typeIn K (.ref C) = some (.type "type")
  ∧ ExcBaseFacts B newId initId bmB ∧ PySem.W.excIn K C bmB newId = true
theorem exc_in {K : PySem.W.Frag} {x : Str} {C : Addr} {bmB : List Value} {B newId initId : String} (F : ExcBaseFacts B newId initId bmB) (a : PySem.W.nsIn K mainGlobals x = some (some (.ref C))) (k : PySem.W.keepIn K (.ref C) = true) (s : PySem.W.subIn K (.ref C) (.type "BaseException") = some true) (t : PySem.W.typeIn K (.ref C) = some (.type "type"))
    (q : PySem.W.excIn K C bmB newId = true) : ExcIn K x := ⟨C, bmB, B, newId, initId, a, k, s, t, F, q⟩
theorem exc_mk {K : PySem.W.Frag} {h : Heap} {mg : Str → Option Value} (X : K.In h) (G : h.Ns mainGlobals mg) {x : Str} (e : ExcIn K x) : ExcHas K mg x := by
  obtain ⟨C, bmB, B, newId, initId, a, k, s, t, F, q⟩ := e
  exact ⟨C, bmB, B, newId, initId, PySem.W.mg_of X G a, k, s, t, F, q⟩
structure Base where
  blts : List Str
  gl : List (Str × D)
  exc : List Str
def ctxOf (T : Tab) (b : Base) (d : Fd) : Ctx := ⟨d.N, defScope d.st, T.map (·.nm), [], b.gl, b.blts, d.N, b.exc⟩
structure FdOk (T : Tab) (b : Base) (d : Fd) : Prop where
  sc : FnScope d.N d.ps (defScope d.st)
  ck : chSs d.body (ctxOf T b d) (defBody d.st) = true
def AllP (p : Fd → Prop) : Tab → Prop
  | [] => True
  | d :: r => p d ∧ AllP p r
theorem AllP.mem {p : Fd → Prop} : ∀ {T : Tab}, AllP p T → ∀ d ∈ T, p d
  | [], _, d, h => absurd h (by simp)
  | e :: r, h, d, hd => by
    rcases List.mem_cons.mp hd with rfl | hd
    · exact h.1
    · exact AllP.mem h.2 d hd
def AllB (p : Str → Prop) : List Str → Prop
  | [] => True
  | d :: r => p d ∧ AllB p r
theorem AllB.mem {p : Str → Prop} : ∀ {T : List Str}, AllB p T → ∀ d, d ∈ T → p d
  | [], _, d, h => absurd h (by simp)
  | e :: r, h, d, hd => by
    rcases List.mem_cons.mp hd with rfl | hd
    · exact h.1
    · exact AllB.mem h.2 d hd
def AllG (p : Str → D → Prop) : List (Str × D) → Prop
  | [] => True
  | d :: r => p d.1 d.2 ∧ AllG p r
theorem AllG.mem {p : Str → D → Prop} : ∀ {T : List (Str × D)}, AllG p T → ∀ x d, (x, d) ∈ T → p x d
  | [], _, x, d, h => absurd h (by simp)
  | e :: r, h, x, d, hd => by
    rcases List.mem_cons.mp hd with rfl | hd
    · exact h.1
    · exact AllG.mem h.2 x d hd
structure Known (K : PySem.W.Frag) (mg : Str → Option Value) (T : Tab) (b : Base) : Prop where
  fn : ∀ d ∈ T, FnFact K mg d.nm d.st d.ps
  blt : ∀ x, x ∈ b.blts → mg x = none
  gl : ∀ x d, (x, d) ∈ b.gl → ∃ u v, mg x = some u ∧ RelV v u ∧ ∀ H A, Rp K H A v d
  exc : ∀ x, x ∈ b.exc → ExcHas K mg x
section
variable {P : Program} {w : World} {K : PySem.W.Frag} {mg : Str → Option Value} {base : Heap} {T : Tab} {b : Base}
theorem find_mem {f : Str} {d : Fd} (h : findT T f = some d) : d ∈ T ∧ d.nm = f := ⟨List.mem_of_find?_eq_some h, of_decide_eq_true (List.find?_some (p := fun d : Fd => decide (d.nm = f)) h)⟩
theorem slots_start {H : Hp} {A : List Addr} : ∀ {vs : List V} {ds : List D} (k : Nat), RpL K H A vs ds → Slots K H A (vs.map some ++ List.replicate k none) (ds.map (fun d => some (false, d)) ++ List.replicate k none) (List.replicate (ds.length + k) none)
  | _, _, k, .nil => by
    rw [List.map_nil, List.map_nil, List.nil_append, List.nil_append, List.length_nil, Nat.zero_add]
    induction k with
    | zero => exact .nil
    | succ k ih => exact .cons .non ih
  | _, _, k, .cons (ds := ds) h r => by
    rw [List.length_cons, Nat.add_right_comm]
    exact .cons (.shared h) (slots_start k r)
theorem rts_none (n : Nat) : rts (List.replicate n none) = [] := by
  induction n with
  | zero => rfl
  | succ n ih => exact ih
theorem fn_all (hd : ∀ d ∈ T, FdOk T b d) (kn : Known K mg T b) : ∀ (n : Nat) (f : Str) (fa : Addr) (fd : FuncData) (d : Fd), findT T f = some d → Fun K f f d.st fa fd → FnOk P w K mg base (L2.CX P w) n fa fd d.ps (spC K mg (callAt T n) f)
  | 0, f, fa, fd, d, h, F => ⟨fun vs H Q E ⟨A, ds, _, _, z⟩ => z.elim, fun A outer s H args us vs Q E hr he hb hv ⟨A', ds, _, _, z⟩ => z.elim⟩
  | n + 1, f, fa, fd, d, h, F => by
    obtain ⟨hm, hn⟩ := find_mem h
    obtain ⟨hsc, hck⟩ := hd d hm
    refine Fun.okX F hsc (fun vs H Q E hs => ?_) (fun cdv A outer s H vs Q E hr hs => ?_)
    · obtain ⟨A, ds, _, hr, hz⟩ := hs
      rw [callAt_eq h] at hz
      unfold runF runB at hz
      by_cases hl : ds.length = d.ps.length
      · rw [hr.length]; exact hl
      · rw [if_neg hl] at hz; exact hz.elim
    · obtain ⟨A0, ds, hA, hrp, hz⟩ := hs
      rw [callAt_eq h] at hz
      unfold runF runB at hz
      by_cases hl : ds.length = d.ps.length
      case neg => rw [if_neg hl] at hz; exact hz.elim
      rw [if_pos hl] at hz
      refine ⟨_, chSs_ok d.body (ctxOf T b d) (defBody d.st) hck (cxOf (L2.CX P w) P w K mg base d.N f (defScope d.st) fa cdv A outer s H E) (callAt T n) (fun cls dd _ H => E cls dd H)
        ⟨rfl, hsc.nd, rfl, rfl, ?_, kn.blt, kn.gl, fun g hg => ?_, kn.exc, fun x hx => rfl⟩ (takes_of rfl rfl rfl rfl) (passes_of rfl), ?_⟩
      · have := hr.un
        show (A.deeper _).units + 70 < cLine
        omega
      · have hg : g ∈ T.map (·.nm) := hg
        obtain ⟨e, he, rfl⟩ := List.mem_map.mp hg
        have hex : ∃ d', findT T e.nm = some d' := by
          cases q : findT T e.nm with
          | some d' => exact ⟨d', rfl⟩
          | none =>
            have := List.find?_eq_none.mp q e he
            exact absurd (decide_eq_true rfl) this
        obtain ⟨d', hd'⟩ := hex
        obtain ⟨hm', hn'⟩ := find_mem hd'
        obtain ⟨fa', fd', F', hmg, hb'⟩ := kn.fn d' hm'
        rw [hn'] at F' hmg
        exact ⟨n, fa', fd', d'.ps, fn_all hd kn n e.nm fa' fd' d' hd' F', hr, hmg, F'.kp, .all hb'⟩
      · have hO : vs.length = ds.length := hrp.length
        refine ⟨⟨A0, [], H⟩, List.replicate (ds.length + (d.N.length - ds.length)) none, start1 d.N.length ds, ⟨hA, fun _ z => absurd z (by simp)⟩, ⟨⟨?_, fun i j a e _ => ?_⟩, But.refl, fun a ha => ?_⟩, ?_⟩
        · rw [rts_none, List.append_nil]
          unfold L2.start start1
          rw [hO]
          exact slots_start _ hrp
        · rw [List.getElem?_replicate] at e
          split at e <;> cases e
        · exact absurd (List.eq_of_mem_replicate ha) (by simp)
        · show RtS K mg (fun cls dd _ H => E cls dd H) ⟨A0, [], H⟩ _ (exs d.body (callAt T n) (start1 d.N.length ds))
          cases hx : exs d.body (callAt T n) (start1 d.N.length ds) with
          | st => rw [hx] at hz; exact hz.elim
          | bk ρ => rw [hx] at hz; exact hz.elim
          | ct ρ => rw [hx] at hz; exact hz.elim
          | nx ρ =>
            rw [hx] at hz
            exact fun σ H' O hs => hz .non H' (fun b o e => hs.but b o (by simp) e) .non
          | rt r =>
            rw [hx] at hz
            exact fun v H' bt hr => hz v H' (fun b o e => bt b o (by simp) e) hr
          | ex z ρ =>
            rw [hx] at hz
            exact fun C σ H' O hs hm => hz C H' (fun b o e => hs.but b o (by simp) e) hm
/-- the law's own def -/
def spLaw (K : PySem.W.Frag) (m : Nat) : Sp := fun vs H Q _ => ∃ (a : Addr) (ns : List Int), vs = [.ref a] ∧ SqL K H a (ns.map V.int) ∧ ns.length ≤ m ∧ ∀ H', Q (.bl true) H'
theorem rpl_ints {H : Hp} {A : List Addr} : ∀ ns : List Int, RpL K H A (ns.map V.int) (ns.map PyData.int)
  | [] => .nil
  | n :: ns => .cons (.int n) (rpl_ints ns)
theorem law_fn {n m : Nat} {f : Str} {fa : Addr} {fd : FuncData} {d : Fd} (hd : ∀ d ∈ T, FdOk T b d) (kn : Known K mg T b) (h : findT T f = some d) (F : Fun K f f d.st fa fd)
    (law : ∀ ns : List Int, ns.length ≤ m → callAt T n f [.list (ns.map PyData.int)] = .ok (.bool true)) : FnOk P w K mg base (L2.CX P w) n fa fd d.ps (spLaw K m) :=
  (fn_all hd kn n f fa fd d h F).imp fun vs H Q E ⟨a, ns, e, hS, hl, q⟩ => by
    subst e
    refine ⟨[], [.list (ns.map PyData.int)], AOk.nil, .cons (.lst (SqN.of hS) (rpl_ints ns)) .nil, ?_⟩
    rw [law ns hl]
    intro v H' _ hr
    cases hr
    exact q H'
/-- what walk_of asks of the law's def -/
theorem law_headT {n m : Nat} {f : Str} {fa : Addr} {d : Fd} {x : Str} (hd : ∀ d ∈ T, FdOk T b d) (kn : Known K mg T b) (h : findT T f = some d) (hx : d.ps = [x]) (hmg : mg f = some (.ref fa))
    (law : ∀ ns : List Int, ns.length ≤ m → callAt T n f [.list (ns.map PyData.int)] = .ok (.bool true)) :
    ∃ fd : FuncData, (∀ (s : Shared) (u : Value), BindsTo s fd ⟨[u], []⟩ [(x, u)]) ∧ ∀ base : Heap, K.In base → base.Ns mainGlobals mg → FnOk P w K mg base (L2.CX P w) n fa fd [x] (spLaw K m) := by
  obtain ⟨hm, hn⟩ := find_mem h
  obtain ⟨fa', fd, F, hg, hb⟩ := kn.fn d hm
  rw [hn] at F hg
  rw [hg] at hmg
  cases hmg
  refine ⟨fd, fun s u => ?_, fun base _ _ => ?_⟩
  · have := hb [u] (by rw [hx]; rfl)
    rw [hx] at this
    exact .of_eq this
  · rw [← hx]
    exact law_fn hd kn h F law
end
end Pv

end
section
namespace Pv
open PySem

def b__law_all : Ss := (.cons (.set 1 [] (.lst (.cons (.tup .nil) .nil))) (.cons (.fors [] (.var 2) (.rng1 (.var 0)) (.cons (.setF 3 [] (.lst .nil)) (.cons (.fors [] (.var 4) (.val (.var 1)) (.cons (.fors [] (.var 5) (.rng1 (.bin .Add (.blt .len (.cons (.varB 4) .nil)) (.cst (.int 1)))) (.cons (.app 3 [] (.bin .Add (.bin .Add (.slc (.varB 4) .none (.some (.var 5))) (.tup (.cons (.var 2) .nil))) (.slc (.varB 4) (.some (.var 5)) .none))) .nil)) .nil)) (.cons (.set 1 [3] (.var 3)) .nil)))) (.cons (.ret (.var 1)) .nil)))
def b__law_beyond : Ss := (.cons (.set 3 [] (.ix (.varB 1) (.varB 2))) (.cons (.set 4 [] (.slc (.varB 1) (.some (.bin .Add (.varB 2) (.cst (.int 1)))) .none)) (.cons (.set 5 [] (.call "_law_reach" (.cons (.var 0) (.cons (.lst (.cons (.var 3) .nil)) (.cons (.var 4) .nil))))) (.cons (.setF 6 [] (.lst .nil)) (.cons (.fors [] (.tup (.cons (.var 7) (.cons (.var 8) .nil))) (.val (.ix (.varB 0) (.cst (.int 1)))) (.cons (.ifs (.and (.cmp .In (.varB 7) (.varB 5)) (.one (.cmp .In (.varB 8) (.varB 4)))) (.cons (.app 6 [] (.var 8)) .nil) .nil) (.cons (.ifs (.and (.cmp .In (.varB 8) (.varB 5)) (.one (.cmp .In (.varB 7) (.varB 4)))) (.cons (.app 6 [] (.var 7)) .nil) .nil) .nil))) (.cons (.ret (.blt .tuple (.cons (.sset (.varB 6)) .nil))) .nil))))))
def b__law_border : Ss := (.cons (.setF 2 [] (.lst .nil)) (.cons (.fors [] (.tup (.cons (.var 3) (.cons (.var 4) .nil))) (.val (.ix (.varB 0) (.cst (.int 1)))) (.cons (.ifs (.and (.cmp .In (.varB 3) (.varB 1)) (.one (.cmp .NotIn (.varB 4) (.varB 1)))) (.cons (.app 2 [] (.var 3)) .nil) .nil) (.cons (.ifs (.and (.cmp .In (.varB 4) (.varB 1)) (.one (.cmp .NotIn (.varB 3) (.varB 1)))) (.cons (.app 2 [] (.var 4)) .nil) .nil) .nil))) (.cons (.ret (.var 2)) .nil)))
def b__law_branches : Ss := (.cons (.ifs (.or (.not (.isi .tuple (.varB 2))) (.one (.cmp .NotEq (.blt .tuple (.cons (.lc [7] (.var 7) (.val (.varB 2)) .none (.ix (.varB 7) (.cst (.int 0)))) .nil)) (.varB 3)))) (.cons (.ret (.cst (.bool false))) .nil) .nil) (.cons (.fors [] (.tup (.cons (.var 5) (.cons (.var 6) .nil))) (.val (.var 2)) (.cons (.ifs (.or (.cmp .Gt (.blt .len (.cons (.ix (.varB 6) (.cst (.int 0))) .nil)) (.varB 1)) (.one (.cmp .NotEq (.blt .len (.cons (.varB 6) .nil)) (.cst (.int 2))))) (.cons (.ret (.cst (.bool false))) .nil) .nil) (.cons (.ifs (.not (.call "_law_branches" (.cons (.var 0) (.cons (.var 1) (.cons (.ix (.varB 6) (.cst (.int 1))) (.cons (.call "_law_due" (.cons (.var 0) (.cons (.var 4) (.cons (.var 5) (.cons (.ix (.varB 6) (.cst (.int 0))) .nil))))) (.cons (.ix (.varB 6) (.cst (.int 0))) .nil))))))) (.cons (.ret (.cst (.bool false))) .nil) .nil) .nil))) (.cons (.ret (.cst (.bool true))) .nil)))
def b__law_catches : Ss := (.cons (.ifs (.cmp .NotEq (.lc [6] (.var 6) (.val (.varB 1)) (.some (.cmp .Gt (.blt .len (.cons (.varB 6) .nil)) (.varB 3))) (.var 6)) (.lst .nil)) (.cons (.ret (.cst (.bool false))) .nil) .nil) (.cons (.set 4 [] (.rg1 true (.ix (.varB 0) (.cst (.int 0))))) (.cons (.fors [] (.var 5) (.val (.call "_law_walk" (.cons (.var 0) (.cons (.var 1) (.cons (.var 2) .nil))))) (.cons (.ifs (.cmp .NotEq (.lc [7] (.var 7) (.val (.varB 5)) (.some (.cmp .NotIn (.varB 7) (.varB 4))) (.var 7)) (.lst .nil)) (.cons (.ret (.cst (.bool false))) .nil) .nil) (.cons (.set 4 [] (.var 5)) .nil))) (.cons (.ret (.cmp .Eq (.varB 4) (.tup .nil))) .nil))))
def b__law_cell : Ss := (.cons (.ifs (.cmp .Lt (.varB 1) (.blt .len (.cons (.varB 0) .nil))) (.cons (.ret (.call "_law_mixed" (.cons (.ix (.varB 0) (.varB 1)) (.cons (.var 1) .nil)))) .nil) .nil) (.cons (.ret (.call "_law_mixed" (.cons (.cst (.int 0)) (.cons (.var 1) .nil)))) .nil))
def b__law_due_v4 : Ss := (.cons (.setF 4 [] (.lc [6] (.var 6) (.val (.varB 1)) (.some (.cmp .In (.varB 6) (.varB 3))) (.var 6))) (.cons (.set 5 [4] (.call "_law_reach" (.cons (.var 0) (.cons (.blt .list (.cons (.varB 2) .nil)) (.cons (.var 4) .nil))))) (.cons (.ret (.blt .tuple (.cons (.lc [7] (.var 7) (.val (.call "_law_parts" (.cons (.var 0) (.cons (.var 3) .nil)))) (.some (.cmp .In (.ix (.varB 7) (.cst (.int 0))) (.varB 5))) (.var 7)) .nil))) .nil)))
def b__law_graph : Ss := (.cons (.set 2 [] (.bin .Add (.cst (.int 1)) (.bin .Mod (.varB 0) (.varB 1)))) (.cons (.set 3 [] (.bin .Add (.cst (.int 1)) (.bin .Mod (.bin .FloorDiv (.varB 0) (.varB 1)) (.cst (.int 3))))) (.cons (.set 4 [] (.bin .FloorDiv (.varB 0) (.bin .Mult (.cst (.int 3)) (.varB 1)))) (.cons (.setF 5 [] (.lst .nil)) (.cons (.fors [] (.var 6) (.rng1 (.var 2)) (.cons (.fors [] (.var 7) (.rng1 (.var 6)) (.cons (.ifs (.cmp .Eq (.varB 4) (.cst (.int 0))) (.cons (.set 4 [] (.bin .Add (.varB 0) (.bin .Mult (.cst (.int 7919)) (.bin .Add (.bin .Add (.varB 7) (.bin .Mult (.cst (.int 10)) (.varB 6))) (.cst (.int 1)))))) .nil) .nil) (.cons (.ifs (.cmp .Lt (.bin .Mod (.varB 4) (.cst (.int 4))) (.varB 3)) (.cons (.app 5 [] (.tup (.cons (.var 7) (.cons (.var 6) .nil)))) .nil) .nil) (.cons (.set 4 [] (.bin .FloorDiv (.varB 4) (.cst (.int 4)))) .nil)))) .nil)) (.cons (.ret (.tup (.cons (.var 2) (.cons (.blt .tuple (.cons (.blt .sorted (.cons (.varB 5) .nil)) .nil)) .nil)))) .nil))))))
def b__law_hunt_right : Ss := (.cons (.ret (.call "_law_branches" (.cons (.var 0) (.cons (.var 1) (.cons (.var 2) (.cons (.call "_law_parts" (.cons (.var 0) (.cons (.tup .nil) .nil))) (.cons (.tup .nil) .nil))))))) .nil)
def b__law_line_need : Ss := (.cons (.set 2 [] (.cst (.int 1))) (.cons (.fors [] (.var 3) (.rng1 (.blt .len (.cons (.varB 1) .nil))) (.cons (.set 4 [] (.slc (.varB 1) .none (.some (.var 3)))) (.cons (.setF 5 [] (.lst .nil)) (.cons (.fors [] (.tup (.cons (.var 6) (.cons (.var 7) .nil))) (.val (.ix (.varB 0) (.cst (.int 1)))) (.cons (.ifs (.and (.cmp .In (.varB 6) (.varB 4)) (.one (.cmp .NotIn (.varB 7) (.varB 4)))) (.cons (.app 5 [] (.var 6)) .nil) .nil) (.cons (.ifs (.and (.cmp .In (.varB 7) (.varB 4)) (.one (.cmp .NotIn (.varB 6) (.varB 4)))) (.cons (.app 5 [] (.var 7)) .nil) .nil) .nil))) (.cons (.set 2 [] (.blt .max (.cons (.varB 2) (.cons (.bin .Add (.cst (.int 1)) (.lset (.varB 5))) .nil)))) .nil))))) (.cons (.ret (.var 2)) .nil)))
def b__law_merged : Ss := (.cons (.ifs (.and (.cmp .Eq (.bin .Mod (.varB 1) (.cst (.int 3))) (.cst (.int 0))) (.one (.cmp .Gt (.blt .len (.cons (.varB 0) .nil)) (.cst (.int 1))))) (.cons (.set 2 [] (.bin .Add (.cst (.int 1)) (.bin .Mod (.bin .FloorDiv (.varB 1) (.cst (.int 3))) (.bin .Sub (.blt .len (.cons (.varB 0) .nil)) (.cst (.int 1)))))) (.cons (.set 3 [] (.ix (.ix (.varB 0) (.varB 2)) (.cst (.int 1)))) (.cons (.setF 4 [] (.lst .nil)) (.cons (.fors [] (.var 5) (.rng1 (.blt .len (.cons (.varB 0) .nil))) (.cons (.asg [] (.tup (.cons (.var 6) (.cons (.var 7) .nil))) (.ix (.varB 0) (.varB 5))) (.cons (.ifs (.cmp .Eq (.varB 5) (.varB 3)) (.cons (.set 6 [] (.blt .tuple (.cons (.blt .sorted (.cons (.bin .Add (.varB 6) (.blt .tuple (.cons (.lc [8] (.var 8) (.val (.ix (.ix (.varB 0) (.varB 2)) (.cst (.int 0)))) (.some (.cmp .NotIn (.varB 8) (.varB 6))) (.var 8)) .nil))) .nil)) .nil))) .nil) .nil) (.cons (.ifs (.cmp .Eq (.varB 7) (.varB 2)) (.cons (.set 7 [] (.var 3)) .nil) (.cons (.ifs (.cmp .Gt (.varB 7) (.varB 2)) (.cons (.set 7 [] (.bin .Sub (.varB 7) (.cst (.int 1)))) .nil) .nil) .nil)) (.cons (.ifs (.cmp .NotEq (.varB 5) (.varB 2)) (.cons (.app 4 [] (.tup (.cons (.var 6) (.cons (.var 7) .nil)))) .nil) .nil) .nil))))) (.cons (.set 0 [] (.blt .tuple (.cons (.varB 4) .nil))) .nil))))) .nil) (.cons (.ifs (.cmp .Eq (.bin .Mod (.bin .FloorDiv (.varB 1) (.cst (.int 7))) (.cst (.int 9))) (.cst (.int 0))) (.cons (.set 0 [] (.bin .Add (.tup (.cons (.tup (.cons (.tup .nil) (.cons (.un .USub (.cst (.int 1))) .nil))) .nil)) (.blt .tuple (.cons (.lc [6, 7] (.tup (.cons (.var 6) (.cons (.var 7) .nil))) (.val (.varB 0)) .none (.tup (.cons (.var 6) (.cons (.bin .Add (.varB 7) (.cst (.int 1))) .nil)))) .nil)))) .nil) .nil) (.cons (.ret (.var 0)) .nil)))
def b__law_mixed : Ss := (.cons (.set 2 [] (.blt .int (.cons (.varB 0) .nil))) (.cons (.ifs (.cmp .GtE (.varB 2) (.bin .Pow (.cst (.int 10)) (.cst (.int 18)))) (.cons (.ret (.var 2)) .nil) .nil) (.cons (.set 3 [] (.bin .Mod (.bin .Add (.bin .Mult (.bin .Mod (.varB 2) (.cst (.int 1000003))) (.cst (.int 48271))) (.bin .Mult (.cst (.int 69621)) (.bin .Add (.varB 1) (.cst (.int 1))))) (.cst (.int 2147483647)))) (.cons (.set 4 [] (.bin .Mod (.bin .Add (.bin .Mult (.varB 3) (.cst (.int 48271))) (.bin .Mod (.varB 2) (.cst (.int 999983)))) (.cst (.int 2147483647)))) (.cons (.set 5 [] (.bin .Mod (.bin .Add (.bin .Mult (.varB 4) (.cst (.int 69621))) (.varB 3)) (.cst (.int 2147483647)))) (.cons (.ret (.bin .Add (.bin .Add (.varB 3) (.bin .Mult (.cst (.int 2147483647)) (.varB 4))) (.bin .Mult (.cst (.int 4611686014132420609)) (.varB 5)))) .nil))))))
def b__law_next_v2 : Ss := (.cons (.setF 5 [] (.lc [8] (.var 8) (.val (.varB 1)) (.some (.cmp .In (.varB 8) (.varB 3))) (.var 8))) (.cons (.set 6 [] (.var 2)) (.cons (.ifs (.cmp .Eq (.varB 4) (.cst (.str "lazy"))) (.cons (.setF 6 [] (.lc [8] (.var 8) (.val (.varB 2)) (.some (.cmp .In (.varB 8) (.varB 3))) (.var 8))) .nil) .nil) (.cons (.set 7 [5, 6] (.bin .Add (.call "_law_reach" (.cons (.var 0) (.cons (.var 6) (.cons (.var 5) .nil)))) (.blt .list (.cons (.varB 2) .nil)))) (.cons (.ret (.blt .tuple (.cons (.lc [8] (.var 8) (.rng1 (.ix (.varB 0) (.cst (.int 0)))) (.some (.and (.cmp .In (.varB 8) (.varB 7)) (.one (.cmp .NotIn (.varB 8) (.varB 3))))) (.var 8)) .nil))) .nil)))))
def b__law_order : Ss := (.cons (.set 2 [] (.rg1 false (.var 1))) (.cons (.setF 3 [] (.lst .nil)) (.cons (.set 4 [] (.var 0)) (.cons (.fors [] (.var 5) (.rng1 (.var 1)) (.cons (.set 6 [] (.bin .Mod (.varB 4) (.blt .len (.cons (.varB 2) .nil)))) (.cons (.app 3 [] (.ix (.varB 2) (.varB 6))) (.cons (.set 2 [] (.bin .Add (.slc (.varB 2) .none (.some (.var 6))) (.slc (.varB 2) (.some (.bin .Add (.varB 6) (.cst (.int 1)))) .none))) (.cons (.set 4 [] (.bin .Add (.bin .FloorDiv (.varB 4) (.cst (.int 8))) (.bin .Mod (.bin .Mult (.varB 5) (.varB 0)) (.cst (.int 7))))) .nil))))) (.cons (.ret (.blt .tuple (.cons (.varB 3) .nil))) .nil)))))
def b__law_order_need : Ss := (.cons (.ret (.bin .Add (.cst (.int 1)) (.blt .max (.cons (.lc [2] (.var 2) (.rng1 (.blt .len (.cons (.varB 1) .nil))) .none (.blt .len (.cons (.call "_law_beyond" (.cons (.var 0) (.cons (.var 1) (.cons (.var 2) .nil)))) .nil))) .nil)))) .nil)
def b__law_parts : Ss := (.cons (.setF 2 [] (.lst .nil)) (.cons (.set 3 [] (.blt .list (.cons (.varB 1) .nil))) (.cons (.fors [] (.var 4) (.rng1 (.ix (.varB 0) (.cst (.int 0)))) (.cons (.ifs (.cmp .NotIn (.varB 4) (.varB 3)) (.cons (.set 5 [] (.call "_law_reach" (.cons (.var 0) (.cons (.lst (.cons (.var 4) .nil)) (.cons (.var 1) .nil))))) (.cons (.set 3 [] (.bin .Add (.varB 3) (.varB 5))) (.cons (.app 2 [] (.blt .tuple (.cons (.varB 5) .nil))) .nil))) .nil) .nil)) (.cons (.ret (.blt .tuple (.cons (.varB 2) .nil))) .nil))))
def b__law_reach : Ss := (.cons (.setF 3 [] (.lc [5] (.var 5) (.val (.varB 1)) (.some (.cmp .NotIn (.varB 5) (.varB 2))) (.var 5))) (.cons (.fors [] (.var 4) (.rng1 (.ix (.varB 0) (.cst (.int 0)))) (.cons (.fors [] (.tup (.cons (.var 6) (.cons (.var 7) .nil))) (.val (.ix (.varB 0) (.cst (.int 1)))) (.cons (.ifs (.and (.cmp .In (.varB 6) (.varB 3)) (.and (.cmp .NotIn (.varB 7) (.varB 3)) (.one (.cmp .NotIn (.varB 7) (.varB 2))))) (.cons (.app 3 [] (.var 7)) .nil) .nil) (.cons (.ifs (.and (.cmp .In (.varB 7) (.varB 3)) (.and (.cmp .NotIn (.varB 6) (.varB 3)) (.one (.cmp .NotIn (.varB 6) (.varB 2))))) (.cons (.app 3 [] (.var 6)) .nil) .nil) .nil))) .nil)) (.cons (.ret (.blt .sorted (.cons (.varB 3) .nil))) .nil)))
def b__law_right : Ss := (.cons (.ifs (.cmp .Eq (.varB 2) (.tup .nil)) (.cons (.ret (.cst (.bool false))) .nil) .nil) (.cons (.fors [] (.var 3) (.rng1 (.blt .len (.cons (.varB 2) .nil))) (.cons (.set 5 [] (.ix (.ix (.varB 2) (.varB 3)) (.cst (.int 1)))) (.cons (.ifs (.or (.and (.cmp .Eq (.varB 3) (.cst (.int 0))) (.one (.cmp .NotEq (.varB 5) (.un .USub (.cst (.int 1)))))) (.or (.and (.cmp .Gt (.varB 3) (.cst (.int 0))) (.one (.or (.cmp .Lt (.varB 5) (.cst (.int 0))) (.one (.cmp .GtE (.varB 5) (.varB 3)))))) (.one (.cmp .Gt (.blt .len (.cons (.ix (.ix (.varB 2) (.varB 3)) (.cst (.int 0))) .nil)) (.varB 1))))) (.cons (.ret (.cst (.bool false))) .nil) .nil) .nil))) (.cons (.fors [] (.var 4) (.rng1 (.ix (.varB 0) (.cst (.int 0)))) (.cons (.set 6 [] (.cst (.int 0))) (.cons (.fors [] (.var 3) (.rng1 (.blt .len (.cons (.varB 2) .nil))) (.cons (.ifs (.and (.cmp .In (.varB 4) (.ix (.ix (.varB 2) (.varB 3)) (.cst (.int 0)))) (.one (.or (.cmp .Eq (.varB 3) (.cst (.int 0))) (.one (.cmp .NotIn (.varB 4) (.ix (.ix (.varB 2) (.ix (.ix (.varB 2) (.varB 3)) (.cst (.int 1)))) (.cst (.int 0)))))))) (.cons (.set 6 [] (.bin .Add (.varB 6) (.cst (.int 1)))) .nil) .nil) .nil)) (.cons (.ifs (.cmp .NotEq (.varB 6) (.cst (.int 1))) (.cons (.ret (.cst (.bool false))) .nil) .nil) .nil)))) (.cons (.fors [] (.tup (.cons (.var 7) (.cons (.var 8) .nil))) (.val (.ix (.varB 0) (.cst (.int 1)))) (.cons (.ifs (.cmp .Eq (.lc [9] (.var 9) (.val (.varB 2)) (.some (.and (.cmp .In (.varB 7) (.ix (.varB 9) (.cst (.int 0)))) (.one (.cmp .In (.varB 8) (.ix (.varB 9) (.cst (.int 0))))))) (.var 9)) (.lst .nil)) (.cons (.ret (.cst (.bool false))) .nil) .nil) .nil)) (.cons (.ret (.cst (.bool true))) .nil)))))
def b__law_rooms : Ss := (.cons (.setD 2 [] (.dnil)) (.cons (.setF 3 [] (.lst .nil)) (.cons (.fors [] (.var 4) (.rng1 (.blt .len (.cons (.varB 1) .nil))) (.cons (.set 5 [] (.bin .Sub (.bin .Sub (.blt .len (.cons (.varB 1) .nil)) (.cst (.int 1))) (.varB 4))) (.cons (.set 6 [] (.call "_law_beyond" (.cons (.var 0) (.cons (.var 1) (.cons (.var 5) .nil))))) (.cons (.set 7 [] (.blt .min (.cons (.cst (.int 0)) (.cons (.bin .Sub (.varB 4) (.cst (.int 1))) .nil)))) (.cons (.fors [] (.var 8) (.val (.var 6)) (.cons (.set 7 [] (.blt .max (.cons (.varB 7) (.cons (.ix (.varB 2) (.varB 8)) .nil)))) .nil)) (.cons (.stoD 2 [] (.ix (.varB 1) (.varB 5)) (.var 4)) (.cons (.app 3 [] (.tup (.cons (.blt .tuple (.cons (.blt .sorted (.cons (.bin .Add (.varB 6) (.tup (.cons (.ix (.varB 1) (.varB 5)) .nil))) .nil)) .nil)) (.cons (.var 7) .nil)))) .nil))))))) (.cons (.ret (.blt .tuple (.cons (.varB 3) .nil))) .nil))))
def b__law_set : Ss := (.cons (.setF 3 [] (.lst .nil)) (.cons (.set 4 [] (.var 0)) (.cons (.fors [] (.var 5) (.rng1 (.var 1)) (.cons (.ifs (.and (.cmp .Eq (.bin .Mod (.varB 4) (.cst (.int 2))) (.cst (.int 1))) (.one (.cmp .Lt (.blt .len (.cons (.varB 3) .nil)) (.varB 2)))) (.cons (.app 3 [] (.var 5)) .nil) .nil) (.cons (.set 4 [] (.bin .FloorDiv (.varB 4) (.cst (.int 2)))) .nil))) (.cons (.ret (.blt .tuple (.cons (.varB 3) .nil))) .nil))))
def b__law_spoilt_v2 : Ss := (.cons (.ifs (.cmp .Eq (.varB 1) (.tup .nil)) (.cons (.ret (.tup (.cons (.tup (.cons (.tup (.cons (.cst (.int 0)) .nil)) (.cons (.tup (.cons (.tup (.cons (.cst (.int 0)) .nil)) (.cons (.tup .nil) .nil))) .nil))) .nil))) .nil) .nil) (.cons (.set 3 [] (.bin .Mod (.varB 2) (.blt .len (.cons (.varB 1) .nil)))) (.cons (.asg [] (.tup (.cons (.var 5) (.cons (.var 6) .nil))) (.ix (.varB 1) (.varB 3))) (.cons (.set 2 [] (.bin .FloorDiv (.varB 2) (.cst (.int 8)))) (.cons (.set 4 [] (.bin .Mod (.varB 2) (.cst (.int 9)))) (.cons (.set 2 [] (.bin .FloorDiv (.varB 2) (.cst (.int 9)))) (.cons (.ifs (.cmp .Eq (.varB 4) (.cst (.int 0))) (.cons (.ret (.bin .Add (.slc (.varB 1) .none (.some (.var 3))) (.slc (.varB 1) (.some (.bin .Add (.varB 3) (.cst (.int 1)))) .none))) .nil) .nil) (.cons (.ifs (.cmp .Eq (.varB 4) (.cst (.int 1))) (.cons (.ret (.bin .Add (.varB 1) (.slc (.varB 1) .none (.some (.cst (.int 1)))))) .nil) .nil) (.cons (.ifs (.cmp .Eq (.varB 4) (.cst (.int 2))) (.cons (.ret (.trev (.varB 1))) .nil) .nil) (.cons (.ifs (.cmp .Eq (.varB 4) (.cst (.int 3))) (.cons (.ret (.bin .Add (.bin .Add (.slc (.varB 1) .none (.some (.var 3))) (.tup (.cons (.tup (.cons (.call "_law_set" (.cons (.var 2) (.cons (.ix (.varB 0) (.cst (.int 0))) (.cons (.cst (.int 8)) .nil)))) (.cons (.var 6) .nil))) .nil))) (.slc (.varB 1) (.some (.bin .Add (.varB 3) (.cst (.int 1)))) .none))) .nil) .nil) (.cons (.ifs (.cmp .Eq (.varB 4) (.cst (.int 4))) (.cons (.ret (.bin .Add (.bin .Add (.slc (.varB 1) .none (.some (.var 3))) (.tup (.cons (.tup (.cons (.var 5) (.cons (.tup (.cons (.call "_law_set" (.cons (.var 2) (.cons (.ix (.varB 0) (.cst (.int 0))) (.cons (.cst (.int 8)) .nil)))) (.cons (.ix (.varB 6) (.cst (.int 1))) .nil))) .nil))) .nil))) (.slc (.varB 1) (.some (.bin .Add (.varB 3) (.cst (.int 1)))) .none))) .nil) .nil) (.cons (.ifs (.cmp .Eq (.varB 4) (.cst (.int 5))) (.cons (.ret (.bin .Add (.bin .Add (.slc (.varB 1) .none (.some (.var 3))) (.tup (.cons (.tup (.cons (.var 5) (.cons (.tup (.cons (.ix (.varB 6) (.cst (.int 0))) (.cons (.tup .nil) .nil))) .nil))) .nil))) (.slc (.varB 1) (.some (.bin .Add (.varB 3) (.cst (.int 1)))) .none))) .nil) .nil) (.cons (.ret (.bin .Add (.bin .Add (.slc (.varB 1) .none (.some (.var 3))) (.tup (.cons (.tup (.cons (.var 5) (.cons (.tup (.cons (.ix (.varB 6) (.cst (.int 0))) (.cons (.call "_law_spoilt" (.cons (.var 0) (.cons (.ix (.varB 6) (.cst (.int 1))) (.cons (.var 2) .nil)))) .nil))) .nil))) .nil))) (.slc (.varB 1) (.some (.bin .Add (.varB 3) (.cst (.int 1)))) .none))) .nil)))))))))))))
def b__law_spoilt_v4 : Ss := (.cons (.set 3 [] (.bin .Mod (.bin .FloorDiv (.varB 2) (.cst (.int 8))) (.blt .len (.cons (.varB 1) .nil)))) (.cons (.asg [] (.tup (.cons (.var 6) (.cons (.var 7) .nil))) (.ix (.varB 1) (.varB 3))) (.cons (.set 4 [] (.bin .Mod (.bin .FloorDiv (.varB 2) (.cst (.int 64))) (.ix (.varB 0) (.cst (.int 0))))) (.cons (.set 5 [] (.bin .Mod (.varB 2) (.cst (.int 8)))) (.cons (.ifs (.cmp .Eq (.varB 5) (.cst (.int 0))) (.cons (.ret (.var 1)) .nil) .nil) (.cons (.ifs (.cmp .Lt (.varB 5) (.cst (.int 3))) (.cons (.ret (.bin .Add (.bin .Add (.slc (.varB 1) .none (.some (.var 3))) (.tup (.cons (.tup (.cons (.blt .tuple (.cons (.lc [8] (.var 8) (.val (.varB 6)) (.some (.cmp .NotEq (.varB 8) (.varB 4))) (.var 8)) .nil)) (.cons (.var 7) .nil))) .nil))) (.slc (.varB 1) (.some (.bin .Add (.varB 3) (.cst (.int 1)))) .none))) .nil) .nil) (.cons (.ifs (.cmp .Eq (.varB 5) (.cst (.int 3))) (.cons (.ret (.bin .Add (.bin .Add (.slc (.varB 1) .none (.some (.var 3))) (.tup (.cons (.tup (.cons (.blt .tuple (.cons (.sset (.bin .Add (.varB 6) (.tup (.cons (.var 4) .nil)))) .nil)) (.cons (.var 7) .nil))) .nil))) (.slc (.varB 1) (.some (.bin .Add (.varB 3) (.cst (.int 1)))) .none))) .nil) .nil) (.cons (.ifs (.cmp .Eq (.varB 5) (.cst (.int 4))) (.cons (.ret (.bin .Add (.bin .Add (.slc (.varB 1) .none (.some (.var 3))) (.tup (.cons (.tup (.cons (.var 6) (.cons (.bin .Sub (.bin .Mod (.bin .FloorDiv (.varB 2) (.cst (.int 512))) (.bin .Add (.blt .len (.cons (.varB 1) .nil)) (.cst (.int 3)))) (.cst (.int 2))) .nil))) .nil))) (.slc (.varB 1) (.some (.bin .Add (.varB 3) (.cst (.int 1)))) .none))) .nil) .nil) (.cons (.ifs (.cmp .Eq (.varB 5) (.cst (.int 5))) (.cons (.ret (.bin .Add (.varB 1) (.tup (.cons (.tup (.cons (.var 6) (.cons (.var 3) .nil))) .nil)))) .nil) .nil) (.cons (.ifs (.and (.cmp .Eq (.varB 5) (.cst (.int 6))) (.one (.cmp .Gt (.blt .len (.cons (.varB 1) .nil)) (.cst (.int 1))))) (.cons (.ret (.slc (.varB 1) .none (.some (.un .USub (.cst (.int 1)))))) .nil) .nil) (.cons (.ret (.trev (.varB 1))) .nil)))))))))))
def b__law_walk : Ss := (.cons (.set 3 [] (.tup .nil)) (.cons (.set 4 [] (.rg1 true (.ix (.varB 0) (.cst (.int 0))))) (.cons (.setF 5 [] (.lst .nil)) (.cons (.fors [] (.var 6) (.val (.var 1)) (.cons (.set 4 [] (.call "_law_next" (.cons (.var 0) (.cons (.var 3) (.cons (.var 4) (.cons (.var 6) (.cons (.var 2) .nil))))))) (.cons (.set 3 [] (.var 6)) (.cons (.app 5 [] (.var 4)) .nil)))) (.cons (.ret (.var 5)) .nil)))))
def b_all_nodes : Ss := (.cons (.ret (.bin .Sub (.bin .LShift (.cst (.int 1)) (.ix (.varB 0) (.cst (.int 0)))) (.cst (.int 1)))) .nil)
def b_answers : Ss := (.cons (.ifs (.cmp .NotEq (.lc [5, 8] (.tup (.cons (.var 5) (.cons (.var 8) .nil))) (.val (.varB 2)) .none (.var 5)) (.lc [5] (.var 5) (.val (.varB 3)) .none (.call "nodes_of" (.cons (.var 5) .nil)))) (.cons (.ret (.cst (.bool false))) .nil) .nil) (.cons (.fors [] (.tup (.cons (.var 5) (.cons (.var 6) .nil))) (.val (.var 2)) (.cons (.ifs (.cmp .Gt (.blt .len (.cons (.ix (.varB 6) (.cst (.int 0))) .nil)) (.varB 1)) (.cons (.ret (.cst (.bool false))) .nil) .nil) (.cons (.set 7 [] (.call "mask_of" (.cons (.ix (.varB 6) (.cst (.int 0))) .nil))) (.cons (.ifs (.not (.call "answers" (.cons (.var 0) (.cons (.var 1) (.cons (.ix (.varB 6) (.cst (.int 1))) (.cons (.call "next_parts" (.cons (.var 0) (.cons (.var 4) (.cons (.call "mask_of" (.cons (.var 5) .nil)) (.cons (.var 7) .nil))))) (.cons (.var 7) .nil))))))) (.cons (.ret (.cst (.bool false))) .nil) .nil) .nil)))) (.cons (.ret (.cst (.bool true))) .nil)))
def b_around : Ss := (.cons (.set 2 [] (.cst (.int 0))) (.cons (.fors [] (.var 3) (.val (.call "nodes_of" (.cons (.var 1) .nil))) (.cons (.set 2 [] (.bin .BitOr (.varB 2) (.ix (.varB 0) (.varB 3)))) .nil)) (.cons (.ret (.var 2)) .nil)))
def b_below_masks : Ss := (.cons (.setF 1 [] (.lc [4, 5] (.tup (.cons (.var 4) (.cons (.var 5) .nil))) (.val (.varB 0)) .none (.call "mask_of" (.cons (.var 4) .nil)))) (.cons (.fors [] (.var 2) (.rng3 (.bin .Sub (.blt .len (.cons (.varB 0) .nil)) (.cst (.int 1))) (.cst (.int 0)) (.un .USub (.cst (.int 1)))) (.cons (.set 3 [] (.ix (.ix (.varB 0) (.varB 2)) (.cst (.int 1)))) (.cons (.sto 1 [] (.var 3) (.bin .BitOr (.ix (.varB 1) (.varB 3)) (.ix (.varB 1) (.varB 2)))) .nil))) (.cons (.ret (.var 1)) .nil)))
def b_best_line : Ss := (.cons (.set 1 [] (.call "neighbour_masks" (.cons (.var 0) .nil))) (.cons (.setF 2 [] (.lst (.cons (.cst (.int 0)) .nil))) (.cons (.setF 3 [] (.lst (.cons (.cst (.int 0)) .nil))) (.cons (.fors [] (.var 4) (.rng2 (.cst (.int 1)) (.bin .LShift (.cst (.int 1)) (.ix (.varB 0) (.cst (.int 0))))) (.cons (.setF 6 [] (.lst .nil)) (.cons (.fors [] (.var 7) (.val (.call "nodes_of" (.cons (.var 4) .nil))) (.cons (.set 8 [] (.bin .BitAnd (.varB 4) (.un .Invert (.bin .LShift (.cst (.int 1)) (.varB 7))))) (.cons (.app 6 [] (.tup (.cons (.blt .max (.cons (.ix (.varB 2) (.varB 8)) (.cons (.bin .Add (.cst (.int 1)) (.call "size_of" (.cons (.call "border_mask" (.cons (.var 1) (.cons (.var 8) .nil))) .nil))) .nil))) (.cons (.var 7) .nil)))) .nil))) (.cons (.asg [] (.tup (.cons (.var 9) (.cons (.var 7) .nil))) (.blt .min (.cons (.varB 6) .nil))) (.cons (.app 2 [] (.var 9)) (.cons (.app 3 [] (.var 7)) .nil)))))) (.cons (.set 4 [] (.call "all_nodes" (.cons (.var 0) .nil))) (.cons (.setF 5 [] (.lst .nil)) (.cons (.whl (.cmp .NotEq (.varB 4) (.cst (.int 0))) (.cons (.app 5 [] (.ix (.varB 3) (.varB 4))) (.cons (.set 4 [] (.bin .BitAnd (.varB 4) (.un .Invert (.bin .LShift (.cst (.int 1)) (.ix (.varB 3) (.varB 4)))))) .nil))) (.cons (.ret (.trev (.varB 5))) .nil))))))))
def b_best_order : Ss := (.cons (.set 1 [] (.ix (.call "needs_by_gone" (.cons (.call "neighbour_masks" (.cons (.var 0) .nil)) .nil)) (.cst (.int 1)))) (.cons (.set 2 [] (.call "all_nodes" (.cons (.var 0) .nil))) (.cons (.setF 3 [] (.lst .nil)) (.cons (.whl (.cmp .NotEq (.varB 2) (.cst (.int 0))) (.cons (.app 3 [] (.ix (.varB 1) (.varB 2))) (.cons (.set 2 [] (.bin .BitAnd (.varB 2) (.un .Invert (.bin .LShift (.cst (.int 1)) (.ix (.varB 1) (.varB 2)))))) .nil))) (.cons (.ret (.trev (.varB 3))) .nil)))))
def b_beyond : Ss := (.cons (.set 3 [] (.call "spread" (.cons (.var 0) (.cons (.bin .LShift (.cst (.int 1)) (.varB 2)) (.cons (.bin .BitOr (.varB 1) (.bin .LShift (.cst (.int 1)) (.varB 2))) .nil))))) (.cons (.ret (.bin .BitAnd (.call "around" (.cons (.var 0) (.cons (.var 3) .nil))) (.un .Invert (.bin .BitOr (.varB 1) (.bin .LShift (.cst (.int 1)) (.varB 2)))))) .nil))
def b_border : Ss := (.cons (.ret (.call "nodes_of" (.cons (.call "border_mask" (.cons (.call "neighbour_masks" (.cons (.var 0) .nil)) (.cons (.call "mask_of" (.cons (.var 1) .nil)) .nil))) .nil))) .nil)
def b_border_mask : Ss := (.cons (.set 2 [] (.cst (.int 0))) (.cons (.fors [] (.var 3) (.val (.call "nodes_of" (.cons (.var 1) .nil))) (.cons (.ifs (.cmp .NotEq (.bin .BitAnd (.ix (.varB 0) (.varB 3)) (.un .Invert (.var 1))) (.cst (.int 0))) (.cons (.set 2 [] (.bin .BitOr (.varB 2) (.bin .LShift (.cst (.int 1)) (.varB 3)))) .nil) .nil) .nil)) (.cons (.ret (.var 2)) .nil)))
def b_follow : Ss := (.cons (.fors [] (.tup (.cons (.var 5) (.cons (.tup (.cons (.var 6) (.cons (.var 7) .nil))) .nil))) (.enm (.var 1)) (.cons (.ifs (.and (.cmp .Eq (.varB 7) (.varB 3)) (.one (.cmp .Eq (.bin .BitAnd (.varB 4) (.un .Invert (.ix (.varB 2) (.varB 5)))) (.cst (.int 0))))) (.cons (.set 8 [] (.call "mask_of" (.cons (.var 6) .nil))) (.cons (.set 9 [] (.call "next_parts" (.cons (.var 0) (.cons (.call "mask_of" (.cons (.ix (.ix (.varB 1) (.varB 3)) (.cst (.int 0))) .nil)) (.cons (.var 4) (.cons (.var 8) .nil)))))) (.cons (.ret (.tup (.cons (.var 6) (.cons (.blt .tuple (.cons (.lc [10] (.var 10) (.val (.varB 9)) .none (.tup (.cons (.call "nodes_of" (.cons (.var 10) .nil)) (.cons (.call "follow" (.cons (.var 0) (.cons (.var 1) (.cons (.var 2) (.cons (.var 5) (.cons (.var 10) .nil)))))) .nil)))) .nil)) .nil)))) .nil))) .nil) .nil)) (.cons (.ret (.tup (.cons (.tup .nil) (.cons (.tup .nil) .nil)))) .nil))
def b_hunt_holds : Ss := (.cons (.set 3 [] (.call "neighbour_masks" (.cons (.var 0) .nil))) (.cons (.ret (.call "answers" (.cons (.var 3) (.cons (.var 1) (.cons (.var 2) (.cons (.call "part_masks" (.cons (.var 3) (.cons (.call "all_nodes" (.cons (.var 0) .nil)) .nil))) (.cons (.cst (.int 0)) .nil))))))) .nil))
def b_hunt_of : Ss := (.cons (.set 2 [] (.call "neighbour_masks" (.cons (.var 0) .nil))) (.cons (.set 3 [] (.call "below_masks" (.cons (.var 1) .nil))) (.cons (.set 4 [] (.ix (.ix (.varB 1) (.cst (.int 0))) (.cst (.int 0)))) (.cons (.setF 5 [] (.lst .nil)) (.cons (.fors [] (.var 6) (.val (.call "part_masks" (.cons (.var 2) (.cons (.call "all_nodes" (.cons (.var 0) .nil)) .nil)))) (.cons (.set 7 [] (.call "next_parts" (.cons (.var 2) (.cons (.cst (.int 0)) (.cons (.var 6) (.cons (.call "mask_of" (.cons (.var 4) .nil)) .nil)))))) (.cons (.set 8 [] (.blt .tuple (.cons (.lc [9] (.var 9) (.val (.varB 7)) .none (.tup (.cons (.call "nodes_of" (.cons (.var 9) .nil)) (.cons (.call "follow" (.cons (.var 2) (.cons (.var 1) (.cons (.var 3) (.cons (.cst (.int 0)) (.cons (.var 9) .nil)))))) .nil)))) .nil))) (.cons (.app 5 [] (.tup (.cons (.call "nodes_of" (.cons (.var 6) .nil)) (.cons (.tup (.cons (.var 4) (.cons (.var 8) .nil))) .nil)))) .nil)))) (.cons (.ret (.blt .tuple (.cons (.varB 5) .nil))) .nil))))))
def b_is_tree : Ss := (.cons (.fors [] (.tup (.cons (.var 1) (.cons (.tup (.cons (.var 2) (.cons (.var 3) .nil))) .nil))) (.enm (.var 0)) (.cons (.ifs (.or (.and (.cmp .Eq (.varB 1) (.cst (.int 0))) (.one (.cmp .NotEq (.varB 3) (.un .USub (.cst (.int 1)))))) (.one (.and (.cmp .Gt (.varB 1) (.cst (.int 0))) (.one (.not (.chain (.cst (.int 0)) .LtE (.varB 3) (.last .Lt (.varB 1)))))))) (.cons (.ret (.cst (.bool false))) .nil) .nil) .nil)) (.cons (.ret (.cmp .Gt (.blt .len (.cons (.varB 0) .nil)) (.cst (.int 0)))) .nil))
def b_law_v2 : Ss := (.cons (.fors [] (.tup (.cons (.var 1) (.cons (.var 2) .nil))) (.enm (.slc (.varB 0) .none (.some (.cst (.int 20))))) (.cons (.set 3 [] (.call "_law_mixed" (.cons (.var 2) (.cons (.var 1) .nil)))) (.cons (.set 4 [] (.call "_law_graph" (.cons (.bin .FloorDiv (.varB 3) (.cst (.int 256))) (.cons (.cst (.int 8)) .nil)))) (.cons (.set 5 [] (.call "_law_set" (.cons (.bin .Mod (.varB 3) (.cst (.int 256))) (.cons (.ix (.varB 4) (.cst (.int 0))) (.cons (.cst (.int 8)) .nil))))) (.cons (.set 6 [] (.call "parts" (.cons (.var 4) (.cons (.var 5) .nil)))) (.cons (.ifs (.or (.not (.isi .tuple (.varB 6))) (.one (.cmp .NotEq (.varB 6) (.call "_law_parts" (.cons (.var 4) (.cons (.var 5) .nil)))))) (.cons (.ret (.cst (.bool false))) .nil) .nil) (.cons (.setF 7 [] (.lst .nil)) (.cons (.fors [] (.tup (.cons (.var 8) (.cons (.var 9) .nil))) (.val (.ix (.varB 4) (.cst (.int 1)))) (.cons (.ifs (.and (.cmp .In (.varB 8) (.varB 5)) (.one (.cmp .NotIn (.varB 9) (.varB 5)))) (.cons (.app 7 [] (.var 8)) .nil) .nil) (.cons (.ifs (.and (.cmp .In (.varB 9) (.varB 5)) (.one (.cmp .NotIn (.varB 8) (.varB 5)))) (.cons (.app 7 [] (.var 9)) .nil) .nil) .nil))) (.cons (.set 6 [] (.call "border" (.cons (.var 4) (.cons (.var 5) .nil)))) (.cons (.ifs (.or (.not (.isi .tuple (.varB 6))) (.one (.cmp .NotEq (.varB 6) (.blt .tuple (.cons (.lc [10] (.var 10) (.val (.varB 5)) (.some (.cmp .In (.varB 10) (.varB 7))) (.var 10)) .nil))))) (.cons (.ret (.cst (.bool false))) .nil) .nil) .nil)))))))))) (.cons (.ret (.cst (.bool true))) .nil))
def b_law_v3 : Ss := (.cons (.set 1 [] (.call "_law_graph" (.cons (.call "_law_cell" (.cons (.var 0) (.cons (.cst (.int 0)) .nil))) (.cons (.cst (.int 6)) .nil)))) (.cons (.set 2 [] (.call "_law_cell" (.cons (.var 0) (.cons (.cst (.int 1)) .nil)))) (.cons (.set 3 [] (.call "rooms_of" (.cons (.var 1) (.cons (.call "_law_order" (.cons (.var 2) (.cons (.ix (.varB 1) (.cst (.int 0))) .nil))) .nil)))) (.cons (.set 4 [] (.call "hunt_of" (.cons (.var 1) (.cons (.var 3) .nil)))) (.cons (.ifs (.cmp .Gt (.bin .Mod (.bin .FloorDiv (.varB 2) (.cst (.int 7))) (.cst (.int 4))) (.cst (.int 0))) (.cons (.set 4 [] (.call "_law_spoilt" (.cons (.var 1) (.cons (.var 4) (.cons (.call "_law_cell" (.cons (.var 0) (.cons (.cst (.int 2)) .nil))) .nil))))) .nil) .nil) (.cons (.set 5 [] (.blt .max (.cons (.lc [8] (.var 8) (.val (.varB 3)) .none (.blt .len (.cons (.ix (.varB 8) (.cst (.int 0))) .nil))) .nil))) (.cons (.fors [] (.var 6) (.rng2 (.bin .Sub (.varB 5) (.cst (.int 1))) (.bin .Add (.varB 5) (.cst (.int 2)))) (.cons (.set 7 [] (.call "hunt_holds" (.cons (.var 1) (.cons (.var 6) (.cons (.var 4) .nil))))) (.cons (.ifs (.or (.not (.isi .bool (.varB 7))) (.one (.cmp .NotEq (.varB 7) (.call "_law_hunt_right" (.cons (.var 1) (.cons (.var 6) (.cons (.var 4) .nil))))))) (.cons (.ret (.cst (.bool false))) .nil) .nil) .nil))) (.cons (.ret (.cst (.bool true))) .nil))))))))
def b_law_v4 : Ss := (.cons (.fors [] (.tup (.cons (.var 1) (.cons (.var 2) .nil))) (.enm (.slc (.varB 0) .none (.some (.cst (.int 8))))) (.cons (.set 3 [] (.call "_law_mixed" (.cons (.var 2) (.cons (.var 1) .nil)))) (.cons (.set 4 [] (.call "_law_graph" (.cons (.bin .FloorDiv (.varB 3) (.cst (.int 9))) (.cons (.cst (.int 8)) .nil)))) (.cons (.set 5 [] (.call "_law_order" (.cons (.var 3) (.cons (.ix (.varB 4) (.cst (.int 0))) .nil)))) (.cons (.set 6 [] (.call "rooms_of" (.cons (.var 4) (.cons (.var 5) .nil)))) (.cons (.ifs (.or (.not (.isi .tuple (.varB 6))) (.one (.cmp .NotEq (.varB 6) (.call "_law_rooms" (.cons (.var 4) (.cons (.var 5) .nil)))))) (.cons (.ret (.cst (.bool false))) .nil) .nil) (.cons (.set 7 [] (.call "order_need" (.cons (.var 4) (.cons (.var 5) .nil)))) (.cons (.ifs (.or (.cmp .NotEq (.varB 7) (.call "_law_order_need" (.cons (.var 4) (.cons (.var 5) .nil)))) (.one (.cmp .IsNot (.call "rooms_hold" (.cons (.var 4) (.cons (.var 7) (.cons (.var 6) .nil)))) (.cst (.bool true))))) (.cons (.ret (.cst (.bool false))) .nil) .nil) (.cons (.ifs (.cmp .IsNot (.call "rooms_hold" (.cons (.var 4) (.cons (.bin .Sub (.varB 7) (.cst (.int 1))) (.cons (.var 6) .nil)))) (.cst (.bool false))) (.cons (.ret (.cst (.bool false))) .nil) .nil) .nil))))))))) (.cons (.ret (.cst (.bool true))) .nil))
def b_law_v5 : Ss := (.cons (.fors [] (.tup (.cons (.var 1) (.cons (.var 2) .nil))) (.enm (.slc (.varB 0) .none (.some (.cst (.int 10))))) (.cons (.set 3 [] (.call "_law_mixed" (.cons (.var 2) (.cons (.var 1) .nil)))) (.cons (.set 4 [] (.call "_law_graph" (.cons (.bin .FloorDiv (.varB 3) (.cst (.int 4096))) (.cons (.cst (.int 7)) .nil)))) (.cons (.set 5 [] (.call "_law_spoilt" (.cons (.var 4) (.cons (.call "rooms_of" (.cons (.var 4) (.cons (.call "_law_order" (.cons (.bin .FloorDiv (.varB 3) (.cst (.int 3))) (.cons (.ix (.varB 4) (.cst (.int 0))) .nil))) .nil))) (.cons (.var 3) .nil))))) (.cons (.ifs (.cmp .Eq (.bin .Mod (.bin .FloorDiv (.varB 3) (.cst (.int 11))) (.cst (.int 3))) (.cst (.int 0))) (.cons (.set 5 [] (.call "_law_spoilt" (.cons (.var 4) (.cons (.var 5) (.cons (.bin .FloorDiv (.varB 3) (.cst (.int 4096))) .nil))))) .nil) .nil) (.cons (.set 6 [] (.blt .max (.cons (.lc [9] (.var 9) (.val (.varB 5)) .none (.blt .len (.cons (.ix (.varB 9) (.cst (.int 0))) .nil))) .nil))) (.cons (.fors [] (.var 7) (.rng2 (.blt .max (.cons (.cst (.int 0)) (.cons (.bin .Sub (.varB 6) (.cst (.int 1))) .nil))) (.bin .Add (.varB 6) (.cst (.int 2)))) (.cons (.set 8 [] (.call "rooms_hold" (.cons (.var 4) (.cons (.var 7) (.cons (.var 5) .nil))))) (.cons (.ifs (.or (.not (.isi .bool (.varB 8))) (.one (.cmp .NotEq (.varB 8) (.call "_law_right" (.cons (.var 4) (.cons (.var 7) (.cons (.var 5) .nil))))))) (.cons (.ret (.cst (.bool false))) .nil) .nil) .nil))) .nil))))))) (.cons (.ret (.cmp .Is (.call "rooms_hold" (.cons (.tup (.cons (.cst (.int 1)) (.cons (.tup .nil) .nil))) (.cons (.cst (.int 1)) (.cons (.tup .nil) .nil)))) (.cst (.bool false)))) .nil))
def b_law_v6 : Ss := (.cons (.fors [] (.tup (.cons (.var 1) (.cons (.var 2) .nil))) (.enm (.slc (.varB 0) .none (.some (.cst (.int 8))))) (.cons (.set 3 [] (.call "_law_mixed" (.cons (.var 2) (.cons (.var 1) .nil)))) (.cons (.set 4 [] (.call "_law_graph" (.cons (.bin .FloorDiv (.varB 3) (.cst (.int 9))) (.cons (.cst (.int 8)) .nil)))) (.cons (.set 5 [] (.call "rooms_of" (.cons (.var 4) (.cons (.call "_law_order" (.cons (.var 3) (.cons (.ix (.varB 4) (.cst (.int 0))) .nil))) .nil)))) (.cons (.ifs (.cmp .Eq (.bin .Mod (.bin .FloorDiv (.varB 3) (.cst (.int 5))) (.cst (.int 6))) (.cst (.int 1))) (.cons (.set 5 [] (.bin .Add (.varB 5) (.tup (.cons (.tup (.cons (.ix (.ix (.varB 5) (.un .USub (.cst (.int 1)))) (.cst (.int 0))) (.cons (.bin .Sub (.blt .len (.cons (.varB 5) .nil)) (.cst (.int 1))) .nil))) (.cons (.tup (.cons (.tup .nil) (.cons (.cst (.int 0)) .nil))) .nil))))) .nil) .nil) (.cons (.set 5 [] (.call "_law_merged" (.cons (.var 5) (.cons (.bin .FloorDiv (.varB 3) (.cst (.int 10007))) .nil)))) (.cons (.setF 6 [] (.lst .nil)) (.cons (.fors [] (.tup (.cons (.var 8) (.cons (.var 9) .nil))) (.val (.var 5)) (.cons (.ifs (.cmp .GtE (.varB 9) (.cst (.int 0))) (.cons (.app 6 [] (.blt .tuple (.cons (.lc [10] (.var 10) (.val (.varB 8)) (.some (.cmp .In (.varB 10) (.ix (.ix (.varB 5) (.varB 9)) (.cst (.int 0))))) (.var 10)) .nil))) .nil) .nil) (.cons (.app 6 [] (.var 8)) .nil))) (.cons (.set 7 [] (.call "plan_of" (.cons (.var 5) .nil))) (.cons (.ifs (.or (.not (.isi .tuple (.varB 7))) (.one (.cmp .NotEq (.varB 7) (.blt .tuple (.cons (.varB 6) .nil))))) (.cons (.ret (.cst (.bool false))) .nil) .nil) (.cons (.ifs (.not (.call "_law_catches" (.cons (.var 4) (.cons (.var 7) (.cons (.cst (.str "lazy")) (.cons (.blt .max (.cons (.lc [8] (.var 8) (.val (.varB 5)) .none (.blt .len (.cons (.ix (.varB 8) (.cst (.int 0))) .nil))) .nil)) .nil)))))) (.cons (.ret (.cst (.bool false))) .nil) .nil) .nil))))))))))) (.cons (.ret (.cst (.bool true))) .nil))
def b_law_v25 : Ss := (.cons (.fors [] (.tup (.cons (.var 1) (.cons (.var 2) .nil))) (.enm (.slc (.varB 0) .none (.some (.cst (.int 12))))) (.cons (.set 3 [] (.call "_law_mixed" (.cons (.var 2) (.cons (.var 1) .nil)))) (.cons (.set 4 [] (.call "_law_graph" (.cons (.bin .FloorDiv (.varB 3) (.cst (.int 9))) (.cons (.cst (.int 8)) .nil)))) (.cons (.set 5 [] (.call "_law_order" (.cons (.var 3) (.cons (.ix (.varB 4) (.cst (.int 0))) .nil)))) (.cons (.setF 6 [] (.blt .list (.cons (.ix (.varB 4) (.cst (.int 1))) .nil))) (.cons (.set 7 [] (.cst (.int 1))) (.cons (.setF 8 [] (.blt .list (.cons (.varB 5) .nil))) (.cons (.fors [] (.var 9) (.val (.var 5)) (.cons (.rem 8 [] (.var 9)) (.cons (.setF 11 [] (.lc [14] (.var 14) (.val (.varB 8)) (.some (.cmp .In (.tup (.cons (.blt .min (.cons (.varB 9) (.cons (.varB 14) .nil))) (.cons (.blt .max (.cons (.varB 9) (.cons (.varB 14) .nil))) .nil))) (.varB 6))) (.var 14))) (.cons (.set 7 [] (.blt .max (.cons (.varB 7) (.cons (.bin .Add (.cst (.int 1)) (.blt .len (.cons (.varB 11) .nil))) .nil)))) (.cons (.fors [11] (.var 12) (.val (.var 11)) (.cons (.fors [11] (.var 13) (.val (.var 11)) (.cons (.ifs (.and (.cmp .Lt (.varB 12) (.varB 13)) (.one (.cmp .NotIn (.tup (.cons (.var 12) (.cons (.var 13) .nil))) (.varB 6)))) (.cons (.app 6 [] (.tup (.cons (.var 12) (.cons (.var 13) .nil)))) .nil) .nil) .nil)) .nil)) .nil))))) (.cons (.set 10 [] (.call "order_need" (.cons (.var 4) (.cons (.var 5) .nil)))) (.cons (.ifs (.or (.isi .bool (.varB 10)) (.one (.cmp .NotEq (.varB 10) (.varB 7)))) (.cons (.ret (.cst (.bool false))) .nil) .nil) .nil)))))))))) (.cons (.ret (.cst (.bool true))) .nil))
def b_law_v26 : Ss := (.cons (.set 1 [] (.call "_law_cell" (.cons (.var 0) (.cons (.cst (.int 0)) .nil)))) (.cons (.set 2 [] (.call "_law_graph" (.cons (.bin .FloorDiv (.varB 1) (.cst (.int 2))) (.cons (.cst (.int 5)) .nil)))) (.cons (.set 3 [] (.call "_law_all" (.cons (.ix (.varB 2) (.cst (.int 0))) .nil))) (.cons (.ifs (.cmp .Eq (.bin .Mod (.varB 1) (.cst (.int 2))) (.cst (.int 1))) (.cons (.set 2 [] (.call "_law_graph" (.cons (.bin .FloorDiv (.varB 1) (.cst (.int 2))) (.cons (.cst (.int 7)) .nil)))) (.cons (.setF 3 [] (.lc [7] (.var 7) (.rng1 (.cst (.int 40))) .none (.call "_law_order" (.cons (.call "_law_cell" (.cons (.var 0) (.cons (.bin .Add (.cst (.int 1)) (.varB 7)) .nil))) (.cons (.ix (.varB 2) (.cst (.int 0))) .nil))))) .nil)) .nil) (.cons (.set 4 [] (.call "best_order" (.cons (.var 2) .nil))) (.cons (.ifs (.or (.not (.isi .tuple (.varB 4))) (.one (.cmp .NotEq (.blt .sorted (.cons (.varB 4) .nil)) (.rg1 false (.ix (.varB 2) (.cst (.int 0))))))) (.cons (.ret (.cst (.bool false))) .nil) .nil) (.cons (.set 5 [] (.call "_law_order_need" (.cons (.var 2) (.cons (.var 4) .nil)))) (.cons (.fors [3] (.var 6) (.val (.var 3)) (.cons (.ifs (.cmp .Lt (.call "_law_order_need" (.cons (.var 2) (.cons (.var 6) .nil))) (.varB 5)) (.cons (.ret (.cst (.bool false))) .nil) .nil) .nil)) (.cons (.ret (.cst (.bool true))) .nil)))))))))
def b_law_v27 : Ss := (.cons (.set 1 [] (.call "_law_cell" (.cons (.var 0) (.cons (.cst (.int 0)) .nil)))) (.cons (.set 2 [] (.call "_law_graph" (.cons (.bin .FloorDiv (.varB 1) (.cst (.int 2))) (.cons (.cst (.int 5)) .nil)))) (.cons (.set 3 [] (.call "_law_all" (.cons (.ix (.varB 2) (.cst (.int 0))) .nil))) (.cons (.ifs (.cmp .Eq (.bin .Mod (.varB 1) (.cst (.int 2))) (.cst (.int 1))) (.cons (.set 2 [] (.call "_law_graph" (.cons (.bin .FloorDiv (.varB 1) (.cst (.int 2))) (.cons (.cst (.int 7)) .nil)))) (.cons (.setF 3 [] (.lc [7] (.var 7) (.rng1 (.cst (.int 40))) .none (.call "_law_order" (.cons (.call "_law_cell" (.cons (.var 0) (.cons (.bin .Add (.cst (.int 1)) (.varB 7)) .nil))) (.cons (.ix (.varB 2) (.cst (.int 0))) .nil))))) .nil)) .nil) (.cons (.set 4 [] (.call "best_line" (.cons (.var 2) .nil))) (.cons (.ifs (.or (.not (.isi .tuple (.varB 4))) (.one (.cmp .NotEq (.blt .sorted (.cons (.varB 4) .nil)) (.rg1 false (.ix (.varB 2) (.cst (.int 0))))))) (.cons (.ret (.cst (.bool false))) .nil) .nil) (.cons (.set 5 [] (.call "_law_line_need" (.cons (.var 2) (.cons (.var 4) .nil)))) (.cons (.fors [3] (.var 6) (.val (.var 3)) (.cons (.ifs (.cmp .Lt (.call "_law_line_need" (.cons (.var 2) (.cons (.var 6) .nil))) (.varB 5)) (.cons (.ret (.cst (.bool false))) .nil) .nil) .nil)) (.cons (.ret (.cst (.bool true))) .nil)))))))))
def b_law_v30 : Ss := (.cons (.fors [] (.tup (.cons (.var 1) (.cons (.var 2) .nil))) (.enm (.slc (.varB 0) .none (.some (.cst (.int 8))))) (.cons (.set 3 [] (.call "_law_mixed" (.cons (.var 2) (.cons (.var 1) .nil)))) (.cons (.set 4 [] (.call "_law_graph" (.cons (.bin .FloorDiv (.varB 3) (.cst (.int 9))) (.cons (.cst (.int 8)) .nil)))) (.cons (.set 5 [] (.call "_law_order" (.cons (.var 3) (.cons (.ix (.varB 4) (.cst (.int 0))) .nil)))) (.cons (.set 6 [] (.call "line_need" (.cons (.var 4) (.cons (.var 5) .nil)))) (.cons (.ifs (.or (.isi .bool (.varB 6)) (.one (.cmp .NotEq (.varB 6) (.call "_law_line_need" (.cons (.var 4) (.cons (.var 5) .nil)))))) (.cons (.ret (.cst (.bool false))) .nil) .nil) (.cons (.set 7 [] (.call "plan_of_line" (.cons (.var 4) (.cons (.var 5) .nil)))) (.cons (.ifs (.or (.not (.isi .tuple (.varB 7))) (.or (.cmp .NotEq (.blt .len (.cons (.varB 7) .nil)) (.ix (.varB 4) (.cst (.int 0)))) (.one (.not (.call "_law_catches" (.cons (.var 4) (.cons (.var 7) (.cons (.cst (.str "unseen")) (.cons (.var 6) .nil))))))))) (.cons (.ret (.cst (.bool false))) .nil) .nil) (.cons (.set 8 [] (.call "_law_walk" (.cons (.var 4) (.cons (.var 7) (.cons (.cst (.str "unseen")) .nil))))) (.cons (.fors [] (.var 9) (.rng1 (.ix (.varB 4) (.cst (.int 0)))) (.cons (.ifs (.cmp .NotEq (.ix (.varB 7) (.varB 9)) (.blt .tuple (.cons (.sset (.bin .Add (.call "_law_border" (.cons (.var 4) (.cons (.slc (.varB 5) .none (.some (.var 9))) .nil))) (.lst (.cons (.ix (.varB 5) (.varB 9)) .nil)))) .nil))) (.cons (.ret (.cst (.bool false))) .nil) .nil) (.cons (.ifs (.cmp .NotEq (.ix (.varB 8) (.varB 9)) (.blt .tuple (.cons (.blt .sorted (.cons (.slc (.varB 5) (.some (.bin .Add (.varB 9) (.cst (.int 1)))) .none) .nil)) .nil))) (.cons (.ret (.cst (.bool false))) .nil) .nil) .nil))) .nil)))))))))) (.cons (.ret (.cst (.bool true))) .nil))
def b_line_need : Ss := (.cons (.set 2 [] (.call "neighbour_masks" (.cons (.var 0) .nil))) (.cons (.set 3 [] (.cst (.int 0))) (.cons (.set 4 [] (.cst (.int 0))) (.cons (.fors [] (.var 5) (.val (.var 1)) (.cons (.set 4 [] (.blt .max (.cons (.varB 4) (.cons (.bin .Add (.cst (.int 1)) (.call "size_of" (.cons (.call "border_mask" (.cons (.var 2) (.cons (.var 3) .nil))) .nil))) .nil)))) (.cons (.set 3 [] (.bin .BitOr (.varB 3) (.bin .LShift (.cst (.int 1)) (.varB 5)))) .nil))) (.cons (.ret (.var 4)) .nil)))))
def b_mask_of : Ss := (.cons (.set 1 [] (.cst (.int 0))) (.cons (.fors [] (.var 2) (.val (.var 0)) (.cons (.set 1 [] (.bin .BitOr (.varB 1) (.bin .LShift (.cst (.int 1)) (.varB 2)))) .nil)) (.cons (.ret (.var 1)) .nil)))
def b_needs_by_gone : Ss := (.cons (.setF 1 [] (.lst (.cons (.cst (.int 0)) .nil))) (.cons (.setF 2 [] (.lst (.cons (.cst (.int 0)) .nil))) (.cons (.fors [] (.var 3) (.rng2 (.cst (.int 1)) (.bin .LShift (.cst (.int 1)) (.blt .len (.cons (.varB 0) .nil)))) (.cons (.setF 4 [] (.lst .nil)) (.cons (.fors [] (.var 5) (.val (.call "nodes_of" (.cons (.var 3) .nil))) (.cons (.set 6 [] (.bin .BitAnd (.varB 3) (.un .Invert (.bin .LShift (.cst (.int 1)) (.varB 5))))) (.cons (.app 4 [] (.tup (.cons (.blt .max (.cons (.ix (.varB 1) (.varB 6)) (.cons (.bin .Add (.cst (.int 1)) (.call "size_of" (.cons (.call "beyond" (.cons (.var 0) (.cons (.var 6) (.cons (.var 5) .nil)))) .nil))) .nil))) (.cons (.var 5) .nil)))) .nil))) (.cons (.asg [] (.tup (.cons (.var 7) (.cons (.var 5) .nil))) (.blt .min (.cons (.varB 4) .nil))) (.cons (.app 1 [] (.var 7)) (.cons (.app 2 [] (.var 5)) .nil)))))) (.cons (.ret (.tup (.cons (.var 1) (.cons (.var 2) .nil)))) .nil))))
def b_neighbour_masks : Ss := (.cons (.setF 1 [] (.bin .Mult (.lst (.cons (.cst (.int 0)) .nil)) (.ix (.varB 0) (.cst (.int 0))))) (.cons (.fors [] (.tup (.cons (.var 2) (.cons (.var 3) .nil))) (.val (.ix (.varB 0) (.cst (.int 1)))) (.cons (.sto 1 [] (.var 2) (.bin .BitOr (.ix (.varB 1) (.varB 2)) (.bin .LShift (.cst (.int 1)) (.varB 3)))) (.cons (.sto 1 [] (.var 3) (.bin .BitOr (.ix (.varB 1) (.varB 3)) (.bin .LShift (.cst (.int 1)) (.varB 2)))) .nil))) (.cons (.ret (.var 1)) .nil)))
def b_next_parts : Ss := (.cons (.set 4 [] (.bin .Sub (.bin .LShift (.cst (.int 1)) (.blt .len (.cons (.varB 0) .nil))) (.cst (.int 1)))) (.cons (.set 5 [] (.call "spread" (.cons (.var 0) (.cons (.var 2) (.cons (.bin .BitAnd (.varB 4) (.un .Invert (.bin .BitAnd (.varB 1) (.varB 3)))) .nil))))) (.cons (.ret (.lc [6] (.var 6) (.val (.call "part_masks" (.cons (.var 0) (.cons (.bin .BitAnd (.varB 4) (.un .Invert (.var 3))) .nil)))) (.some (.cmp .NotEq (.bin .BitAnd (.varB 6) (.varB 5)) (.cst (.int 0)))) (.var 6))) .nil)))
def b_nodes_of : Ss := (.cons (.ret (.blt .tuple (.cons (.lc [1] (.var 1) (.rng1 (.bits (.varB 0))) (.some (.cmp .Eq (.bin .BitAnd (.bin .RShift (.varB 0) (.varB 1)) (.cst (.int 1))) (.cst (.int 1)))) (.var 1)) .nil))) .nil)
def b_order_need : Ss := (.cons (.set 2 [] (.call "neighbour_masks" (.cons (.var 0) .nil))) (.cons (.set 3 [] (.cst (.int 0))) (.cons (.set 4 [] (.cst (.int 0))) (.cons (.fors [] (.var 5) (.val (.var 1)) (.cons (.set 4 [] (.blt .max (.cons (.varB 4) (.cons (.bin .Add (.cst (.int 1)) (.call "size_of" (.cons (.call "beyond" (.cons (.var 2) (.cons (.var 3) (.cons (.var 5) .nil)))) .nil))) .nil)))) (.cons (.set 3 [] (.bin .BitOr (.varB 3) (.bin .LShift (.cst (.int 1)) (.varB 5)))) .nil))) (.cons (.ret (.var 4)) .nil)))))
def b_part_masks : Ss := (.cons (.setF 2 [] (.lst .nil)) (.cons (.set 3 [] (.var 1)) (.cons (.whl (.cmp .NotEq (.varB 3) (.cst (.int 0))) (.cons (.set 4 [] (.call "spread" (.cons (.var 0) (.cons (.bin .BitAnd (.varB 3) (.un .USub (.var 3))) (.cons (.var 1) .nil))))) (.cons (.app 2 [] (.var 4)) (.cons (.set 3 [] (.bin .BitAnd (.varB 3) (.un .Invert (.var 4)))) .nil)))) (.cons (.ret (.var 2)) .nil))))
def b_parts : Ss := (.cons (.set 2 [] (.bin .BitAnd (.call "all_nodes" (.cons (.var 0) .nil)) (.un .Invert (.call "mask_of" (.cons (.var 1) .nil))))) (.cons (.ret (.blt .tuple (.cons (.lc [3] (.var 3) (.val (.call "part_masks" (.cons (.call "neighbour_masks" (.cons (.var 0) .nil)) (.cons (.var 2) .nil)))) .none (.call "nodes_of" (.cons (.var 3) .nil))) .nil))) .nil))
def b_plan_of : Ss := (.cons (.setF 1 [] (.lst .nil)) (.cons (.fors [] (.tup (.cons (.var 2) (.cons (.var 3) .nil))) (.val (.var 0)) (.cons (.ifs (.cmp .GtE (.varB 3) (.cst (.int 0))) (.cons (.app 1 [] (.call "nodes_of" (.cons (.bin .BitAnd (.call "mask_of" (.cons (.var 2) .nil)) (.call "mask_of" (.cons (.ix (.ix (.varB 0) (.varB 3)) (.cst (.int 0))) .nil))) .nil))) .nil) .nil) (.cons (.app 1 [] (.var 2)) .nil))) (.cons (.ret (.blt .tuple (.cons (.varB 1) .nil))) .nil)))
def b_plan_of_line : Ss := (.cons (.set 2 [] (.call "neighbour_masks" (.cons (.var 0) .nil))) (.cons (.set 3 [] (.cst (.int 0))) (.cons (.setF 4 [] (.lst .nil)) (.cons (.fors [] (.var 5) (.val (.var 1)) (.cons (.app 4 [] (.call "nodes_of" (.cons (.bin .BitOr (.call "border_mask" (.cons (.var 2) (.cons (.var 3) .nil))) (.bin .LShift (.cst (.int 1)) (.varB 5))) .nil))) (.cons (.set 3 [] (.bin .BitOr (.varB 3) (.bin .LShift (.cst (.int 1)) (.varB 5)))) .nil))) (.cons (.ret (.blt .tuple (.cons (.varB 4) .nil))) .nil)))))
def b_rooms_hold_v2 : Ss := (.cons (.ifs (.not (.call "is_tree" (.cons (.var 2) .nil))) (.cons (.ret (.cst (.bool false))) .nil) .nil) (.cons (.setF 3 [] (.lc [9, 11] (.tup (.cons (.var 9) (.cons (.var 11) .nil))) (.val (.varB 2)) .none (.call "mask_of" (.cons (.var 9) .nil)))) (.cons (.setF 4 [] (.bin .Mult (.lst (.cons (.cst (.int 0)) .nil)) (.ix (.varB 0) (.cst (.int 0))))) (.cons (.fors [] (.tup (.cons (.var 6) (.cons (.tup (.cons (.var 9) (.cons (.var 10) .nil))) .nil))) (.enm (.var 2)) (.cons (.ifs (.cmp .Gt (.blt .len (.cons (.varB 9) .nil)) (.varB 1)) (.cons (.ret (.cst (.bool false))) .nil) .nil) (.cons (.fors [] (.var 7) (.val (.var 9)) (.cons (.ifs (.or (.cmp .Eq (.varB 6) (.cst (.int 0))) (.one (.cmp .Eq (.bin .BitAnd (.bin .RShift (.ix (.varB 3) (.varB 10)) (.varB 7)) (.cst (.int 1))) (.cst (.int 0))))) (.cons (.sto 4 [] (.var 7) (.bin .Add (.ix (.varB 4) (.varB 7)) (.cst (.int 1)))) .nil) .nil) .nil)) .nil))) (.cons (.ifs (.cmp .NotEq (.varB 4) (.bin .Mult (.lst (.cons (.cst (.int 1)) .nil)) (.ix (.varB 0) (.cst (.int 0))))) (.cons (.ret (.cst (.bool false))) .nil) .nil) (.cons (.fors [] (.var 5) (.val (.ix (.varB 0) (.cst (.int 1)))) (.cons (.set 8 [] (.call "mask_of" (.cons (.var 5) .nil))) (.cons (.ifs (.cmp .Eq (.lc [12] (.var 12) (.val (.varB 3)) (.some (.cmp .Eq (.bin .BitAnd (.varB 12) (.varB 8)) (.varB 8))) (.var 12)) (.lst .nil)) (.cons (.ret (.cst (.bool false))) .nil) .nil) .nil))) (.cons (.ret (.cst (.bool true))) .nil)))))))
def b_rooms_of : Ss := (.cons (.set 2 [] (.call "neighbour_masks" (.cons (.var 0) .nil))) (.cons (.setD 3 [] (.dc [9, 6] (.tup (.cons (.var 9) (.cons (.var 6) .nil))) (.enm (.varB 1)) .none (.var 6) (.bin .Sub (.bin .Sub (.blt .len (.cons (.varB 1) .nil)) (.cst (.int 1))) (.varB 9)))) (.cons (.set 4 [] (.call "all_nodes" (.cons (.var 0) .nil))) (.cons (.setF 5 [] (.lst .nil)) (.cons (.fors [] (.var 6) (.rev (.var 1)) (.cons (.set 4 [] (.bin .BitAnd (.varB 4) (.un .Invert (.bin .LShift (.cst (.int 1)) (.varB 6))))) (.cons (.set 7 [] (.call "nodes_of" (.cons (.call "beyond" (.cons (.var 2) (.cons (.var 4) (.cons (.var 6) .nil)))) .nil))) (.cons (.set 8 [] (.blt .max (.cons (.bin .Add (.lc [10] (.var 10) (.val (.varB 7)) .none (.ix (.varB 3) (.varB 10))) (.lst (.cons (.blt .min (.cons (.cst (.int 0)) (.cons (.bin .Sub (.blt .len (.cons (.varB 5) .nil)) (.cst (.int 1))) .nil))) .nil))) .nil))) (.cons (.app 5 [] (.tup (.cons (.call "nodes_of" (.cons (.bin .BitOr (.call "mask_of" (.cons (.var 7) .nil)) (.bin .LShift (.cst (.int 1)) (.varB 6))) .nil)) (.cons (.var 8) .nil)))) .nil))))) (.cons (.ret (.blt .tuple (.cons (.varB 5) .nil))) .nil))))))
def b_size_of : Ss := (.cons (.ret (.blt .len (.cons (.call "nodes_of" (.cons (.var 0) .nil)) .nil))) .nil)
def b_spread : Ss := (.cons (.set 3 [] (.var 1)) (.cons (.set 4 [] (.var 1)) (.cons (.whl (.cmp .NotEq (.varB 4) (.cst (.int 0))) (.cons (.set 4 [] (.bin .BitAnd (.bin .BitAnd (.call "around" (.cons (.var 0) (.cons (.var 4) .nil))) (.varB 2)) (.un .Invert (.var 3)))) (.cons (.set 3 [] (.bin .BitOr (.varB 3) (.varB 4))) .nil))) (.cons (.ret (.var 3)) .nil))))
end Pv

end
section
namespace Pv
open PySem

/-! ### reading the bodies: what is computed, step by step -/
def iteS (a b : SR) : D → SR
  | .bool k => if k then a else b
  | _ => .st
@[simp] theorem iteS_b (a b : SR) (k : Bool) : iteS a b (.bool k) = if k then a else b := id rfl
@[simp] theorem ev_cst (d : D) : ev (E.cst d) = (fun _ _ => .ok d) := id rfl
@[simp] theorem ev_var (i : Nat) : ev (E.var i) = (fun _ ρ => rdV i ρ) := id rfl
@[simp] theorem ev_varB (i : Nat) : ev (E.varB i) = (fun _ ρ => rdB i ρ) := id rfl
@[simp] theorem ev_glob (d : D) : ev (E.glob d) = (fun _ _ => .ok d) := id rfl
@[simp] theorem ev_bin (op : Operator) (a : E) (b : E) : ev (E.bin op a b) = (fun Φ ρ => do let x ← ev a Φ ρ; let y ← ev b Φ ρ; Res.ofO (binop op x y)) := id rfl
@[simp] theorem ev_un (op : UnaryOp) (a : E) : ev (E.un op a) = (fun Φ ρ => do let x ← ev a Φ ρ; Res.ofO (unop op x)) := id rfl
@[simp] theorem ev_cmp (op : CmpOp) (a : E) (b : E) : ev (E.cmp op a b) = (fun Φ ρ => do let x ← ev a Φ ρ; let y ← ev b Φ ρ; cmpR op x y) := id rfl
@[simp] theorem ev_one (a : E) : ev (E.one a) = (ev a) := id rfl
@[simp] theorem ev_and (a : E) (b : E) : ev (E.and a b) = (fun Φ ρ => andR (ev a Φ ρ) (ev b Φ ρ)) := id rfl
@[simp] theorem ev_or (a : E) (b : E) : ev (E.or a b) = (fun Φ ρ => orR (ev a Φ ρ) (ev b Φ ρ)) := id rfl
@[simp] theorem ev_not (a : E) : ev (E.not a) = (fun Φ ρ => notR (ev a Φ ρ)) := id rfl
@[simp] theorem ev_ite (t : E) (a : E) (b : E) : ev (E.ite t a b) = (fun Φ ρ => iteR (ev t Φ ρ) (ev a Φ ρ) (ev b Φ ρ)) := id rfl
@[simp] theorem ev_tup (es : Es) : ev (E.tup es) = (fun Φ ρ => do let r ← evs es Φ ρ; smL r .tuple) := id rfl
@[simp] theorem ev_lst (es : Es) : ev (E.lst es) = (fun Φ ρ => do let r ← evs es Φ ρ; smL r .list) := id rfl
@[simp] theorem ev_ix (a : E) (b : E) : ev (E.ix a b) = (fun Φ ρ => do let x ← ev a Φ ρ; let y ← ev b Φ ρ; Res.ofO (ixop x y)) := id rfl
@[simp] theorem ev_slc (a : E) (lo : Eo) (hi : Eo) : ev (E.slc a lo hi) = (fun Φ ρ => do let x ← ev a Φ ρ; let l ← evo lo Φ ρ; let h ← evo hi Φ ρ; Res.ofO (slop x l h)) := id rfl
@[simp] theorem ev_blt (b : Bn) (es : Es) : ev (E.blt b es) = (fun Φ ρ => do let r ← evs es Φ ρ; Res.ofO (bltop b r)) := id rfl
@[simp] theorem ev_isi (k : Cl) (a : E) : ev (E.isi k a) = (fun Φ ρ => do let x ← ev a Φ ρ; pure (.bool (isiop k x))) := id rfl
@[simp] theorem ev_bits (a : E) : ev (E.bits a) = (fun Φ ρ => do let x ← ev a Φ ρ; bitR x) := id rfl
@[simp] theorem ev_rg1 (k : Bool) (a : E) : ev (E.rg1 k a) = (fun Φ ρ => do let x ← ev a Φ ρ; Res.ofO (rgop (kfn k) [x])) := id rfl
@[simp] theorem ev_rg2 (k : Bool) (a b : E) : ev (E.rg2 k a b) = (fun Φ ρ => do let x ← ev a Φ ρ; let y ← ev b Φ ρ; Res.ofO (rgop (kfn k) [x, y])) := id rfl
@[simp] theorem ev_lset (a : E) : ev (E.lset a) = (fun Φ ρ => do let x ← ev a Φ ρ; lsR2 x) := id rfl
@[simp] theorem ev_sset (a : E) : ev (E.sset a) = (fun Φ ρ => do let x ← ev a Φ ρ; ssR x) := id rfl
@[simp] theorem ev_idx (a b : E) : ev (E.idx a b) = (fun Φ ρ => do let x ← ev a Φ ρ; idxR x (ev b Φ ρ)) := id rfl
@[simp] theorem ev_dnil : ev E.dnil = dNil := id rfl
@[simp] theorem dNil_eq (Φ : Calls) (ρ : Env) : dNil Φ ρ = .ok (.dict []) := id rfl
@[simp] theorem ev_dc (own : List Nat) (t : Tg) (it : It) (cond : Eo) (k v : E) : ev (E.dc own t it cond k v) = (dcE own t (evi it) (evc cond) (ev k) (ev v)) := id rfl
@[simp] theorem ex_setD (i : Nat) (is : List Nat) (e : E) : ex (S.setD i is e) = (fun Φ ρ => stD i (ev e Φ (dis is ρ)) (dis is ρ)) := id rfl
@[simp] theorem ex_stoD (i : Nat) (is : List Nat) (k : E) (e : E) : ex (S.stoD i is k e) = (fun Φ ρ => setSD i (dis is ρ) (ev e Φ (dis is ρ)) (ev k Φ (dis is ρ))) := id rfl
@[simp] theorem ev_trev (a : E) : ev (E.trev a) = (fun Φ ρ => do let x ← ev a Φ ρ; trev x) := id rfl
@[simp] theorem ev_chain (a : E) (op : CmpOp) (b : E) (r : Ch) : ev (E.chain a op b r) = (fun Φ ρ => do let x ← ev a Φ ρ; linkC op (ev b) (evch r) Φ ρ x) := id rfl
@[simp] theorem evch_last (op : CmpOp) (b : E) : evch (Ch.last op b) = lastC op (ev b) := id rfl
@[simp] theorem evch_link (op : CmpOp) (b : E) (r : Ch) : evch (Ch.link op b r) = linkC op (ev b) (evch r) := id rfl
@[simp] theorem lastC_eq (op : CmpOp) (f : EvE) (Φ : Calls) (ρ : Env) (x : D) : lastC op f Φ ρ x = (do let y ← f Φ ρ; cmpR op x y) := id rfl
@[simp] theorem linkC_eq (op : CmpOp) (f : EvE) (g : Calls → Env → D → Res D) (Φ : Calls) (ρ : Env) (x : D) : linkC op f g Φ ρ x = (do let y ← f Φ ρ; tst (cmpR op x y) fun k => if k then g Φ ρ y else .ok (.bool false)) := id rfl
@[simp] theorem trev_l (ds : List D) : trev (.list ds) = .ok (.tuple ds.reverse) := id rfl
@[simp] theorem ex_rem (i : Nat) (is : List Nat) (e : E) : ex (S.rem i is e) = (fun Φ ρ => remS i (dis is ρ) (ev e Φ (dis is ρ))) := id rfl
@[simp] theorem kfn_t (xs : List D) : kfn true xs = .tuple xs := id rfl
@[simp] theorem kfn_f (xs : List D) : kfn false xs = .list xs := id rfl
@[simp] theorem ev_call (f : Str) (es : Es) : ev (E.call f es) = (fun Φ ρ => do let r ← evs es Φ ρ; Φ f r) := id rfl
@[simp] theorem ev_lent (f : Str) (es : Es) : ev (E.lent f es) = (fun Φ ρ => do let r ← evs es Φ ρ; purR (Φ f r)) := id rfl
@[simp] theorem ev_lc (own : List Nat) (t : Tg) (it : It) (cond : Eo) (elt : E) : ev (E.lc own t it cond elt) = (lcE own t (evi it) (evc cond) (ev elt)) := id rfl
@[simp] theorem evs_nil  : evs (Es.nil ) = (fun _ _ => .ok []) := id rfl
@[simp] theorem evs_cons (a : E) (es : Es) : evs (Es.cons a es) = (fun Φ ρ => do let x ← ev a Φ ρ; let r ← evs es Φ ρ; pure (x :: r)) := id rfl
@[simp] theorem evo_none  : evo (Eo.none ) = (fun _ _ => .ok none) := id rfl
@[simp] theorem evo_some (a : E) : evo (Eo.some a) = (fun Φ ρ => intR (ev a Φ ρ)) := id rfl
@[simp] theorem evc_none  : evc (Eo.none ) = (fun _ _ => .ok (.bool true)) := id rfl
@[simp] theorem evc_some (a : E) : evc (Eo.some a) = (ev a) := id rfl
@[simp] theorem evi_val (a : E) : evi (It.val a) = (fun Φ ρ => do let d ← ev a Φ ρ; itemsOf d) := id rfl
@[simp] theorem evi_rev (a : E) : evi (It.rev a) = (fun Φ ρ => do let d ← ev a Φ ρ; let r ← seqOf d; pure r.reverse) := id rfl
@[simp] theorem evi_enm (a : E) : evi (It.enm a) = (fun Φ ρ => do let d ← ev a Φ ρ; let r ← seqOf d; pure (enumFrom 0 r)) := id rfl
@[simp] theorem evi_rng1 (a : E) : evi (It.rng1 a) = (fun Φ ρ => do let x ← ev a Φ ρ; rng [x]) := id rfl
@[simp] theorem evi_rng2 (a : E) (b : E) : evi (It.rng2 a b) = (fun Φ ρ => do let x ← ev a Φ ρ; let y ← ev b Φ ρ; rng [x, y]) := id rfl
@[simp] theorem evi_rng3 (a : E) (b : E) (d : E) : evi (It.rng3 a b d) = (fun Φ ρ => do let x ← ev a Φ ρ; let y ← ev b Φ ρ; let z ← ev d Φ ρ; rng [x, y, z]) := id rfl
@[simp] theorem ex_pass  : ex (S.pass ) = (fun _ ρ => .nx ρ) := id rfl
@[simp] theorem ex_brk  : ex (S.brk ) = (fun _ ρ => .bk ρ) := id rfl
@[simp] theorem ex_cont  : ex (S.cont ) = (fun _ ρ => .ct ρ) := id rfl
@[simp] theorem ex_ret (e : E) : ex (S.ret e) = (fun Φ ρ => onE (ev e Φ (clr ρ)) ρ .rt) := id rfl
@[simp] theorem ex_expr (e : E) : ex (S.expr e) = (fun Φ ρ => onE (ev e Φ ρ) ρ fun _ => .nx ρ) := id rfl
@[simp] theorem ex_ifs (t : E) (a : Ss) (b : Ss) : ex (S.ifs t a b) = (fun Φ ρ => onE (ev t Φ ρ) ρ (iteS (exs a Φ ρ) (exs b Φ ρ))) := id rfl
@[simp] theorem ex_set (i : Nat) (is : List Nat) (e : E) : ex (S.set i is e) = (fun Φ ρ => onE (ev e Φ (dis is ρ)) (dis is ρ) fun d => .nx ((dis is ρ).set i (some (false, d)))) := id rfl
@[simp] theorem ex_setF (i : Nat) (is : List Nat) (e : E) : ex (S.setF i is e) = (fun Φ ρ => stF i (ev e Φ (dis is ρ)) (dis is ρ)) := id rfl
@[simp] theorem ex_asg (is : List Nat) (t : Tg) (e : E) : ex (S.asg is t e) = (fun Φ ρ => onE (ev e Φ (dis is ρ)) (dis is ρ) fun d => asgS t d (dis is ρ) .nx) := id rfl
@[simp] theorem ex_fors (is : List Nat) (t : Tg) (it : It) (b : Ss) : ex (S.fors is t it b) = (fun Φ ρ => onE (evi it Φ (dis is ρ)) (dis is ρ) fun ds => forL t (exs b Φ) ds (dis is ρ)) := id rfl
@[simp] theorem ex_whl (t : E) (b : Ss) : ex (S.whl t b) = (fun Φ ρ => whileN (ev t Φ) (exs b Φ) FUEL ρ) := id rfl
@[simp] theorem ex_app (i : Nat) (is : List Nat) (e : E) : ex (S.app i is e) = (fun Φ ρ => apS i (dis is ρ) (ev e Φ (dis is ρ))) := id rfl
@[simp] theorem ex_ext (i : Nat) (is : List Nat) (e : E) : ex (S.ext i is e) = (fun Φ ρ => exS i (dis is ρ) (ev e Φ (dis is ρ))) := id rfl
@[simp] theorem ex_sto (i : Nat) (is : List Nat) (k : E) (e : E) : ex (S.sto i is k e) = (fun Φ ρ => setS i (dis is ρ) (ev e Φ (dis is ρ)) (ev k Φ (dis is ρ))) := id rfl
@[simp] theorem exs_nil  : exs (Ss.nil ) = (fun _ ρ => .nx ρ) := id rfl
@[simp] theorem exs_cons (s : S) (ss : Ss) : exs (Ss.cons s ss) = (fun Φ ρ => (ex s Φ ρ).seq (exs ss Φ)) := id rfl

def nD (n : Nat) : D := .int (n : Int)
theorem nD_eq (n : Nat) : nD n = .int (n : Int) := rfl
theorem nD_inj {a b : Nat} (h : nD a = nD b) : a = b := by
  have := PyData.int.inj h
  omega
@[simp] theorem int_0 : (PyData.int 0) = nD 0 := id rfl
@[simp] theorem int_1 : (PyData.int 1) = nD 1 := id rfl
@[simp] theorem int_lit (n : Nat) : (PyData.int (no_index (OfNat.ofNat n))) = nD (OfNat.ofNat n) := id rfl
abbrev natsT (l : List Nat) : D := .tuple (l.map nD)
abbrev natsL (l : List Nat) : D := .list (l.map nD)
@[simp] theorem endR_rt (d : D) : endR (.rt d) = .ok d := id rfl
@[simp] theorem endR_nx (ρ : Env) : endR (.nx ρ) = .ok .none := id rfl
@[simp] theorem endR_ex (c : Str) (ρ : Env) : endR (.ex c ρ) = .ex c := id rfl
theorem run_of {np nN : Nat} {b : Ss} {Φ : Calls} {ds : List D} (h : ds.length = np) : runB np nN b Φ ds = endR (exs b Φ (start1 nN ds)) := by
  unfold runB
  rw [if_pos h]
/-! names -/
@[simp] theorem rdV_0 (d : D) (r : Env) : rdV 0 (some (false, d) :: r) = .ok d := id rfl
@[simp] theorem rdV_s (i : Nat) (x : Option (Bool × D)) (r : Env) : rdV (i + 1) (x :: r) = rdV i r := id rfl
@[simp] theorem rdB_0 (b : Bool) (d : D) (r : Env) : rdB 0 (some (b, d) :: r) = .ok d := id rfl
@[simp] theorem rdB_s (i : Nat) (x : Option (Bool × D)) (r : Env) : rdB (i + 1) (x :: r) = rdB i r := id rfl
@[simp] theorem clr_nil : clr [] = [] := id rfl
@[simp] theorem clr_some (b : Bool) (d : D) (r : Env) : clr (some (b, d) :: r) = some (false, d) :: clr r := id rfl
@[simp] theorem clr_none (r : Env) : clr (none :: r) = none :: clr r := id rfl
@[simp] theorem dis_nil (ρ : Env) : dis [] ρ = ρ := id rfl
@[simp] theorem dis_cons (i : Nat) (is : List Nat) (ρ : Env) : dis (i :: is) ρ = dis is (dis1 i ρ) := id rfl
@[simp] theorem dis1_0 (b : Bool) (d : D) (r : Env) : dis1 0 (some (b, d) :: r) = some (false, d) :: r := by
  cases b <;> exact id rfl
@[simp] theorem dis1_0n (r : Env) : dis1 0 (none :: r) = none :: r := id rfl
@[simp] theorem dis1_s (i : Nat) (x : Option (Bool × D)) (r : Env) : dis1 (i + 1) (x :: r) = x :: dis1 i r := by
  unfold dis1
  rw [List.getElem?_cons_succ]
  cases h : r[i]? with
  | none => rfl
  | some o =>
    cases o with
    | none => rfl
    | some p =>
      obtain ⟨b, d⟩ := p
      cases b <;> rfl
theorem dis1_t {i : Nat} {ρ : Env} {d : D} (h : ρ[i]? = some (some (true, d))) : dis1 i ρ = ρ.set i (some (false, d)) := by unfold dis1; rw [h]
theorem dis1_f {i : Nat} {ρ : Env} {d : D} (h : ρ[i]? = some (some (false, d))) : dis1 i ρ = ρ := by unfold dis1; rw [h]
theorem dis1_n {i : Nat} {ρ : Env} (h : ρ[i]? = some none) : dis1 i ρ = ρ := by unfold dis1; rw [h]
@[simp] theorem asgT_var (i : Nat) (d : D) (ρ : Env) : asgT (.var i) d ρ = .ok (ρ.set i (some (false, d))) := id rfl
@[simp] theorem asgT_tup2 (s t : Tg) (d e : D) (ρ : Env) : asgT (.tup (.cons s (.cons t .nil))) (.tuple [d, e]) ρ = (asgT s d ρ >>= fun ρ => asgT t e ρ) := by
  show (asgT s d ρ >>= fun ρ => asgT t e ρ >>= fun ρ => .ok ρ) = _
  cases asgT s d ρ with
  | ok ρ1 =>
    show (asgT t e ρ1 >>= fun ρ => .ok ρ) = asgT t e ρ1
    cases asgT t e ρ1 <;> rfl
  | st => rfl
  | ex c => rfl
@[simp] theorem asgS_ok (t : Tg) (d : D) (ρ ρ' : Env) (k : Env → SR) (h : asgT t d ρ = .ok ρ') : asgS t d ρ k = k ρ' := by unfold asgS; rw [h]
@[simp] theorem itemsOf_l (ds : List D) : itemsOf (.list ds) = .ok ds := id rfl
@[simp] theorem itemsOf_t (ds : List D) : itemsOf (.tuple ds) = .ok ds := id rfl
@[simp] theorem seqOf_l (ds : List D) : seqOf (.list ds) = .ok ds := id rfl
@[simp] theorem seqOf_t (ds : List D) : seqOf (.tuple ds) = .ok ds := id rfl
def bl (m : Nat) : Nat := Builtin.Int.intBits (m : Int)
@[simp] theorem bitR_i (i : Nat) : bitR (nD i) = .ok (nD (bl i)) := id rfl
@[simp] theorem intR_ok (i : Nat) : intR (.ok (nD i)) = .ok (some (i : Int)) := id rfl
@[simp] theorem noex_ok {α : Type} (a : α) : noex (.ok a : Res α) = .ok a := id rfl
@[simp] theorem stF_ok (i : Nat) (ds : List D) (ρ : Env) (h : i < ρ.length) : stF i (.ok (.list ds)) ρ = .nx (ρ.set i (some (true, .list ds))) := by
  show (if i < ρ.length then SR.nx (ρ.set i (some (true, .list ds))) else .st) = _
  rw [if_pos h]
theorem ownL_ok {i : Nat} {ρ : Env} {ds : List D} (k : List D → SR) (h : ρ[i]? = some (some (true, .list ds))) : ownL i ρ k = k ds := by unfold ownL; rw [h]
theorem apS_ok {i : Nat} {ρ : Env} {ds : List D} {d : D} (h : ρ[i]? = some (some (true, .list ds))) (hs : ds.length ≤ 1000000) : apS i ρ (.ok d) = .nx (ρ.set i (some (true, .list (ds ++ [d])))) := by
  unfold apS
  rw [ownL_ok _ h, onE_ok]
  unfold sm
  rw [if_pos (decide_eq_true hs)]
theorem setS_ok {i : Nat} {ρ : Env} {ds : List D} {d : D} {n : Nat} (h : ρ[i]? = some (some (true, .list ds))) (hs : n < ds.length) : setS i ρ (.ok d) (.ok (nD n)) = .nx (ρ.set i (some (true, .list (ds.set n d)))) := by
  unfold setS
  rw [ownL_ok _ h, onE_ok, onE_ok]
  have e : L2.ixN ds.length (n : Int) = some n := by
    unfold L2.ixN
    simp [hs]
  show (match L2.ixN ds.length (n : Int) with | some j => SR.nx (ρ.set i (some (true, .list (ds.set j d)))) | none => .st) = _
  rw [e]
/-! tests -/
@[simp] theorem andR_ok (b : Bool) (m : Res D) : andR (.ok (.bool b)) m = if b then m else .ok (.bool false) := id rfl
@[simp] theorem orR_ok (b : Bool) (m : Res D) : orR (.ok (.bool b)) m = if b then .ok (.bool true) else m := id rfl
@[simp] theorem notR_ok (b : Bool) : notR (.ok (.bool b)) = .ok (.bool !b) := id rfl
@[simp] theorem iteR_ok (b : Bool) (x y : Res D) : iteR (.ok (.bool b)) x y = if b then x else y := id rfl
@[simp] theorem smL_ok (xs : List D) (f : List D → D) (h : xs.length ≤ 1000000) : smL xs f = .ok (f xs) := by
  unfold smL sm
  rw [if_pos (decide_eq_true h)]
@[simp] theorem purR_ok (d : D) (h : pureD d = true) : purR (.ok d) = .ok d := by
  show (if pureD d then Res.ok d else .st) = _
  rw [if_pos h]
theorem cmpR_of {op : CmpOp} {x y : D} {b : Bool} (h : cmpop op x y = some b) : cmpR op x y = .ok (.bool b) := by unfold cmpR; rw [h]; rfl
theorem cmpR_lt (i j : Int) : cmpR .Lt (.int i) (.int j) = .ok (.bool (decide (i < j))) := rfl
theorem cmpR_le (i j : Int) : cmpR .LtE (.int i) (.int j) = .ok (.bool (decide (i ≤ j))) := rfl
theorem cmpR_gt (i j : Int) : cmpR .Gt (.int i) (.int j) = .ok (.bool (decide (j < i))) := rfl
theorem cmpR_ge (i j : Int) : cmpR .GtE (.int i) (.int j) = .ok (.bool (decide (j ≤ i))) := rfl
theorem cmpR_eq (i j : Int) : cmpR .Eq (.int i) (.int j) = .ok (.bool (i == j)) := rfl
theorem cmpR_ne (i j : Int) : cmpR .NotEq (.int i) (.int j) = .ok (.bool (!(i == j))) := rfl
theorem beq_nn (i j : Nat) : ((i : Int) == (j : Int)) = (i == j) := by
  by_cases h : i = j
  · subst h; simp
  · have h2 : (i : Int) ≠ (j : Int) := by omega
    rw [beq_eq_false_iff_ne.mpr h, beq_eq_false_iff_ne.mpr h2]
@[simp] theorem cmpN_lt (i j : Nat) : cmpR .Lt (nD i) (nD j) = .ok (.bool (decide (i < j))) := by
  rw [nD_eq, nD_eq, cmpR_lt]; simp
@[simp] theorem cmpN_le (i j : Nat) : cmpR .LtE (nD i) (nD j) = .ok (.bool (decide (i ≤ j))) := by
  rw [nD_eq, nD_eq, cmpR_le]; simp
@[simp] theorem cmpN_gt (i j : Nat) : cmpR .Gt (nD i) (nD j) = .ok (.bool (decide (j < i))) := by
  rw [nD_eq, nD_eq, cmpR_gt]; simp
@[simp] theorem cmpN_ge (i j : Nat) : cmpR .GtE (nD i) (nD j) = .ok (.bool (decide (j ≤ i))) := by
  rw [nD_eq, nD_eq, cmpR_ge]; simp
@[simp] theorem cmpN_eq (i j : Nat) : cmpR .Eq (nD i) (nD j) = .ok (.bool (i == j)) := by
  rw [nD_eq, nD_eq, cmpR_eq, beq_nn]
@[simp] theorem cmpN_ne (i j : Nat) : cmpR .NotEq (nD i) (nD j) = .ok (.bool (!(i == j))) := by
  rw [nD_eq, nD_eq, cmpR_ne, beq_nn]
/-! operators -/
@[simp] theorem bin_add (i j : Nat) : binop .Add (nD i) (nD j) = some (nD (i + j)) := by
  show some (PyData.int _) = some (PyData.int _)
  rw [Int.natCast_add]
theorem bin_sub {i j : Nat} (h : j ≤ i) : binop .Sub (nD i) (nD j) = some (nD (i - j)) := by
  show some (PyData.int _) = some (PyData.int _)
  rw [Int.ofNat_sub h]
theorem bin_subI (i j : Int) : binop .Sub (.int i) (.int j) = some (.int (i - j)) := rfl
theorem bin_addI (i j : Int) : binop .Add (.int i) (.int j) = some (.int (i + j)) := rfl
theorem i64_of {n : Nat} (h : n < 2 ^ 64) : i64 (n : Int) = true := by
  unfold i64
  rw [decide_eq_true (by omega), decide_eq_true (by omega)]; rfl
theorem bin_mul {i j : Nat} (h : j < 2 ^ 64) : binop .Mult (nD i) (nD j) = some (nD (i * j)) := by
  show (if (i64 (i : Int) || i64 (j : Int)) = true then some (PyData.int ((i : Int) * j)) else none) = _
  rw [i64_of h, Bool.or_true, if_pos rfl]
  show some (PyData.int _) = some (PyData.int _)
  rw [Int.natCast_mul]
theorem bin_mulL {i j : Nat} (h : i < 2 ^ 64) : binop .Mult (nD i) (nD j) = some (nD (i * j)) := by
  show (if (i64 (i : Int) || i64 (j : Int)) = true then some (PyData.int ((i : Int) * j)) else none) = _
  rw [i64_of h, Bool.true_or, if_pos rfl]
  show some (PyData.int _) = some (PyData.int _)
  rw [Int.natCast_mul]
theorem bin_div {i j : Nat} (h : 0 < j) (h2 : j < 1073741824) : binop .FloorDiv (nD i) (nD j) = some (nD (i / j)) := by
  show (if (decide ((0 : Int) < (j : Int)) && decide ((j : Int) < 1073741824)) = true then some (PyData.int ((i : Int) / j)) else none) = _
  rw [decide_eq_true (by omega), decide_eq_true (by omega), if_pos (by rfl)]
  show some (PyData.int _) = some (PyData.int _)
  rw [Int.natCast_ediv]
theorem bin_mod {i j : Nat} (h : 0 < j) : binop .Mod (nD i) (nD j) = some (nD (i % j)) := by
  show (if (0 : Int) < (j : Int) then some (PyData.int ((i : Int) % j)) else none) = _
  rw [if_pos (by omega)]
  show some (PyData.int _) = some (PyData.int _)
  rw [Int.natCast_emod]
theorem or_nn (a b : Nat) : Builtin.bitOr (a : Int) (b : Int) = ((a ||| b : Nat) : Int) := by
  rw [L2.bitOr_nn (by omega) (by omega), Int.toNat_natCast, Int.toNat_natCast]
theorem and_nn (a b : Nat) : Builtin.bitAnd (a : Int) (b : Int) = ((a &&& b : Nat) : Int) := by
  rw [PyProof.Rows.bitAnd_pp (by omega) (by omega), Int.toNat_natCast, Int.toNat_natCast]
@[simp] theorem bin_and (i j : Nat) : binop .BitAnd (nD i) (nD j) = some (nD (i &&& j)) := by
  show some (PyData.int _) = some (PyData.int _)
  rw [and_nn]
@[simp] theorem bin_or (i j : Nat) : binop .BitOr (nD i) (nD j) = some (nD (i ||| j)) := by
  show some (PyData.int _) = some (PyData.int _)
  rw [or_nn]
theorem bin_shl {n : Nat} (h : n ≤ 1000000) : binop .LShift (nD 1) (nD n) = some (nD (2 ^ n)) := by
  show (if (decide ((0 : Int) ≤ (n : Int)) && decide ((n : Int) ≤ 1000000) && i64 1) = true then some (PyData.int (1 * 2 ^ (n : Int).toNat)) else none) = _
  have h1 : (decide ((0 : Int) ≤ (n : Int)) && decide ((n : Int) ≤ 1000000) && i64 1) = true := by
    rw [decide_eq_true (by omega), decide_eq_true (by omega)]; rfl
  rw [if_pos h1, Int.one_mul, Int.toNat_natCast]
  show some (PyData.int _) = some (PyData.int _)
  rw [Int.natCast_pow]; rfl
@[simp] theorem bin_shr {m n : Nat} : binop .RShift (nD m) (nD n) = some (nD (m / 2 ^ n)) := by
  show (if (0 : Int) ≤ (n : Int) then some (PyData.int ((m : Int) / 2 ^ (n : Int).toNat)) else none) = _
  rw [if_pos (by omega), Int.toNat_natCast]
  show some (PyData.int _) = some (PyData.int _)
  rw [Int.natCast_ediv, Int.natCast_pow]; rfl
@[simp] theorem bin_powK (a b : Nat) (h : b ≤ 1000000) (h2 : a < 2 ^ 64) : binop .Pow (nD a) (nD b) = some (nD (a ^ b)) := by
  show (if (decide ((0 : Int) ≤ (b : Int)) && decide ((b : Int) ≤ 1000000) && i64 (a : Int)) = true then some (PyData.int ((a : Int) ^ (b : Int).toNat)) else none) = _
  rw [decide_eq_true (by omega), decide_eq_true (by omega), i64_of h2, if_pos (by rfl), Int.toNat_natCast]
  show some (PyData.int _) = some (PyData.int _)
  rw [Int.natCast_pow]
/-- not b, minus b -/
def invD (b : Nat) : D := .int (Builtin.bitNot (b : Int))
def negD (b : Nat) : D := .int (-(b : Int))
@[simp] theorem un_neg (i : Nat) : unop .USub (nD i) = some (negD i) := id rfl
@[simp] theorem un_inv (i : Nat) : unop .Invert (nD i) = some (invD i) := id rfl
/-- the bits of a that b has not -/
def dif (a b : Nat) : Nat := a - (a &&& b)
theorem and_not (a b : Nat) : Builtin.bitAnd (a : Int) (Builtin.bitNot (b : Int)) = ((dif a b : Nat) : Int) := by
  have e : Builtin.bitNot (b : Int) = -(b : Int) - 1 := rfl
  rw [PyProof.Rows.bitAnd_pn (by omega) (by rw [e]; omega)]
  have e2 : (Builtin.bitNot (Builtin.bitNot (b : Int))).toNat = b := by
    show (-(-(b : Int) - 1) - 1).toNat = b
    omega
  rw [e2, Int.toNat_natCast]
  unfold dif
  have := Nat.and_le_left (n := a) (m := b)
  omega
@[simp] theorem bin_dif (a b : Nat) : binop .BitAnd (nD a) (invD b) = some (nD (dif a b)) := by
  show some (PyData.int _) = some (PyData.int _)
  rw [and_not]
theorem test_dif (a b i : Nat) : (dif a b).testBit i = (a.testBit i && !b.testBit i) := by
  have h : dif a b = a ^^^ (a &&& b) := by
    have e := Bits.nat_xor_add_and a (a &&& b)
    have e3 : a &&& (a &&& b) = a &&& b := by rw [← Nat.and_assoc, Nat.and_self]
    rw [e3] at e
    unfold dif
    omega
  rw [h, Nat.testBit_xor, Nat.testBit_and]
  cases a.testBit i <;> cases b.testBit i <;> rfl
/-! builtins, items -/
@[simp] theorem blt_lenL (xs : List D) : bltop .len [.list xs] = some (nD xs.length) := id rfl
@[simp] theorem blt_lenT (xs : List D) : bltop .len [.tuple xs] = some (nD xs.length) := id rfl
@[simp] theorem blt_tupL (xs : List D) : bltop .tuple [.list xs] = some (.tuple xs) := id rfl
@[simp] theorem blt_tupT (xs : List D) : bltop .tuple [.tuple xs] = some (.tuple xs) := id rfl
@[simp] theorem blt_lstL (xs : List D) : bltop .list [.list xs] = some (.list xs) := id rfl
@[simp] theorem blt_lstT (xs : List D) : bltop .list [.tuple xs] = some (.list xs) := id rfl
@[simp] theorem blt_int (i : Int) : bltop .int [.int i] = some (.int i) := id rfl
theorem atI_nn {α : Type} (xs : List α) (n : Nat) : L2.atI xs (n : Int) = xs[n]? := by
  unfold L2.atI L2.ixN
  rw [if_pos (by omega)]
  by_cases h : n < xs.length
  · rw [if_pos (by omega)]; simp
  · rw [if_neg (by omega), List.getElem?_eq_none (by omega)]; rfl
@[simp] theorem ix_l (xs : List D) (n : Nat) : ixop (.list xs) (nD n) = xs[n]? := atI_nn xs n
@[simp] theorem ix_t (xs : List D) (n : Nat) : ixop (.tuple xs) (nD n) = xs[n]? := atI_nn xs n
@[simp] theorem cat_l (xs ys : List D) (h : xs.length + ys.length ≤ 1000000) : binop .Add (.list xs) (.list ys) = some (.list (xs ++ ys)) := by
  show (if sm (xs.length + ys.length) then some (PyData.list (xs ++ ys)) else none) = _
  rw [if_pos (show sm _ = true from decide_eq_true h)]
@[simp] theorem cat_t (xs ys : List D) (h : xs.length + ys.length ≤ 1000000) : binop .Add (.tuple xs) (.tuple ys) = some (.tuple (xs ++ ys)) := by
  show (if sm (xs.length + ys.length) then some (PyData.tuple (xs ++ ys)) else none) = _
  rw [if_pos (show sm _ = true from decide_eq_true h)]
theorem rep_1 (d : D) {n : Nat} (h : n ≤ 1000) : binop .Mult (.list [d]) (nD n) = some (.list (List.replicate n d)) := by
  show (if (decide ((0 : Int) ≤ (n : Int)) && decide ((n : Int) ≤ 1000) && decide ([d].length ≤ 1000)) = true then some (PyData.list (List.replicate (n : Int).toNat [d]).flatten) else none) = _
  rw [decide_eq_true (by omega), decide_eq_true (by omega), decide_eq_true (by simp), if_pos (by rfl), Int.toNat_natCast]
  congr 2
  induction n with
  | zero => rfl
  | succ n ih => rw [List.replicate_succ, List.replicate_succ, List.flatten_cons, ih (by omega)]; rfl
/-! loops -/
theorem forM {S α : Type} {t : Tg} {body : Env → SR} {g : α → D} (R : S → Env → Prop) (f : S → α → S) : ∀ (l : List α) (s : S) (ρ : Env),
    (∀ s a ρ, a ∈ l → R s ρ → ∃ ρ1 ρ2, asgT t (g a) ρ = .ok ρ1 ∧ (body ρ1 = .nx ρ2 ∨ body ρ1 = .ct ρ2) ∧ R (f s a) ρ2) → R s ρ → ∃ ρ', forL t body (l.map g) ρ = .nx ρ' ∧ R (l.foldl f s) ρ'
  | [], s, ρ, _, h => ⟨ρ, rfl, h⟩
  | a :: l, s, ρ, st, h => by
    obtain ⟨ρ1, ρ2, e1, e2, h2⟩ := st s a ρ (by simp) h
    obtain ⟨ρ', e3, h3⟩ := forM R f l (f s a) ρ2 (fun s b ρ hb => st s b ρ (List.mem_cons_of_mem _ hb)) h2
    refine ⟨ρ', ?_, h3⟩
    show asgS t (g a) ρ _ = _
    unfold asgS
    rw [e1]
    rcases e2 with e2 | e2 <;> (simp only [e2]; exact e3)
/-- what is asked of a block's outcome -/
def Aft (N B : Env → Prop) (V : SR → Prop) : SR → Prop
  | .nx ρ => N ρ
  | .ct ρ => N ρ
  | .bk ρ => B ρ
  | r => V r
@[simp] theorem Aft_nx (N B : Env → Prop) (V : SR → Prop) (ρ : Env) : Aft N B V (.nx ρ) = N ρ := id rfl
@[simp] theorem Aft_ct (N B : Env → Prop) (V : SR → Prop) (ρ : Env) : Aft N B V (.ct ρ) = N ρ := id rfl
@[simp] theorem Aft_bk (N B : Env → Prop) (V : SR → Prop) (ρ : Env) : Aft N B V (.bk ρ) = B ρ := id rfl
@[simp] theorem Aft_rt (N B : Env → Prop) (V : SR → Prop) (d : D) : Aft N B V (.rt d) = V (.rt d) := id rfl
theorem for_gen {α : Type} {t : Tg} {body : Env → SR} {g : α → D} {k : Env → SR} (P : SR → Prop) (I : List α → Env → Prop) (st : ∀ a l ρ, I (a :: l) ρ → ∃ ρ1, asgT t (g a) ρ = .ok ρ1 ∧ Aft (I l) (fun ρ => P (k ρ)) P (body ρ1)) (hk : ∀ ρ, I [] ρ → P (k ρ)) :
    ∀ (l : List α) (ρ : Env), I l ρ → P ((forL t body (l.map g) ρ).seq k)
  | [], ρ, h => hk ρ h
  | a :: l, ρ, h => by
    obtain ⟨ρ1, e1, h2⟩ := st a l ρ h
    show P (SR.seq (asgS t (g a) ρ _) k)
    unfold asgS
    rw [e1]
    cases hb : body ρ1 with
    | st => rw [hb] at h2; simp only [hb]; exact h2
    | nx ρ2 => rw [hb] at h2; simp only [hb]; exact for_gen P I st hk l ρ2 h2
    | ct ρ2 => rw [hb] at h2; simp only [hb]; exact for_gen P I st hk l ρ2 h2
    | bk ρ2 => rw [hb] at h2; simp only [hb]; exact h2
    | rt d => rw [hb] at h2; simp only [hb]; exact h2
    | ex c ρ2 => rw [hb] at h2; simp only [hb]; exact h2
theorem for_R {S α : Type} {t : Tg} {body : Env → SR} {g : α → D} {k : Env → SR} (P : SR → Prop) (R : S → Env → Prop) (f : S → α → S) (l : List α) (s : S) (ρ : Env)
    (h0 : R s ρ) (st : ∀ s a ρ, a ∈ l → R s ρ → ∃ ρ1, asgT t (g a) ρ = .ok ρ1 ∧ Aft (R (f s a)) (fun _ => False) (fun _ => False) (body ρ1)) (hk : ∀ ρ', R (l.foldl f s) ρ' → P (k ρ')) : P ((forL t body (l.map g) ρ).seq k) := by
  refine for_gen P (fun rest ρ => ∃ s', R s' ρ ∧ rest.foldl f s' = l.foldl f s ∧ ∀ x ∈ rest, x ∈ l) (fun a rest ρ ⟨s', h1, h2, h3⟩ => ?_) (fun ρ ⟨s', h1, h2, _⟩ => ?_) l ρ ⟨s, h0, rfl, fun _ h => h⟩
  · obtain ⟨ρ1, e1, h4⟩ := st s' a ρ (h3 a (by simp)) h1
    refine ⟨ρ1, e1, ?_⟩
    cases hb : body ρ1 with
    | nx ρ2 => rw [hb] at h4; exact ⟨f s' a, h4, h2, fun x hx => h3 x (List.mem_cons_of_mem _ hx)⟩
    | ct ρ2 => rw [hb] at h4; exact ⟨f s' a, h4, h2, fun x hx => h3 x (List.mem_cons_of_mem _ hx)⟩
    | st => rw [hb] at h4; exact h4.elim
    | bk ρ2 => rw [hb] at h4; exact h4.elim
    | rt d => rw [hb] at h4; exact h4.elim
    | ex c ρ2 => rw [hb] at h4; exact h4.elim
  · exact hk ρ (h2 ▸ h1)
/-- at the end of a def -/
theorem for_E {S α : Type} {t : Tg} {body : Env → SR} {g : α → D} {k : Env → SR} {v : Res D} (R : S → Env → Prop) (f : S → α → S) {l : List α} {s : S} {ρ : Env}
    (h0 : R s ρ) (st : ∀ s a ρ, a ∈ l → R s ρ → ∃ ρ1, asgT t (g a) ρ = .ok ρ1 ∧ Aft (R (f s a)) (fun _ => False) (fun _ => False) (body ρ1)) (hk : ∀ ρ', R (l.foldl f s) ρ' → endR (k ρ') = v) : endR ((forL t body (l.map g) ρ).seq k) = v :=
  for_R (fun r => endR r = v) R f l s ρ h0 st hk
/-- within a block -/
theorem for_A {S α : Type} {t : Tg} {body : Env → SR} {g : α → D} {k : Env → SR} {N B : Env → Prop} {V : SR → Prop} (R : S → Env → Prop) (f : S → α → S) {l : List α} {s : S} {ρ : Env}
    (h0 : R s ρ) (st : ∀ s a ρ, a ∈ l → R s ρ → ∃ ρ1, asgT t (g a) ρ = .ok ρ1 ∧ Aft (R (f s a)) (fun _ => False) (fun _ => False) (body ρ1)) (hk : ∀ ρ', R (l.foldl f s) ρ' → Aft N B V (k ρ')) : Aft N B V ((forL t body (l.map g) ρ).seq k) :=
  for_R (fun r => Aft N B V r) R f l s ρ h0 st hk
theorem for_EI {α : Type} {t : Tg} {body : Env → SR} {g : α → D} {k : Env → SR} {v : Res D} (I : List α → Env → Prop) {l : List α} {ρ : Env} (h0 : I l ρ) (st : ∀ a l ρ, I (a :: l) ρ → ∃ ρ1, asgT t (g a) ρ = .ok ρ1 ∧ Aft (I l) (fun ρ => endR (k ρ) = v) (fun r => endR r = v) (body ρ1)) (hk : ∀ ρ, I [] ρ → endR (k ρ) = v) :
    endR ((forL t body (l.map g) ρ).seq k) = v := for_gen (fun r => endR r = v) I st hk l ρ h0
theorem for_AI {α : Type} {t : Tg} {body : Env → SR} {g : α → D} {k : Env → SR} {N B : Env → Prop} {V : SR → Prop} (I : List α → Env → Prop) {l : List α} {ρ : Env} (h0 : I l ρ) (st : ∀ a l ρ, I (a :: l) ρ → ∃ ρ1, asgT t (g a) ρ = .ok ρ1 ∧ Aft (I l) (fun ρ => Aft N B V (k ρ)) (fun r => Aft N B V r) (body ρ1)) (hk : ∀ ρ, I [] ρ → Aft N B V (k ρ)) :
    Aft N B V ((forL t body (l.map g) ρ).seq k) := for_gen (fun r => Aft N B V r) I st hk l ρ h0
/-- while: m counts down -/
theorem while_gen {test : Env → Res D} {body : Env → SR} {k : Env → SR} (P : SR → Prop) (I : Nat → Env → Prop) (st : ∀ m ρ, I m ρ → ∃ b, test ρ = .ok (.bool b) ∧ (b = true → 0 < m ∧ Aft (I (m - 1)) (fun ρ => P (k ρ)) P (body ρ)) ∧ (b = false → P (k ρ))) :
    ∀ (n m : Nat) (ρ : Env), m < n → I m ρ → P ((whileN test body n ρ).seq k)
  | 0, m, ρ, hn, h => absurd hn (by omega)
  | n + 1, m, ρ, hn, h => by
    obtain ⟨b, e, h1, h2⟩ := st m ρ h
    show P (SR.seq (onE (test ρ) ρ _) k)
    rw [e, onE_ok]
    cases b with
    | false => exact h2 rfl
    | true =>
      obtain ⟨hm, h3⟩ := h1 rfl
      simp only [if_true]
      cases hb : body ρ with
      | st => rw [hb] at h3; simp only [hb]; exact h3
      | nx ρ2 => rw [hb] at h3; simp only [hb]; exact while_gen P I st n (m - 1) ρ2 (by omega) h3
      | ct ρ2 => rw [hb] at h3; simp only [hb]; exact while_gen P I st n (m - 1) ρ2 (by omega) h3
      | bk ρ2 => rw [hb] at h3; simp only [hb]; exact h3
      | rt d => rw [hb] at h3; simp only [hb]; exact h3
      | ex c ρ2 => rw [hb] at h3; simp only [hb]; exact h3
theorem while_E {test : Env → Res D} {body : Env → SR} {k : Env → SR} {v : Res D} (I : Nat → Env → Prop) {m : Nat} {ρ : Env} (h0 : I m ρ) (hm : m < 1000000) (st : ∀ m ρ, I m ρ → ∃ b, test ρ = .ok (.bool b) ∧ (b = true → 0 < m ∧ Aft (I (m - 1)) (fun ρ => endR (k ρ) = v) (fun r => endR r = v) (body ρ)) ∧ (b = false → endR (k ρ) = v)) :
    endR ((whileN test body FUEL ρ).seq k) = v := while_gen (fun r => endR r = v) I st FUEL m ρ hm h0
theorem while_A {test : Env → Res D} {body : Env → SR} {k : Env → SR} {N B : Env → Prop} {V : SR → Prop} (I : Nat → Env → Prop) {m : Nat} {ρ : Env} (h0 : I m ρ) (hm : m < 1000000) (st : ∀ m ρ, I m ρ → ∃ b, test ρ = .ok (.bool b) ∧ (b = true → 0 < m ∧ Aft (I (m - 1)) (fun ρ => Aft N B V (k ρ)) (fun r => Aft N B V r) (body ρ)) ∧ (b = false → Aft N B V (k ρ))) :
    Aft N B V ((whileN test body FUEL ρ).seq k) := while_gen (fun r => Aft N B V r) I st FUEL m ρ hm h0
theorem lcM {α : Type} {asg : D → Res Env} {cond elt : Env → Res D} {g h : α → D} {p : α → Bool} : ∀ (l : List α), (∀ a ∈ l, ∃ ρ', asg (g a) = .ok ρ' ∧ cond ρ' = .ok (.bool (p a)) ∧ (p a = true → elt ρ' = .ok (h a))) → lcL asg cond elt (l.map g) = .ok ((l.filter p).map h)
  | [], _ => rfl
  | a :: l, st => by
    obtain ⟨ρ', e1, e2, e3⟩ := st a (by simp)
    have ih := lcM l fun b hb => st b (List.mem_cons_of_mem _ hb)
    show (noex (asg (g a)) >>= fun ρ' => noex (cond ρ') >>= fun k => match k with
      | .bool true => (noex (elt ρ') >>= fun y => lcL asg cond elt (l.map g) >>= fun r => pure (y :: r))
      | .bool false => lcL asg cond elt (l.map g)
      | _ => .st) = _
    rw [e1, noex_ok, Res.ok_bind, e2, noex_ok, Res.ok_bind]
    cases hp : p a with
    | false =>
      rw [List.filter_cons_of_neg (by rw [hp]; simp)]
      exact ih
    | true =>
      rw [List.filter_cons_of_pos hp]
      show (noex (elt ρ') >>= fun y => lcL asg cond elt (l.map g) >>= fun r => pure (y :: r)) = _
      rw [e3 hp, noex_ok, Res.ok_bind, ih]
      rfl
theorem lc_ok {own : List Nat} {t : Tg} {fi : EvL} {fc fe : EvE} {Φ : Calls} {ρ : Env} {ds r : List D} (h1 : fi Φ ρ = .ok ds) (h2 : ds.length ≤ 1000000) (h3 : lcL (fun d => asgT t d (wipeE ρ own)) (fc Φ) (fe Φ) ds = .ok r) : lcE own t fi fc fe Φ ρ = .ok (.list r) := by
  unfold lcE
  rw [h1, Res.ok_bind]
  unfold sm
  rw [if_pos (decide_eq_true h2), h3]
  rfl
theorem lc_val {α : Type} {own : List Nat} {t : Tg} {fi : EvL} {fc fe : EvE} {Φ : Calls} {ρ : Env} (l : List α) (g h : α → D) (p : α → Bool) (h1 : fi Φ ρ = .ok (l.map g)) (h2 : l.length ≤ 1000000)
    (h3 : ∀ a ∈ l, ∃ ρ', asgT t (g a) (wipeE ρ own) = .ok ρ' ∧ fc Φ ρ' = .ok (.bool (p a)) ∧ (p a = true → fe Φ ρ' = .ok (h a))) : lcE own t fi fc fe Φ ρ = .ok (.list ((l.filter p).map h)) :=
  lc_ok h1 (by rw [List.length_map]; exact h2) (lcM l h3)
theorem lc_all {α : Type} {own : List Nat} {t : Tg} {fi : EvL} {fe : EvE} {Φ : Calls} {ρ : Env} (l : List α) (g h : α → D) (h1 : fi Φ ρ = .ok (l.map g)) (h2 : l.length ≤ 1000000)
    (h3 : ∀ a ∈ l, ∃ ρ', asgT t (g a) (wipeE ρ own) = .ok ρ' ∧ fe Φ ρ' = .ok (h a)) : lcE own t fi (fun _ _ => .ok (.bool true)) fe Φ ρ = .ok (.list (l.map h)) := by
  rw [lc_val (fc := fun _ _ => .ok (.bool true)) l g h (fun _ => true) h1 h2 fun a ha => let ⟨ρ', e1, e2⟩ := h3 a ha; ⟨ρ', e1, rfl, fun _ => e2⟩]
  rw [List.filter_eq_self.mpr fun _ _ => rfl]
@[simp] theorem rngL_0 (n : Nat) : rngL 0 n = (List.range n).map nD := by
  unfold rngL
  congr 1
  funext i
  rw [nD_eq, Int.zero_add]
theorem i62_of {i : Int} (h1 : 0 ≤ i) (h2 : i ≤ 1000000) : i62 i = true := by
  unfold i62
  rw [decide_eq_true (by omega), decide_eq_true (by omega)]
  rfl
theorem rng_n {n : Nat} (h : n ≤ 1000000) : rng [nD n] = .ok ((List.range n).map nD) := by
  show (if i62 (n : Int) then Res.ok (rngL 0 (n : Int).toNat) else .st) = _
  rw [if_pos (i62_of (by omega) (by omega)), Int.toNat_natCast, rngL_0]
theorem rg_n {k : Bool} {n : Nat} (h : n ≤ 1000000) : rgop (kfn k) [nD n] = some (kfn k ((List.range n).map nD)) := by
  show (if rgB 0 (n : Int) then some (kfn k (rngL 0 (n : Int).toNat)) else none) = _
  have h1 : rgB 0 (n : Int) = true := by
    unfold rgB i62
    rw [decide_eq_true (by omega), decide_eq_true (by omega), decide_eq_true (by omega), decide_eq_true (by omega), decide_eq_true (by omega)]; rfl
  rw [if_pos h1, Int.toNat_natCast]
  rw [rngL_0]
@[simp] theorem max_n (a b : Nat) : bltop .max [nD a, nD b] = some (nD (max a b)) := by
  show some (PyData.int (if (b : Int) > a then (b : Int) else a)) = some (PyData.int _)
  congr 2
  by_cases h : a < b
  · rw [if_pos (by omega), Nat.max_eq_right (by omega)]
  · rw [if_neg (by omega), Nat.max_eq_left (by omega)]
@[simp] theorem min_n (a b : Nat) : bltop .min [nD a, nD b] = some (nD (min a b)) := by
  show some (PyData.int (if (b : Int) < a then (b : Int) else a)) = some (PyData.int _)
  congr 2
  by_cases h : b < a
  · rw [if_pos (by omega), Nat.min_eq_right (by omega)]
  · rw [if_neg (by omega), Nat.min_eq_left (by omega)]
theorem intsOf_n (l : List Nat) : intsOf (l.map nD) = some (l.map fun n : Nat => (n : Int)) := by
  induction l with
  | nil => rfl
  | cons a l ih =>
    show (intsOf (l.map nD)).map ((a : Int) :: ·) = _
    rw [ih]; rfl
theorem erase_n (l : List Nat) (a : Nat) : ((l.map fun n : Nat => (n : Int)).erase (a : Int)).map PyData.int = (l.erase a).map nD := by
  induction l with
  | nil => rfl
  | cons b l ih =>
    rw [List.map_cons, List.erase_cons, List.erase_cons]
    by_cases h : b = a
    · subst h; simp [nD_eq]
    · have h2 : ¬ ((b : Int) == (a : Int)) = true := by simp; omega
      have h3 : ¬ (b == a) = true := by simp [h]
      rw [if_neg h2, if_neg h3, List.map_cons, List.map_cons, ih]
      rfl
theorem remS_n {i : Nat} {ρ : Env} {l : List Nat} {a : Nat} (h : ρ[i]? = some (some (true, natsL l))) (ha : a ∈ l) : remS i ρ (.ok (nD a)) = .nx (ρ.set i (some (true, natsL (l.erase a)))) := by
  unfold remS
  rw [ownL_ok _ h, onE_ok, intsOf_n]
  show (if (a : Int) ∈ l.map (fun n : Nat => (n : Int)) then SR.nx (ρ.set i (some (true, .list (((l.map fun n : Nat => (n : Int)).erase (a : Int)).map PyData.int)))) else .st) = _
  rw [if_pos (List.mem_map.mpr ⟨a, ha, rfl⟩), erase_n]
end Pv

end
section
namespace Pv
open PySem

/-! ### sets.py -/
theorem bl_le {m k : Nat} (h : m < 2 ^ k) : bl m ≤ k := by
  unfold bl Builtin.Int.intBits
  by_cases h0 : m = 0
  · subst h0; simp
  · rw [if_neg (by simpa using h0)]
    show (m : Int).natAbs.log2 + 1 ≤ k
    rw [Int.natAbs_natCast]
    have := (Nat.log2_lt h0).mpr h
    omega
theorem bl_test {m i : Nat} (h : bl m ≤ i) : m.testBit i = false := by
  apply Nat.testBit_lt_two_pow
  unfold bl Builtin.Int.intBits at h
  by_cases h0 : m = 0
  · subst h0; exact Nat.two_pow_pos i
  · rw [if_neg (by simpa using h0)] at h
    have h : (m : Int).natAbs.log2 + 1 ≤ i := h
    rw [Int.natAbs_natCast] at h
    exact (Nat.log2_lt h0).mp (by omega)
/-- the nodes of a mask, all less than c -/
def bitsN (c m : Nat) : List Nat := (List.range c).filter m.testBit
theorem mem_bitsN {c m x : Nat} : x ∈ bitsN c m ↔ x < c ∧ m.testBit x = true := by
  unfold bitsN
  rw [List.mem_filter, List.mem_range]
theorem lt_of_test {c m x : Nat} (h : m < 2 ^ c) (t : m.testBit x = true) : x < c := by
  apply Nat.lt_of_not_le
  intro hx
  have := Nat.testBit_lt_two_pow (Nat.lt_of_lt_of_le h (Nat.pow_le_pow_right (by decide) hx))
  rw [this] at t; cases t
theorem bitsN_bl {c m : Nat} (h : m < 2 ^ c) : bitsN (bl m) m = bitsN c m := by
  have hb := bl_le h
  obtain ⟨k, rfl⟩ : ∃ k, c = bl m + k := ⟨c - bl m, by omega⟩
  unfold bitsN
  rw [List.range_add, List.filter_append]
  have : List.filter m.testBit (List.map (fun x => bl m + x) (List.range k)) = [] := by
    rw [List.filter_eq_nil_iff]
    intro a ha
    obtain ⟨b, _, rfl⟩ := List.mem_map.mp ha
    rw [bl_test (by omega)]
    simp
  rw [this, List.append_nil]
theorem shr_test (m n : Nat) : (m / 2 ^ n % 2 == 1) = m.testBit n := by
  rw [Nat.testBit_eq_decide_div_mod_eq]
  rcases Nat.mod_two_eq_zero_or_one (m / 2 ^ n) with h | h <;> rw [h] <;> rfl
theorem nodes_of_run (Φ : Calls) {c m : Nat} (h : m < 2 ^ c) (hc : c ≤ 1000000) : runB 1 2 b_nodes_of Φ [nD m] = .ok (natsT (bitsN c m)) := by
  refine (run_of (by rfl)).trans ?_
  unfold b_nodes_of
  have hb := bl_le h
  simp [start1]
  rw [lc_val (List.range (bl m)) nD nD m.testBit]
  · rw [show List.filter m.testBit (List.range (bl m)) = bitsN c m from bitsN_bl h]
    simp
  · simp
    rw [rng_n (Nat.le_trans hb hc)]
  · rw [List.length_range]; omega
  · exact fun a ha => ⟨[some (false, nD m), some (false, nD a)], rfl, by simp [shr_test], fun _ => rfl⟩
def maskN (l : List Nat) : Nat := l.foldl (fun m x => m ||| 2 ^ x) 0
theorem mask_of_run (Φ : Calls) {l : List Nat} (hl : ∀ x ∈ l, x ≤ 1000000) : runB 1 3 b_mask_of Φ [natsT l] = .ok (nD (maskN l)) := by
  refine (run_of (by rfl)).trans ?_
  unfold b_mask_of
  simp [start1]
  refine for_E (fun m ρ => ∃ y, ρ = [some (false, natsT l), some (false, nD m), y]) (fun m x => m ||| 2 ^ x) ⟨_, rfl⟩ (fun m x ρ hx ⟨y, e⟩ => ⟨_, rfl, ?_⟩) fun ρ ⟨y, e⟩ => ?_
  · subst e
    simp [bin_shl (hl x hx)]
  · subst e
    simp [maskN]
end Pv

end
section
namespace Pv
open PySem

/-! ### masks -/
theorem test_maskN {l : List Nat} {v : Nat} : (maskN l).testBit v = true ↔ v ∈ l := by
  have go : ∀ (l : List Nat) (m : Nat), (l.foldl (fun m x => m ||| 2 ^ x) m).testBit v = true ↔ m.testBit v = true ∨ v ∈ l := by
    intro l
    induction l with
    | nil => intro m; simp
    | cons a l ih =>
      intro m
      rw [List.foldl_cons, ih, Nat.testBit_or, Nat.testBit_two_pow, List.mem_cons]
      by_cases h : a = v
      · subst h; simp
      · simp [h, Ne.symm h]
  unfold maskN
  rw [go]
  simp
theorem lt_pow_of {m c : Nat} (h : ∀ v, m.testBit v = true → v < c) : m < 2 ^ c := by
  apply Nat.lt_pow_two_of_testBit
  intro i hi
  cases e : m.testBit i with
  | false => rfl
  | true => have := h i e; omega
theorem maskN_lt {l : List Nat} {c : Nat} (h : ∀ x ∈ l, x < c) : maskN l < 2 ^ c := lt_pow_of fun v t => h v (test_maskN.mp t)
theorem mask_ext {a b : Nat} (h : ∀ v, a.testBit v = true ↔ b.testBit v = true) : a = b := by
  apply Nat.eq_of_testBit_eq
  intro i
  have := h i
  cases e : a.testBit i <;> cases e2 : b.testBit i <;> simp_all
open Classical in
noncomputable def maskP (c : Nat) (p : Nat → Prop) : Nat := maskN ((List.range c).filter fun v => decide (p v))
theorem test_maskP {c : Nat} {p : Nat → Prop} {v : Nat} : (maskP c p).testBit v = true ↔ v < c ∧ p v := by
  unfold maskP
  rw [test_maskN, List.mem_filter, List.mem_range]
  simp
theorem maskP_lt {c : Nat} {p : Nat → Prop} : maskP c p < 2 ^ c := lt_pow_of fun v t => (test_maskP.mp t).1
theorem mask_eqP {c m : Nat} {p : Nat → Prop} (h : ∀ v, m.testBit v = true ↔ v < c ∧ p v) : m = maskP c p := mask_ext fun v => by rw [h, test_maskP]

/-! ### graphs -/
def edgeD (e : Nat × Nat) : D := .tuple [nD e.1, nD e.2]
def grD (c : Nat) (E : List (Nat × Nat)) : D := .tuple [nD c, .tuple (E.map edgeD)]
def EOk (c : Nat) (E : List (Nat × Nat)) : Prop := ∀ e ∈ E, e.1 < c ∧ e.2 < c
def adj (E : List (Nat × Nat)) (u v : Nat) : Prop := (u, v) ∈ E ∨ (v, u) ∈ E
theorem adj_symm {E : List (Nat × Nat)} {u v : Nat} (h : adj E u v) : adj E v u := h.symm
def RowsOk (c : Nat) (E : List (Nat × Nat)) (rows : List Nat) : Prop := rows.length = c ∧ ∀ u v, (rows[u]?.getD 0).testBit v = true ↔ adj E u v
def rowStep (r : List Nat) (e : Nat × Nat) : List Nat :=
  let r1 := r.set e.1 (r[e.1]?.getD 0 ||| 2 ^ e.2)
  r1.set e.2 (r1[e.2]?.getD 0 ||| 2 ^ e.1)
def rowsN (c : Nat) (E : List (Nat × Nat)) : List Nat := E.foldl rowStep (List.replicate c 0)
theorem rowStep_len (r : List Nat) (e : Nat × Nat) : (rowStep r e).length = r.length := by simp [rowStep]
theorem get_set {r : List Nat} {a u x : Nat} (h : a < r.length) : (r.set a x)[u]?.getD 0 = if a = u then x else r[u]?.getD 0 := by
  rw [List.getElem?_set]
  by_cases e : a = u
  · subst e; simp [h]
  · simp [e]
theorem rowStep_test {r : List Nat} {e : Nat × Nat} (h1 : e.1 < r.length) (h2 : e.2 < r.length) (u v : Nat) : ((rowStep r e)[u]?.getD 0).testBit v = true ↔ (r[u]?.getD 0).testBit v = true ∨ (e.1 = u ∧ e.2 = v) ∨ (e.2 = u ∧ e.1 = v) := by
  have h3 : e.2 < (r.set e.1 (r[e.1]?.getD 0 ||| 2 ^ e.2)).length := by rw [List.length_set]; exact h2
  show (((r.set e.1 (r[e.1]?.getD 0 ||| 2 ^ e.2)).set e.2 ((r.set e.1 (r[e.1]?.getD 0 ||| 2 ^ e.2))[e.2]?.getD 0 ||| 2 ^ e.1))[u]?.getD 0).testBit v = true ↔ _
  rw [get_set h3, get_set h1, get_set h1]
  by_cases q2 : e.2 = u
  · rw [if_pos q2, Nat.testBit_or, Nat.testBit_two_pow]
    by_cases q1 : e.1 = e.2
    · rw [if_pos q1, Nat.testBit_or, Nat.testBit_two_pow, q1, q2]
      by_cases q : u = v <;> simp [q]
    · rw [if_neg q1, q2]
      have : e.1 ≠ u := by rw [← q2]; exact q1
      by_cases q : e.1 = v <;> simp [q, this]
  · rw [if_neg q2]
    by_cases q1 : e.1 = u
    · rw [if_pos q1, Nat.testBit_or, Nat.testBit_two_pow, q1]
      by_cases q : e.2 = v <;> simp [q, q2]
    · rw [if_neg q1]; simp [q1, q2]
theorem rowsN_ok {c : Nat} {E : List (Nat × Nat)} (h : EOk c E) : RowsOk c E (rowsN c E) := by
  have go : ∀ (E : List (Nat × Nat)) (r : List Nat), r.length = c → EOk c E → (E.foldl rowStep r).length = c ∧ ∀ u v, ((E.foldl rowStep r)[u]?.getD 0).testBit v = true ↔ (r[u]?.getD 0).testBit v = true ∨ adj E u v := by
    intro E
    induction E with
    | nil => intro r hr _; exact ⟨hr, fun u v => by simp [adj]⟩
    | cons e E ih =>
      intro r hr hE
      have he := hE e (by simp)
      obtain ⟨i1, i2⟩ := ih (rowStep r e) (by rw [rowStep_len]; exact hr) fun x hx => hE x (by simp [hx])
      refine ⟨i1, fun u v => ?_⟩
      rw [List.foldl_cons, i2, rowStep_test (by rw [hr]; exact he.1) (by rw [hr]; exact he.2)]
      unfold adj
      rw [List.mem_cons, List.mem_cons]
      constructor
      · rintro ((h | ⟨h1, h2⟩ | ⟨h1, h2⟩) | h | h)
        · exact .inl h
        · exact .inr (.inl (.inl (by rw [← h1, ← h2])))
        · exact .inr (.inr (.inl (by rw [← h1, ← h2])))
        · exact .inr (.inl (.inr h))
        · exact .inr (.inr (.inr h))
      · rintro (h | (h | h) | h | h)
        · exact .inl (.inl h)
        · exact .inl (.inr (.inl (by rw [← h]; simp)))
        · exact .inr (.inl h)
        · exact .inl (.inr (.inr (by rw [← h]; simp)))
        · exact .inr (.inr h)
  obtain ⟨h1, h2⟩ := go E (List.replicate c 0) (by simp) h
  refine ⟨h1, fun u v => ?_⟩
  unfold rowsN
  rw [h2]
  have : ((List.replicate c 0)[u]?.getD 0).testBit v = false := by
    rw [List.getElem?_replicate]
    split <;> simp
  rw [this]
  simp

/-! ### the runs -/
theorem all_nodes_run (Φ : Calls) {c : Nat} {E : List (Nat × Nat)} (hc : c ≤ 1000000) : runB 1 1 b_all_nodes Φ [grD c E] = .ok (nD (2 ^ c - 1)) := by
  refine (run_of (by rfl)).trans ?_
  unfold b_all_nodes
  simp [start1, grD, bin_shl hc, bin_sub (show 1 ≤ 2 ^ c from Nat.one_le_two_pow)]
theorem get_nD {rows : List Nat} {u : Nat} (h : u < rows.length) : (rows.map nD)[u]? = some (nD (rows[u]?.getD 0)) := by
  rw [List.getElem?_map, List.getElem?_eq_getElem h]; rfl
theorem neighbour_masks_run (Φ : Calls) {c : Nat} {E : List (Nat × Nat)} (hc : c ≤ 1000) (hE : EOk c E) : runB 1 4 b_neighbour_masks Φ [grD c E] = .ok (natsL (rowsN c E)) := by
  refine (run_of (by rfl)).trans ?_
  unfold b_neighbour_masks
  have e0 : natsL (List.replicate c 0) = .list (List.replicate c (nD 0)) := by simp
  simp [start1, grD, rep_1 _ hc]
  refine for_E (S := List Nat) (fun r ρ => r.length = c ∧ ∃ y z, ρ = [some (false, grD c E), some (true, natsL r), y, z]) rowStep (s := List.replicate c 0) ⟨by simp, none, none, by rw [e0]; rfl⟩ (fun r e ρ he ⟨hl, y, z, q⟩ => ?_) fun ρ ⟨hl, y, z, q⟩ => ?_
  · subst q
    have h1 : e.1 < r.length := by rw [hl]; exact (hE e he).1
    have h2 : e.2 < r.length := by rw [hl]; exact (hE e he).2
    refine ⟨[some (false, grD c E), some (true, natsL r), some (false, nD e.1), some (false, nD e.2)], rfl, ?_⟩
    have h3 : e.2 < (r.set e.1 (r[e.1]?.getD 0 ||| 2 ^ e.2)).length := by rw [List.length_set]; exact h2
    have b1 := bin_shl (n := e.1) (by have := (hE e he).1; omega)
    have b2 := bin_shl (n := e.2) (by have := (hE e he).2; omega)
    simp [b1, b2, get_nD h1]
    rw [setS_ok (ds := r.map nD) rfl (by rw [List.length_map]; exact h1)]
    have m1 : (r.map nD).set e.1 (nD (r[e.1]?.getD 0 ||| 2 ^ e.2)) = (r.set e.1 (r[e.1]?.getD 0 ||| 2 ^ e.2)).map nD := by rw [List.map_set]
    simp [b1, b2]
    rw [m1, get_nD h3]
    simp
    rw [setS_ok (ds := (r.map nD).set e.1 (nD (r[e.1]?.getD 0 ||| 2 ^ e.2))) rfl (by rw [List.length_set, List.length_map]; exact h2)]
    refine ⟨by rw [rowStep_len]; exact hl, some (false, nD e.1), some (false, nD e.2), ?_⟩
    rw [m1, ← List.map_set]
    rfl
  · subst q
    simp [rowsN]
end Pv

end
section
namespace Pv
open PySem

/-- what is reached from s along edges within free -/
inductive Conn (E : List (Nat × Nat)) (free s : Nat → Prop) : Nat → Prop
  | base {v : Nat} : s v → Conn E free s v
  | step {u v : Nat} : Conn E free s u → adj E u v → free v → Conn E free s v
def SNodes (Φ : Calls) (c : Nat) : Prop := ∀ m, m < 2 ^ c → Φ "nodes_of" [nD m] = .ok (natsT (bitsN c m))
def aroundN (c : Nat) (rows : List Nat) (m : Nat) : Nat := (bitsN c m).foldl (fun f x => f ||| (rows[x]?.getD 0)) 0
theorem test_aroundN {c : Nat} {rows : List Nat} {m v : Nat} : (aroundN c rows m).testBit v = true ↔ ∃ u, u < c ∧ m.testBit u = true ∧ (rows[u]?.getD 0).testBit v = true := by
  have go : ∀ (l : List Nat) (f : Nat), (l.foldl (fun f x => f ||| (rows[x]?.getD 0)) f).testBit v = true ↔ f.testBit v = true ∨ ∃ u ∈ l, (rows[u]?.getD 0).testBit v = true := by
    intro l
    induction l with
    | nil => intro f; simp
    | cons a l ih =>
      intro f
      rw [List.foldl_cons, ih, Nat.testBit_or]
      simp [or_assoc]
  unfold aroundN
  rw [go]
  simp [mem_bitsN, and_assoc]
theorem around_run {Φ : Calls} {c : Nat} {rows : List Nat} {m : Nat} (hn : SNodes Φ c) (hl : rows.length = c) (hm : m < 2 ^ c) : runB 2 4 b_around Φ [natsL rows, nD m] = .ok (nD (aroundN c rows m)) := by
  refine (run_of (by rfl)).trans ?_
  unfold b_around
  simp [start1, hn m hm]
  refine for_E (S := Nat) (fun f ρ => ∃ y, ρ = [some (false, natsL rows), some (false, nD m), some (false, nD f), y]) (fun f x => f ||| (rows[x]?.getD 0)) ⟨none, rfl⟩ (fun f x ρ hx ⟨y, q⟩ => ⟨_, rfl, ?_⟩) fun ρ ⟨y, q⟩ => ?_
  · subst q
    have h1 : x < rows.length := by rw [hl]; exact (mem_bitsN.mp hx).1
    simp [get_nD h1]
  · subst q
    simp [aroundN]
def SAround (Φ : Calls) (c : Nat) (rows : List Nat) : Prop := ∀ m, m < 2 ^ c → Φ "around" [natsL rows, nD m] = .ok (nD (aroundN c rows m))
/-- the mask of what is reached -/
noncomputable def closM (c : Nat) (E : List (Nat × Nat)) (free start : Nat) : Nat := maskP c (Conn E (fun v => free.testBit v = true) (fun v => start.testBit v = true))
theorem dif_lt {a b c : Nat} (h : a < 2 ^ c) : dif a b < 2 ^ c := Nat.lt_of_le_of_lt (Nat.sub_le _ _) h
theorem or_disj {a b : Nat} (h : ∀ v, a.testBit v = true → b.testBit v = true → False) : a ||| b = a + b := by
  have e : a &&& b = 0 := by
    apply Nat.eq_of_testBit_eq
    intro i
    rw [Nat.testBit_and, Nat.zero_testBit]
    cases h1 : a.testBit i
    · rfl
    · cases h2 : b.testBit i
      · rfl
      · exact (h i h1 h2).elim
  have e1 := Bits.nat_xor_add_and a b
  have e2 : a ^^^ b = a ||| b := by
    apply Nat.eq_of_testBit_eq
    intro i
    rw [Nat.testBit_xor, Nat.testBit_or]
    have := h i
    cases h1 : a.testBit i <;> cases h2 : b.testBit i <;> simp_all
  rw [e, e2] at e1
  omega
theorem ne_zero_test {m : Nat} (h : m ≠ 0) : ∃ v, m.testBit v = true := Nat.exists_testBit_of_ne_zero h
theorem spread_run {Φ : Calls} {c : Nat} {E : List (Nat × Nat)} {rows : List Nat} {start free : Nat} (ha : SAround Φ c rows) (hr : RowsOk c E rows) (hE : EOk c E) (hc : c ≤ 16) (hs : start < 2 ^ c) (hf : free < 2 ^ c) :
    runB 3 5 b_spread Φ [natsL rows, nD start, nD free] = .ok (nD (closM c E free start)) := by
  refine (run_of (by rfl)).trans ?_
  unfold b_spread
  have hp : 2 ^ c ≤ 2 ^ 16 := Nat.pow_le_pow_right (by decide) hc
  have hp2 : (2 : Nat) ^ 16 = 65536 := by decide
  simp [start1]
  refine while_E (fun m ρ => ∃ r f, ρ = [some (false, natsL rows), some (false, nD start), some (false, nD free), some (false, nD r), some (false, nD f)] ∧ r < 2 ^ c ∧ f < 2 ^ c ∧ 2 * (2 ^ c - r) + (if f = 0 then 0 else 1) ≤ m
      ∧ (∀ v, start.testBit v = true → r.testBit v = true) ∧ (∀ v, r.testBit v = true → Conn E (fun v => free.testBit v = true) (fun v => start.testBit v = true) v) ∧ (∀ v, f.testBit v = true → r.testBit v = true)
      ∧ (∀ u v, r.testBit u = true → f.testBit u = false → adj E u v → free.testBit v = true → r.testBit v = true)) (m := 2 * 2 ^ c + 1)
    ⟨start, start, rfl, hs, hs, by split <;> omega, fun _ h => h, fun v h => .base h, fun _ h => h, fun u v h1 h2 => by rw [h1] at h2; cases h2⟩ (by omega) ?_
  rintro m ρ ⟨r, f, q, h1, h2, h3, h4, h5, h6, h7⟩
  subst q
  refine ⟨!(f == 0), by simp, fun hb => ?_, fun hb => ?_⟩
  · have hf0 : f ≠ 0 := by simpa using hb
    rw [if_neg hf0] at h3
    refine ⟨by omega, ?_⟩
    have hfa : aroundN c rows f &&& free < 2 ^ c := Nat.lt_of_le_of_lt Nat.and_le_right hf
    have ht : ∀ v, (dif (aroundN c rows f &&& free) r).testBit v = true ↔ (∃ u, f.testBit u = true ∧ adj E u v) ∧ free.testBit v = true ∧ r.testBit v = false := by
      intro v
      rw [test_dif, Nat.testBit_and, Bool.and_eq_true, Bool.and_eq_true, test_aroundN]
      constructor
      · rintro ⟨⟨⟨u, _, a, b⟩, x⟩, y⟩
        exact ⟨⟨u, a, (hr.2 u v).mp b⟩, x, by simpa using y⟩
      · rintro ⟨⟨u, a, b⟩, x, y⟩
        exact ⟨⟨⟨u, lt_of_test h2 a, a, (hr.2 u v).mpr b⟩, x⟩, by simpa using y⟩
    simp [ha f h2]
    refine ⟨r ||| dif (aroundN c rows f &&& free) r, dif (aroundN c rows f &&& free) r, ⟨rfl, rfl⟩, Nat.or_lt_two_pow h1 (dif_lt hfa), dif_lt hfa, ?_, fun v h => ?_, fun v h => ?_, fun v h => ?_, fun u v a b d e => ?_⟩
    · have hd : r ||| dif (aroundN c rows f &&& free) r = r + dif (aroundN c rows f &&& free) r := or_disj fun v a b => by
        have := ((ht v).mp b).2.2
        rw [a] at this; cases this
      rw [hd]
      have := dif_lt (b := r) hfa
      split <;> omega
    · rw [Nat.testBit_or, h4 v h]; rfl
    · rw [Nat.testBit_or, Bool.or_eq_true] at h
      rcases h with h | h
      · exact h5 v h
      · obtain ⟨⟨u, a, b⟩, x, _⟩ := (ht v).mp h
        exact .step (h5 u (h6 u a)) b x
    · rw [Nat.testBit_or, h, Bool.or_true]
    · rw [Nat.testBit_or, Bool.or_eq_true] at a ⊢
      rcases a with a | a
      · cases hfu : f.testBit u with
        | false => exact .inl (h7 u v a hfu d e)
        | true =>
          cases hrv : r.testBit v with
          | true => exact .inl rfl
          | false => exact .inr ((ht v).mpr ⟨⟨u, hfu, d⟩, e, hrv⟩)
      · rw [a] at b; cases b
  · have hf0 : f = 0 := by simpa using hb
    subst hf0
    simp
    unfold closM
    congr 1
    have key : ∀ v, Conn E (fun v => free.testBit v = true) (fun v => start.testBit v = true) v → r.testBit v = true := fun v h => by
      induction h with
      | base h => exact h4 _ h
      | step _ a b ih => exact h7 _ _ ih (by simp) a b
    exact mask_eqP fun v => ⟨fun h => ⟨lt_of_test h1 h, h5 v h⟩, fun h => key v h.2⟩
end Pv

end
section
namespace Pv
open PySem

theorem even_and (a b : Nat) : (2 * a) &&& (2 * b + 1) = 2 * (a &&& b) := by
  apply Nat.eq_of_testBit_eq
  intro i
  cases i with
  | zero => simp [Nat.testBit_and]
  | succ i =>
    rw [Nat.testBit_and, Nat.testBit_succ, Nat.testBit_succ, Nat.testBit_succ]
    have h1 : 2 * a / 2 = a := by omega
    have h2 : (2 * b + 1) / 2 = b := by omega
    have h3 : 2 * (a &&& b) / 2 = a &&& b := by omega
    rw [h1, h2, h3, Nat.testBit_and]
theorem odd_and (a : Nat) : (2 * a + 1) &&& (2 * a) = 2 * a := by
  apply Nat.eq_of_testBit_eq
  intro i
  cases i with
  | zero => simp [Nat.testBit_and]
  | succ i =>
    rw [Nat.testBit_and, Nat.testBit_succ, Nat.testBit_succ]
    have h1 : 2 * a / 2 = a := by omega
    have h2 : (2 * a + 1) / 2 = a := by omega
    rw [h1, h2, Bool.and_self]
theorem low_ex : ∀ (n x : Nat), x ≤ n → x ≠ 0 → ∃ w, dif x (x - 1) = 2 ^ w ∧ x.testBit w = true ∧ ∀ u, u < w → x.testBit u = false
  | 0, x, h, h0 => absurd (Nat.le_zero.mp h) h0
  | n + 1, x, h, h0 => by
    obtain ⟨y, hxy⟩ : ∃ y, x = 2 * y ∨ x = 2 * y + 1 := ⟨x / 2, by omega⟩
    rcases hxy with rfl | rfl
    · have hy : y ≠ 0 := by omega
      obtain ⟨w, e1, e2, e3⟩ := low_ex n y (by omega) hy
      refine ⟨w + 1, ?_, ?_, fun u hu => ?_⟩
      · have : 2 * y - 1 = 2 * (y - 1) + 1 := by omega
        unfold dif at e1 ⊢
        rw [this, even_and]
        have := Nat.and_le_left (n := y) (m := y - 1)
        rw [Nat.pow_succ]
        omega
      · rw [Nat.testBit_succ]; have : 2 * y / 2 = y := by omega
        rw [this]; exact e2
      · cases u with
        | zero => simp
        | succ u =>
          rw [Nat.testBit_succ]; have : 2 * y / 2 = y := by omega
          rw [this]; exact e3 u (by omega)
    · refine ⟨0, ?_, by simp, fun u hu => absurd hu (by omega)⟩
      unfold dif
      rw [Nat.add_sub_cancel, odd_and]
      omega
theorem bin_low {x : Nat} (h : x ≠ 0) : binop .BitAnd (nD x) (negD x) = some (nD (dif x (x - 1))) := by
  show some (PyData.int (Builtin.bitAnd (x : Int) (-(x : Int)))) = some (PyData.int _)
  rw [PyProof.Rows.bitAnd_pn (by omega) (by omega)]
  have e2 : (Builtin.bitNot (-(x : Int))).toNat = x - 1 := by
    show (-(-(x : Int)) - 1).toNat = x - 1
    omega
  rw [e2, Int.toNat_natCast]
  unfold dif
  have := Nat.and_le_left (n := x) (m := x - 1)
  congr 2
  omega
theorem test_2pow {v x : Nat} : (2 ^ v).testBit x = true ↔ x = v := by
  rw [Nat.testBit_two_pow]
  simp [eq_comm]
/-! ### parts -/
def InC (E : List (Nat × Nat)) (fr : Nat → Prop) (v x : Nat) : Prop := Conn E fr (fun y => y = v) x
section
variable {c : Nat} {E : List (Nat × Nat)} {fr : Nat → Prop} {u v x : Nat}
theorem InC.refl : InC E fr v v := .base rfl
theorem InC.trans (h1 : InC E fr u v) (h2 : InC E fr v x) : InC E fr u x := by
  induction h2 with
  | base h => exact h ▸ h1
  | step _ a b ih => exact .step ih a b
theorem InC.within (hv : fr v) (h : InC E fr v x)   : fr x := by
  induction h with
  | base h => exact h ▸ hv
  | step _ a b ih => exact b
theorem InC.symm (hv : fr v) (h : InC E fr v x) : InC E fr x v := by
  induction h with
  | base h => exact h ▸ InC.refl
  | @step u x h a b ih => exact InC.trans (.step (.base rfl) (adj_symm a) (InC.within hv h)) ih
/-- a least node of its part -/
def isRep (E : List (Nat × Nat)) (fr : Nat → Prop) (v : Nat) : Prop := fr v ∧ ∀ u, u < v → fr u → ¬ InC E fr u v
theorem rep_ex : ∀ (n x : Nat), x ≤ n → fr x → ∃ r, r ≤ x ∧ isRep E fr r ∧ InC E fr r x
  | 0, x, h, hx => ⟨x, Nat.le_refl _, ⟨hx, fun u hu => absurd hu (by omega)⟩, .refl⟩
  | n + 1, x, h, hx => by
    by_cases q : ∃ u, u < x ∧ fr u ∧ InC E fr u x
    · obtain ⟨u, h1, h2, h3⟩ := q
      obtain ⟨r, a, b, d⟩ := rep_ex n u (by omega) h2
      exact ⟨r, by omega, b, d.trans h3⟩
    · exact ⟨x, Nat.le_refl _, ⟨hx, fun u a b d => q ⟨u, a, b, d⟩⟩, .refl⟩
end
open Classical in
noncomputable def repsN (E : List (Nat × Nat)) (free : Nat → Prop) (k : Nat) : List Nat := (List.range k).filter fun v => decide (isRep E free v)
noncomputable def compM (c : Nat) (E : List (Nat × Nat)) (free : Nat → Prop) (v : Nat) : Nat := maskP c (InC E free v)
theorem mem_reps {E : List (Nat × Nat)} {free : Nat → Prop} {k v : Nat} : v ∈ repsN E free k ↔ v < k ∧ isRep E free v := by
  unfold repsN
  rw [List.mem_filter, List.mem_range]; simp
theorem reps_succ {E : List (Nat × Nat)} {free : Nat → Prop} {k : Nat} (h : isRep E free k) : repsN E free (k + 1) = repsN E free k ++ [k] := by
  unfold repsN
  rw [List.range_succ, List.filter_append]
  simp [h]
theorem reps_skip {E : List (Nat × Nat)} {free : Nat → Prop} {k : Nat} : ∀ (d : Nat), (∀ x, k ≤ x → x < k + d → ¬ isRep E free x) → repsN E free (k + d) = repsN E free k
  | 0, _ => rfl
  | d + 1, h => by
    have ih := reps_skip d fun x a b => h x a (by omega)
    rw [← ih]
    unfold repsN
    rw [← Nat.add_assoc, List.range_succ, List.filter_append]
    simp [h (k + d) (by omega) (by omega)]
end Pv

end
section
namespace Pv
open PySem

abbrev bitP (m : Nat) : Nat → Prop := fun v => m.testBit v = true
theorem closM_1 {c : Nat} {E : List (Nat × Nat)} {free v : Nat} : closM c E free (2 ^ v) = compM c E (bitP free) v := by
  unfold closM compM
  refine mask_eqP fun x => ?_
  rw [test_maskP]
  have : (fun x => (2 ^ v).testBit x = true) = fun x => x = v := by
    funext x; exact propext test_2pow
  rw [this]
  rfl
def SSpread (Φ : Calls) (c : Nat) (E : List (Nat × Nat)) (rows : List Nat) : Prop := ∀ start free, start < 2 ^ c → free < 2 ^ c → Φ "spread" [natsL rows, nD start, nD free] = .ok (nD (closM c E free start))
noncomputable def partsM (c : Nat) (E : List (Nat × Nat)) (free : Nat → Prop) : List Nat := (repsN E free c).map (compM c E free)
theorem reps_lt_len (E : List (Nat × Nat)) (free : Nat → Prop) (k : Nat) : (repsN E free k).length ≤ k := by
  unfold repsN
  refine Nat.le_trans (List.length_filter_le _ _) ?_
  rw [List.length_range]
  exact Nat.le_refl _
theorem part_masks_run {Φ : Calls} {c : Nat} {E : List (Nat × Nat)} {rows : List Nat} {free : Nat} (ha : SSpread Φ c E rows) (hE : EOk c E) (hc : c ≤ 16) (hf : free < 2 ^ c) :
    runB 2 5 b_part_masks Φ [natsL rows, nD free] = .ok (natsL (partsM c E (bitP free))) := by
  refine (run_of (by rfl)).trans ?_
  unfold b_part_masks
  simp [start1]
  refine while_E (fun m ρ => ∃ k left y, ρ = [some (false, natsL rows), some (false, nD free), some (true, natsL ((repsN E (bitP free) k).map (compM c E (bitP free)))), some (false, nD left), y] ∧ left < 2 ^ c ∧ k ≤ c ∧ c - k ≤ m
      ∧ ∀ x, left.testBit x = true ↔ free.testBit x = true ∧ ∀ r ∈ repsN E (bitP free) k, ¬ InC E (bitP free) r x) (m := c)
    ⟨0, free, none, rfl, hf, Nat.zero_le _, Nat.le_refl _, fun x => by simp [repsN]⟩ (by omega) ?_
  rintro m ρ ⟨k, left, y, q, h1, hk, h2, h3⟩
  subst q
  refine ⟨!(left == 0), by simp, fun hb => ?_, fun hb => ?_⟩
  · have hl0 : left ≠ 0 := by simpa using hb
    obtain ⟨w, e1, e2, e3⟩ := low_ex left left (Nat.le_refl _) hl0
    have hw : w < c := lt_of_test h1 e2
    obtain ⟨hwf, hwr⟩ := (h3 w).mp e2
    have hskip : ∀ x, free.testBit x = true → x < w → ∃ r ∈ repsN E (bitP free) k, InC E (bitP free) r x := fun x hx hxw => by
      apply Classical.byContradiction
      intro hn
      have := (h3 x).mpr ⟨hx, fun r hr q => hn ⟨r, hr, q⟩⟩
      rw [e3 x hxw] at this
      cases this
    have hrep : isRep E (bitP free) w := ⟨hwf, fun u hu hfu q => by
      obtain ⟨r, hr, hq⟩ := hskip u hfu hu
      exact hwr r hr (hq.trans q)⟩
    have hkw : k ≤ w := by
      apply Nat.le_of_not_lt
      intro hwk
      exact hwr w (mem_reps.mpr ⟨hwk, hrep⟩) .refl
    have hreps : repsN E (bitP free) w = repsN E (bitP free) k := by
      obtain ⟨d, rfl⟩ : ∃ d, w = k + d := ⟨w - k, by omega⟩
      refine reps_skip d fun x hx hxd hrx => ?_
      obtain ⟨r, hr, hq⟩ := hskip x hrx.1 hxd
      obtain ⟨hrk, hrr⟩ := mem_reps.mp hr
      exact hrx.2 r (by omega) hrr.1 hq
    have hw2 : 2 ^ w < 2 ^ c := Nat.pow_lt_pow_right (by decide) hw
    refine ⟨by omega, ?_⟩
    simp [bin_low hl0, e1, ha _ _ hw2 hf, closM_1]
    rw [apS_ok (ds := ((repsN E (bitP free) k).map (compM c E (bitP free))).map nD) (by simp) (by simp; have := reps_lt_len E (bitP free) k; omega)]
    simp
    refine ⟨w + 1, dif left (compM c E (bitP free) w), ⟨?_, rfl⟩, dif_lt h1, by omega, by omega, fun x => ?_⟩
    · rw [reps_succ hrep, hreps]; simp
    · rw [test_dif, Bool.and_eq_true, h3 x, reps_succ hrep, hreps]
      constructor
      · rintro ⟨⟨a, b⟩, d⟩
        refine ⟨a, fun r hr q => ?_⟩
        rcases List.mem_append.mp hr with hr | hr
        · exact b r hr q
        · have : r = w := by simpa using hr
          subst this
          have hx : x < c := lt_of_test hf a
          have := (test_maskP (c := c) (p := InC E (bitP free) r)).mpr ⟨hx, q⟩
          rw [show compM c E (bitP free) r = maskP c (InC E (bitP free) r) from rfl, this] at d
          cases d
      · rintro ⟨a, b⟩
        refine ⟨⟨a, fun r hr => b r (List.mem_append_left _ hr)⟩, ?_⟩
        cases hx : (compM c E (bitP free) w).testBit x with
        | false => rfl
        | true => exact absurd (test_maskP.mp hx).2 (b w (by simp))
  · have hl0 : left = 0 := by simpa using hb
    subst hl0
    simp
    have : repsN E (bitP free) c = repsN E (bitP free) k := by
      obtain ⟨d, rfl⟩ : ∃ d, c = k + d := ⟨c - k, by omega⟩
      refine reps_skip d fun x hx hxd hrx => ?_
      have hn := (h3 x)
      simp at hn
      obtain ⟨r, hr, hq⟩ := hn hrx.1
      obtain ⟨hrk, hrr⟩ := mem_reps.mp hr
      exact hrx.2 r (by omega) hrr.1 hq
    unfold partsM
    rw [this]
    simp
def SMask (Φ : Calls) : Prop := ∀ l : List Nat, (∀ x ∈ l, x ≤ 1000000) → Φ "mask_of" [natsT l] = .ok (nD (maskN l))
def SAll (Φ : Calls) (c : Nat) (E : List (Nat × Nat)) : Prop := Φ "all_nodes" [grD c E] = .ok (nD (2 ^ c - 1))
def SRows (Φ : Calls) (c : Nat) (E : List (Nat × Nat)) : Prop := Φ "neighbour_masks" [grD c E] = .ok (natsL (rowsN c E))
def SPartM (Φ : Calls) (c : Nat) (E : List (Nat × Nat)) : Prop := ∀ free, free < 2 ^ c → Φ "part_masks" [natsL (rowsN c E), nD free] = .ok (natsL (partsM c E (bitP free)))
theorem compM_lt {c : Nat} {E : List (Nat × Nat)} {free : Nat → Prop} {v : Nat} : compM c E free v < 2 ^ c := maskP_lt
/-- the parts, as tuples of nodes -/
noncomputable def partsT (c : Nat) (E : List (Nat × Nat)) (free : Nat → Prop) : List (List Nat) := (partsM c E free).map (bitsN c)
theorem test_all {c x : Nat} : (2 ^ c - 1).testBit x = decide (x < c) := by rw [Nat.testBit_two_pow_sub_one]
theorem parts_run {Φ : Calls} {c : Nat} {E : List (Nat × Nat)} {gone : List Nat} (h1 : SAll Φ c E) (h2 : SMask Φ) (h3 : SRows Φ c E) (h4 : SPartM Φ c E) (h5 : SNodes Φ c) (hc : c ≤ 16) (hg : ∀ x ∈ gone, x < c) :
    runB 2 4 b_parts Φ [grD c E, natsT gone] = .ok (.tuple ((partsT c E (fun v => v < c ∧ v ∉ gone)).map natsT)) := by
  refine (run_of (by rfl)).trans ?_
  unfold b_parts
  have hm := h2 gone fun x hx => by have := hg x hx; omega
  have hfree : dif (2 ^ c - 1) (maskN gone) < 2 ^ c := dif_lt (by have := Nat.two_pow_pos c; omega)
  have hP : bitP (dif (2 ^ c - 1) (maskN gone)) = fun v => v < c ∧ v ∉ gone := by
    funext v
    apply propext
    show (dif (2 ^ c - 1) (maskN gone)).testBit v = true ↔ _
    rw [test_dif, test_all, Bool.and_eq_true, decide_eq_true_iff]
    have := test_maskN (l := gone) (v := v)
    cases q : (maskN gone).testBit v <;> simp_all
  have h4' := h4 _ hfree
  rw [hP] at h4'
  have hA : Φ "all_nodes" [grD c E] = .ok (nD (2 ^ c - 1)) := h1
  have hR : Φ "neighbour_masks" [grD c E] = .ok (natsL (rowsN c E)) := h3
  simp [start1, hA, hm]
  rw [lc_all (partsM c E (fun v => v < c ∧ v ∉ gone)) nD (fun m => natsT (bitsN c m))]
  · simp [partsT]
  · simp [hR, h4']
  · unfold partsM; rw [List.length_map]; have := reps_lt_len E (fun v => v < c ∧ v ∉ gone) c; omega
  · intro m hm
    obtain ⟨v, _, rfl⟩ := List.mem_map.mp hm
    refine ⟨_, rfl, ?_⟩
    simp [wipeE, h5 _ compM_lt]
end Pv

end
section
namespace Pv
open PySem

theorem foldl_filter_ite {α β : Type} (p : α → Bool) (f : β → α → β) : ∀ (l : List α) (b : β), l.foldl (fun b a => if p a then f b a else b) b = (l.filter p).foldl f b
  | [], _ => rfl
  | a :: l, b => by
    rw [List.foldl_cons, foldl_filter_ite p f l]
    cases h : p a with
    | true => rw [List.filter_cons_of_pos h, List.foldl_cons]; simp
    | false => rw [List.filter_cons_of_neg (by rw [h]; simp)]; simp
def borderN (c : Nat) (rows : List Nat) (m : Nat) : List Nat := (bitsN c m).filter fun v => !(dif (rows[v]?.getD 0) m == 0)
theorem mem_borderN {c : Nat} {E : List (Nat × Nat)} {rows : List Nat} {m v : Nat} (hr : RowsOk c E rows) : v ∈ borderN c rows m ↔ v < c ∧ m.testBit v = true ∧ ∃ u, adj E v u ∧ m.testBit u = false := by
  unfold borderN
  rw [List.mem_filter, mem_bitsN, and_assoc]
  refine and_congr_right fun _ => and_congr_right fun _ => ?_
  constructor
  · intro h
    have h : dif (rows[v]?.getD 0) m ≠ 0 := by simpa using h
    obtain ⟨u, hu⟩ := ne_zero_test h
    rw [test_dif, Bool.and_eq_true] at hu
    exact ⟨u, (hr.2 v u).mp hu.1, by simpa using hu.2⟩
  · rintro ⟨u, h1, h2⟩
    have : dif (rows[v]?.getD 0) m ≠ 0 := fun z => by
      have t : (dif (rows[v]?.getD 0) m).testBit u = true := by
        rw [test_dif, (hr.2 v u).mpr h1, h2]; rfl
      rw [z, Nat.zero_testBit] at t; cases t
    simpa using this
theorem border_mask_run {Φ : Calls} {c : Nat} {rows : List Nat} {m : Nat} (hn : SNodes Φ c) (hl : rows.length = c) (hc : c ≤ 1000000) (hm : m < 2 ^ c) : runB 2 4 b_border_mask Φ [natsL rows, nD m] = .ok (nD (maskN (borderN c rows m))) := by
  refine (run_of (by rfl)).trans ?_
  unfold b_border_mask
  simp [start1, hn m hm]
  refine for_E (S := Nat) (fun f ρ => ∃ y, ρ = [some (false, natsL rows), some (false, nD m), some (false, nD f), y]) (fun f x => if (!(dif (rows[x]?.getD 0) m == 0)) = true then f ||| 2 ^ x else f) ⟨none, rfl⟩ (fun f x ρ hx ⟨y, q⟩ => ⟨_, rfl, ?_⟩) fun ρ ⟨y, q⟩ => ?_
  · subst q
    have h1 : x < rows.length := by rw [hl]; exact (mem_bitsN.mp hx).1
    have b1 := bin_shl (n := x) (by omega)
    by_cases hz : dif (rows[x]?.getD 0) m = 0
    · simp [get_nD h1, hz]
    · simp [get_nD h1, hz, b1]
  · subst q
    simp only [foldl_filter_ite (fun x => !(dif (rows[x]?.getD 0) m == 0)) (fun f x => f ||| 2 ^ x)]
    simp [maskN, borderN]
def SBorderM (Φ : Calls) (c : Nat) (E : List (Nat × Nat)) : Prop := ∀ m, m < 2 ^ c → Φ "border_mask" [natsL (rowsN c E), nD m] = .ok (nD (maskN (borderN c (rowsN c E) m)))
theorem bits_mask_filter {c m : Nat} (p : Nat → Bool) : bitsN c (maskN ((bitsN c m).filter p)) = (bitsN c m).filter p := by
  unfold bitsN
  rw [List.filter_filter]
  apply List.filter_congr
  intro x hx
  have h := test_maskN (l := List.filter p (List.filter m.testBit (List.range c))) (v := x)
  rw [List.mem_filter, List.mem_filter] at h
  cases q : (maskN (List.filter p (List.filter m.testBit (List.range c)))).testBit x <;> rw [q] at h <;> cases q2 : m.testBit x <;> cases q3 : p x <;> simp_all
theorem border_run {Φ : Calls} {c : Nat} {E : List (Nat × Nat)} {nodes : List Nat} (h2 : SMask Φ) (h3 : SRows Φ c E) (h4 : SBorderM Φ c E) (h5 : SNodes Φ c) (hc : c ≤ 1000000) (hg : ∀ x ∈ nodes, x < c) :
    runB 2 2 b_border Φ [grD c E, natsT nodes] = .ok (natsT (borderN c (rowsN c E) (maskN nodes))) := by
  refine (run_of (by rfl)).trans ?_
  unfold b_border
  have hm := h2 nodes fun x hx => by have := hg x hx; omega
  have hR : Φ "neighbour_masks" [grD c E] = .ok (natsL (rowsN c E)) := h3
  have hlt := maskN_lt hg
  have h4' := h4 _ hlt
  have h6 := h5 (maskN (borderN c (rowsN c E) (maskN nodes))) (maskN_lt fun x hx => (mem_bitsN.mp (List.mem_filter.mp hx).1).1)
  simp [start1, hR, hm, h4', h6]
  unfold borderN
  rw [bits_mask_filter]

/-! ### sorting, looking -/
theorem okD_n (n : Nat) : okD (nD n) = true := rfl
theorem okD_s (s : Str) : okD (.str s) = true := rfl
theorem plainAll_iff {ds : List D} : PyData.plainAll ds = true ↔ ∀ d ∈ ds, d.plain = true := by
  induction ds with
  | nil => simp [PyData.plainAll]
  | cons d ds ih => simp [PyData.plainAll, ih]
theorem depthAll_le {ds : List D} {n : Nat} : PyData.depthAll ds ≤ n ↔ ∀ d ∈ ds, d.depth ≤ n := by
  induction ds with
  | nil => simp [PyData.depthAll]
  | cons d ds ih => simp [PyData.depthAll, ih, Nat.max_le]
def okN (n : Nat) (d : D) : Prop := d.plain = true ∧ d.depth ≤ n
theorem okN_nD (k n : Nat) : okN k (nD n) := ⟨rfl, Nat.zero_le _⟩
theorem okN_str (k : Nat) (n : Str) : okN k (.str n) := ⟨rfl, Nat.zero_le _⟩
theorem okN_tup {n : Nat} {ds : List D} (h : ∀ d ∈ ds, okN n d) : okN (n + 1) (.tuple ds) := by
  refine ⟨?_, ?_⟩
  · rw [PyData.plain]; exact plainAll_iff.mpr fun d hd => (h d hd).1
  · rw [PyData.depth]; have := depthAll_le.mpr fun d hd => (h d hd).2; omega
theorem okN_lst {n : Nat} {ds : List D} (h : ∀ d ∈ ds, okN n d) : okN (n + 1) (.list ds) := by
  refine ⟨?_, ?_⟩
  · rw [PyData.plain]; exact plainAll_iff.mpr fun d hd => (h d hd).1
  · rw [PyData.depth]; have := depthAll_le.mpr fun d hd => (h d hd).2; omega
theorem okN_ok {n : Nat} {d : D} (h : okN n d) (hn : n ≤ 60) : okD d = true := by
  unfold okD
  rw [h.1, decide_eq_true (Nat.le_trans h.2 hn)]; rfl
theorem okN_natsT (n : Nat) (l : List Nat) : okN (n + 1) (natsT l) := okN_tup fun d hd => by
  obtain ⟨x, _, rfl⟩ := List.mem_map.mp hd; exact okN_nD _ _
theorem okN_natsL (n : Nat) (l : List Nat) : okN (n + 1) (natsL l) := okN_lst fun d hd => by
  obtain ⟨x, _, rfl⟩ := List.mem_map.mp hd; exact okN_nD _ _
theorem eqv_n (a b : Nat) : PyData.eqv (nD a) (nD b) = (a == b) := by
  show PyData.eqv (.int a) (.int b) = _
  rw [PyData.eqv, beq_nn]
theorem inD_n (a : Nat) (l : List Nat) : inD (nD a) (l.map nD) = decide (a ∈ l) := by
  unfold inD
  rw [List.any_map]
  induction l with
  | nil => rfl
  | cons b l ih =>
    rw [List.any_cons, ih]
    show (PyData.eqv (nD b) (nD a) || _) = _
    rw [eqv_n]
    by_cases h : b = a
    · subst h; simp
    · simp [h, Ne.symm h]
@[simp] theorem in_nL (a : Nat) (l : List Nat) : cmpR .In (nD a) (natsL l) = .ok (.bool (decide (a ∈ l))) := by
  apply cmpR_of
  show (if okD (nD a) && okD (natsL l) then some (inD (nD a) (l.map nD)) else none) = _
  rw [okD_n, okN_ok (okN_natsL 0 l) (by omega), inD_n]; rfl
@[simp] theorem in_nT (a : Nat) (l : List Nat) : cmpR .In (nD a) (natsT l) = .ok (.bool (decide (a ∈ l))) := by
  apply cmpR_of
  show (if okD (nD a) && okD (natsT l) then some (inD (nD a) (l.map nD)) else none) = _
  rw [okD_n, okN_ok (okN_natsT 0 l) (by omega), inD_n]; rfl
@[simp] theorem nin_nL (a : Nat) (l : List Nat) : cmpR .NotIn (nD a) (natsL l) = .ok (.bool (!decide (a ∈ l))) := by
  apply cmpR_of
  show (if okD (nD a) && okD (natsL l) then some (!inD (nD a) (l.map nD)) else none) = _
  rw [okD_n, okN_ok (okN_natsL 0 l) (by omega), inD_n]; rfl
@[simp] theorem nin_nT (a : Nat) (l : List Nat) : cmpR .NotIn (nD a) (natsT l) = .ok (.bool (!decide (a ∈ l))) := by
  apply cmpR_of
  show (if okD (nD a) && okD (natsT l) then some (!inD (nD a) (l.map nD)) else none) = _
  rw [okD_n, okN_ok (okN_natsT 0 l) (by omega), inD_n]; rfl
theorem all_imp {α : Type} {l : List α} {p : α → Bool} (h : ∀ a ∈ l, p a = true) : l.all p = true := List.all_eq_true.mpr h
theorem sorted_n (l : List Nat) : bltop .sorted [natsL l] = some (natsL (l.mergeSort fun a b => decide (a ≤ b))) := by
  show (if alikeB (l.map nD) && plainB (l.map nD) && sortB (l.map nD) then some (PyData.list (sortD (l.map nD))) else none) = _
  have h1 : alikeB (l.map nD) = true := all_imp fun a ha => all_imp fun b hb => by
    obtain ⟨x, _, rfl⟩ := List.mem_map.mp ha
    obtain ⟨y, _, rfl⟩ := List.mem_map.mp hb
    rfl
  have h2 : plainB (l.map nD) = true := all_imp fun a ha => by
    obtain ⟨x, _, rfl⟩ := List.mem_map.mp ha
    rfl
  have h3 : sortB (l.map nD) = true := by
    unfold sortB
    rw [Bool.or_eq_true]
    exact .inr (all_imp fun a ha => by
      obtain ⟨x, _, rfl⟩ := List.mem_map.mp ha
      rfl)
  rw [h1, h2, h3]
  show some (PyData.list (sortD (l.map nD))) = _
  unfold sortD
  rw [← List.map_mergeSort (r := fun a b => decide (a ≤ b)) (s := fun a b => !PySem.W.dataLt b a)]
  intro a _ b _
  show _ = !PySem.W.dataLt (.int b) (.int a)
  rw [PySem.W.dataLt_int]
  by_cases h : a ≤ b
  · rw [decide_eq_true h, decide_eq_false (by omega)]; rfl
  · rw [decide_eq_false h, decide_eq_true (by omega)]; rfl
def leE (a b : Nat × Nat) : Bool := decide (a.1 < b.1 ∨ (a.1 = b.1 ∧ a.2 ≤ b.2))
theorem sorted_e (l : List (Nat × Nat)) : bltop .sorted [.list (l.map edgeD)] = some (.list ((l.mergeSort leE).map edgeD)) := by
  show (if alikeB (l.map edgeD) && plainB (l.map edgeD) && sortB (l.map edgeD) then some (PyData.list (sortD (l.map edgeD))) else none) = _
  have h1 : alikeB (l.map edgeD) = true := all_imp fun a ha => all_imp fun b hb => by
    obtain ⟨x, _, rfl⟩ := List.mem_map.mp ha
    obtain ⟨y, _, rfl⟩ := List.mem_map.mp hb
    simp [edgeD, PySem.W.alike, PySem.W.alikeAll, nD]
  have h2 : plainB (l.map edgeD) = true := all_imp fun a ha => by
    obtain ⟨x, _, rfl⟩ := List.mem_map.mp ha
    have : okN 60 (edgeD x) := okN_tup (n := 59) fun d hd => by
      rcases List.mem_cons.mp hd with rfl | hd
      · exact okN_nD _ _
      · have : d = nD x.2 := by simpa using hd
        subst this; exact okN_nD _ _
    rw [this.1, decide_eq_true this.2]; rfl
  have h3 : sortB (l.map edgeD) = true := by
    unfold sortB
    rw [Bool.or_eq_true]
    exact .inl (all_imp fun a ha => by
      obtain ⟨x, _, rfl⟩ := List.mem_map.mp ha
      rfl)
  rw [h1, h2, h3]
  show some (PyData.list (sortD (l.map edgeD))) = _
  unfold sortD
  rw [← List.map_mergeSort (r := leE) (s := fun a b => !PySem.W.dataLt b a)]
  intro a _ b _
  show _ = !PySem.W.dataLt (.tuple [.int b.1, .int b.2]) (.tuple [.int a.1, .int a.2])
  rw [PySem.W.dataLt_ii]
  unfold leE
  by_cases h : a.1 < b.1 ∨ (a.1 = b.1 ∧ a.2 ≤ b.2)
  · rw [decide_eq_true h, decide_eq_false (by omega)]; rfl
  · rw [decide_eq_false h, decide_eq_true (by omega)]; rfl
end Pv

end
section
namespace Pv
open PySem

/-! ### the law's makings -/
theorem cmpI_ge (i : Int) (j : Nat) : cmpR .GtE (.int i) (nD j) = .ok (.bool (decide ((j : Int) ≤ i))) := id rfl
theorem bin_modI {i : Int} {j : Nat} (h : 0 < j) : binop .Mod (.int i) (nD j) = some (nD (i % j).toNat) := by
  show (if (0 : Int) < (j : Int) then some (PyData.int (i % j)) else none) = _
  rw [if_pos (by omega), nD_eq, Int.toNat_of_nonneg (Int.emod_nonneg _ (by omega))]
theorem law_mixed_run (Φ : Calls) (cell : Int) (turn : Nat) : ∃ v : Nat, runB 2 6 b__law_mixed Φ [.int cell, nD turn] = .ok (nD v) := by
  by_cases h : (1000000000000000000 : Int) ≤ cell
  · refine ⟨cell.toNat, (run_of (by rfl)).trans ?_⟩
    unfold b__law_mixed
    simp [start1, cmpI_ge, h]
    rw [nD_eq, Int.toNat_of_nonneg (by omega)]
  · have : ∃ v : Nat, endR (exs b__law_mixed Φ (start1 6 [.int cell, nD turn])) = .ok (nD v) := by
      unfold b__law_mixed
      simp [start1, cmpI_ge, h, bin_modI, bin_mod, bin_mul, bin_mulL]
      exact ⟨_, rfl⟩
    obtain ⟨v, e⟩ := this
    exact ⟨v, (run_of (by rfl)).trans e⟩
def SMixed (Φ : Calls) : Prop := ∀ (cell : Int) (turn : Nat), ∃ v : Nat, Φ "_law_mixed" [.int cell, nD turn] = .ok (nD v)
def ltE (a b : Nat × Nat) : Prop := a.1 < b.1 ∨ (a.1 = b.1 ∧ a.2 < b.2)
structure GOk (c : Nat) (E : List (Nat × Nat)) : Prop where
  lt : ∀ e ∈ E, e.1 < e.2 ∧ e.2 < c
  so : E.Pairwise ltE
  len : E.length ≤ 64
theorem GOk.e {c : Nat} {E : List (Nat × Nat)} (h : GOk c E) : EOk c E := fun e he => by have := h.lt e he; omega
def lgE (v most c t left : Nat) (E0 : List (Nat × Nat)) (y z : Option (Bool × D)) : Env := [some (false, nD v), some (false, nD most), some (false, nD c), some (false, nD t), some (false, nD left), some (true, .list (E0.map edgeD)), y, z]
def LgO (v most c t : Nat) (rest : List Nat) (ρ : Env) : Prop := ∃ (left : Nat) (E0 : List (Nat × Nat)) (y z : Option (Bool × D)), ρ = lgE v most c t left E0 y z ∧ rest.Nodup ∧ (∀ x ∈ rest, x < c) ∧ E0.Nodup
  ∧ (∀ e ∈ E0, e.1 < e.2 ∧ e.2 < c ∧ e.2 ∉ rest) ∧ E0.length + rest.length * 8 ≤ 64
def LgN (v most c t : Nat) (rest : List Nat) (sec : Nat) (inner : List Nat) (ρ : Env) : Prop := ∃ (left : Nat) (E0 : List (Nat × Nat)) (z : Option (Bool × D)), ρ = lgE v most c t left E0 (some (false, nD sec)) z ∧ inner.Nodup ∧ (∀ x ∈ inner, x < sec) ∧ E0.Nodup
  ∧ (∀ e ∈ E0, e.1 < e.2 ∧ e.2 < c ∧ e.2 ∉ rest ∧ (e.2 = sec → e.1 ∉ inner)) ∧ E0.length + inner.length + rest.length * 8 ≤ 64
theorem law_graph_run (Φ : Calls) (v most : Nat) (hm : 1 ≤ most) (hm8 : most ≤ 8) : ∃ c E, runB 2 8 b__law_graph Φ [nD v, nD most] = .ok (grD c E) ∧ 1 ≤ c ∧ c ≤ most ∧ GOk c E := by
  obtain ⟨c, hcd⟩ : ∃ c, c = 1 + v % most := ⟨_, rfl⟩
  have hc1 : 1 ≤ c := by omega
  have hc2 : c ≤ most := by have := Nat.mod_lt v (show 0 < most by omega); omega
  suffices h : ∃ E, endR (exs b__law_graph Φ (start1 8 [nD v, nD most])) = .ok (grD c E) ∧ GOk c E by
    obtain ⟨E, e, g⟩ := h
    exact ⟨c, E, (run_of (by rfl)).trans e, hc1, hc2, g⟩
  suffices h : ∃ E0 : List (Nat × Nat), endR (exs b__law_graph Φ (start1 8 [nD v, nD most])) = .ok (grD c (E0.mergeSort leE)) ∧ (∀ e ∈ E0, e.1 < e.2 ∧ e.2 < c) ∧ E0.Nodup ∧ E0.length ≤ 64 by
    obtain ⟨E0, e, g1, g2, g3⟩ := h
    refine ⟨_, e, fun x hx => g1 x (List.mem_mergeSort.mp hx), ?_, by rw [List.length_mergeSort]; exact g3⟩
    have hs : (E0.mergeSort leE).Pairwise fun a b => leE a b = true := List.pairwise_mergeSort (fun a b d h1 h2 => by unfold leE at *; simp only [decide_eq_true_eq] at *; omega) (fun a b => by unfold leE; simp only [Bool.or_eq_true, decide_eq_true_eq]; omega) E0
    have hn : (E0.mergeSort leE).Nodup := (List.mergeSort_perm E0 leE).nodup_iff.mpr g2
    refine List.Pairwise.imp ?_ (List.Pairwise.and hs hn)
    intro a b ⟨h1, h2⟩
    unfold leE at h1
    simp only [decide_eq_true_eq] at h1
    unfold ltE
    have : ¬ (a.1 = b.1 ∧ a.2 = b.2) := fun z => h2 (Prod.ext z.1 z.2)
    omega
  obtain ⟨t, ht⟩ : ∃ t, t = 1 + v / most % 3 := ⟨_, rfl⟩
  unfold b__law_graph
  simp [start1, bin_mod (show 0 < most by omega), bin_div (show 0 < most by omega) (show most < 1073741824 by omega), bin_mul (show most < 2 ^ 64 by omega), bin_div (show 0 < 3 * most by omega) (show 3 * most < 1073741824 by omega), bin_mod, ← hcd, ← ht, rng_n (show c ≤ 1000000 by omega)]
  have edge_nil : (PyData.list []) = .list (([] : List (Nat × Nat)).map edgeD) := rfl
  refine for_gen (fun r => ∃ E0 : List (Nat × Nat), endR r = .ok (grD c (E0.mergeSort leE)) ∧ (∀ (a b : Nat), (a, b) ∈ E0 → a < b ∧ b < c) ∧ E0.Nodup ∧ E0.length ≤ 64)
    (LgO v most c t) ?_ ?_ _ _ ⟨v / (3 * most), [], none, none, rfl, List.nodup_range, fun x hx => List.mem_range.mp hx, by simp, by simp, by simp; omega⟩
  · rintro sec rest ρ ⟨left, E0, y, z, q, n1, n2, n3, n4, n5⟩
    subst q
    have hsec : sec < c := n2 sec (by simp)
    refine ⟨_, rfl, ?_⟩
    simp [lgE, rng_n (show sec ≤ 1000000 by omega)]
    refine for_AI (LgN v most c t rest sec) ⟨left, E0, z, rfl, List.nodup_range, fun x hx => List.mem_range.mp hx, n3, fun e he => ?_, ?_⟩ ?_ ?_
    · obtain ⟨a1, a2, a3⟩ := n4 e he
      exact ⟨a1, a2, fun h => a3 (List.mem_cons_of_mem _ h), fun h => absurd (by rw [h]; simp) a3⟩
    · rw [List.length_range]; rw [List.length_cons] at n5; omega
    · rintro fst inner ρ ⟨left, E0, z, q, m1, m2, m3, m4, m5⟩
      subst q
      refine ⟨_, rfl, ?_⟩
      have hfst : fst < sec := m2 fst (by simp)
      have happ : ∀ left', apS 5 [some (false, nD v), some (false, nD most), some (false, nD c), some (false, nD t), some (false, nD left'), some (true, .list (E0.map edgeD)), some (false, nD sec), some (false, nD fst)] (.ok (.tuple [nD fst, nD sec])) = .nx [some (false, nD v), some (false, nD most), some (false, nD c), some (false, nD t), some (false, nD left'), some (true, .list ((E0 ++ [(fst, sec)]).map edgeD)), some (false, nD sec), some (false, nD fst)] := fun left' => by
        rw [apS_ok (ds := E0.map edgeD) (by rfl) (by rw [List.length_map]; omega), List.map_append]
        rfl
      have fin : ∀ (left' : Nat) (E1 : List (Nat × Nat)), (E1 = E0 ∨ E1 = E0 ++ [(fst, sec)]) → LgN v most c t rest sec inner (lgE v most c t left' E1 (some (false, nD sec)) (some (false, nD fst))) := fun left' E1 hE1 => by
        obtain ⟨mi1, mi2⟩ := List.nodup_cons.mp m1
        obtain ⟨nr1, nr2⟩ := List.nodup_cons.mp n1
        rw [List.length_cons] at m5
        refine ⟨left', E1, some (false, nD fst), rfl, mi2, fun x hx => m2 x (by simp [hx]), ?_, fun e he => ?_, ?_⟩
        · rcases hE1 with rfl | rfl
          · exact m3
          · rw [List.nodup_append]
            refine ⟨m3, by simp, fun a ha b hb => ?_⟩
            have : b = (fst, sec) := by simpa using hb
            subst this
            intro hab
            subst hab
            exact (m4 _ ha).2.2.2 rfl (by simp)
        · have key : ∀ e ∈ E0, e.1 < e.2 ∧ e.2 < c ∧ e.2 ∉ rest ∧ (e.2 = sec → e.1 ∉ inner) := fun e he => by
            obtain ⟨a1, a2, a3, a4⟩ := m4 e he
            exact ⟨a1, a2, a3, fun h z => a4 h (by simp [z])⟩
          rcases hE1 with rfl | rfl
          · exact key e he
          · rcases List.mem_append.mp he with he | he
            · exact key e he
            · have : e = (fst, sec) := by simpa using he
              subst this
              exact ⟨hfst, hsec, nr1, fun _ => mi1⟩
        · rcases hE1 with rfl | rfl
          · omega
          · rw [List.length_append]; simp; omega
      by_cases c1 : left = 0
      · subst c1
        by_cases c2 : (v + 7919 * (fst + 10 * sec + 1)) % 4 < t
        · simp [lgE, bin_mul, bin_mulL, bin_mod, bin_div, c2, happ]
          have q := fin ((v + 7919 * (fst + 10 * sec + 1)) / 4) (E0 ++ [(fst, sec)]) (.inr rfl)
          unfold lgE at q
          rw [List.map_append] at q
          exact q
        · simp [lgE, bin_mul, bin_mulL, bin_mod, bin_div, c2]
          exact fin ((v + 7919 * (fst + 10 * sec + 1)) / 4) E0 (.inl rfl)
      · by_cases c2 : left % 4 < t
        · simp [lgE, bin_mul, bin_mulL, bin_mod, bin_div, c1, c2, happ]
          have q := fin (left / 4) (E0 ++ [(fst, sec)]) (.inr rfl)
          unfold lgE at q
          rw [List.map_append] at q
          exact q
        · simp [lgE, bin_mul, bin_mulL, bin_mod, bin_div, c1, c2]
          exact fin (left / 4) E0 (.inl rfl)
    · rintro ρ ⟨left, E0, z, q, m1, m2, m3, m4, m5⟩
      subst q
      have := List.nodup_cons.mp n1
      simp only [Aft_nx]
      exact ⟨left, E0, some (false, nD sec), z, rfl, this.2, fun x hx => n2 x (by simp [hx]), m3, fun e he => ⟨(m4 e he).1, (m4 e he).2.1, (m4 e he).2.2.1⟩, by simp at m5; omega⟩
  · rintro ρ ⟨left, E0, y, z, q, n1, n2, n3, n4, n5⟩
    subst q
    refine ⟨E0, ?_, fun a b h => ⟨(n4 _ h).1, (n4 _ h).2.1⟩, n3, by simp at n5; exact n5⟩
    simp [lgE, sorted_e, grD]
end Pv

end
section
namespace Pv
open PySem

abbrev Asc (l : List Nat) : Prop := l.Pairwise (· < ·)
theorem asc_eq : ∀ {l m : List Nat}, Asc l → Asc m → (∀ x, x ∈ l ↔ x ∈ m) → l = m
  | [], [], _, _, _ => rfl
  | [], b :: m, _, _, h => absurd ((h b).mpr (by simp)) (by simp)
  | a :: l, [], _, _, h => absurd ((h a).mp (by simp)) (by simp)
  | a :: l, b :: m, h1, h2, h => by
    obtain ⟨a1, a2⟩ := List.pairwise_cons.mp h1
    obtain ⟨b1, b2⟩ := List.pairwise_cons.mp h2
    have hab : a = b := by
      rcases List.mem_cons.mp ((h a).mp (by simp)) with e | e
      · exact e
      · rcases List.mem_cons.mp ((h b).mpr (by simp)) with e2 | e2
        · exact e2.symm
        · have := b1 a e; have := a1 b e2; omega
    subst hab
    congr 1
    refine asc_eq a2 b2 fun x => ⟨fun hx => ?_, fun hx => ?_⟩
    · rcases List.mem_cons.mp ((h x).mp (by simp [hx])) with e | e
      · have := a1 x hx; omega
      · exact e
    · rcases List.mem_cons.mp ((h x).mpr (by simp [hx])) with e | e
      · have := b1 x hx; omega
      · exact e
theorem range_asc (n : Nat) : Asc (List.range n) := List.pairwise_lt_range
theorem bits_asc (c m : Nat) : Asc (bitsN c m) := (range_asc c).filter _
theorem Asc.nodup {l : List Nat} (h : Asc l) : l.Nodup := List.Pairwise.imp (fun {a b} (q : a < b) => Nat.ne_of_lt q) h
theorem sort_asc {l : List Nat} (h : l.Nodup) : Asc (l.mergeSort fun a b => decide (a ≤ b)) := by
  have hs : (l.mergeSort fun a b => decide (a ≤ b)).Pairwise fun a b => decide (a ≤ b) = true := List.pairwise_mergeSort (fun a b d h1 h2 => by simp only [decide_eq_true_eq] at *; omega) (fun a b => by simp only [Bool.or_eq_true, decide_eq_true_eq]; omega) l
  have hn : (l.mergeSort fun a b => decide (a ≤ b)).Nodup := (List.mergeSort_perm l _).nodup_iff.mpr h
  refine List.Pairwise.imp ?_ (List.Pairwise.and hs hn)
  intro a b ⟨h1, h2⟩
  simp only [decide_eq_true_eq] at h1
  have : a ≠ b := h2
  omega
theorem nodup_len {l : List Nat} {c : Nat} (h : l.Nodup) (hl : ∀ x ∈ l, x < c) : l.length ≤ c := by
  have e : (l.mergeSort fun a b => decide (a ≤ b)).length = l.length := List.length_mergeSort l
  rw [← e]
  have := asc_len (sort_asc h) (c := c) fun x hx => hl x (List.mem_mergeSort.mp hx)
  exact this
where
  asc_len : ∀ {l : List Nat} {c : Nat}, Asc l → (∀ x ∈ l, x < c) → l.length ≤ c := by
    intro l
    have go : ∀ (l : List Nat) (k c : Nat), Asc l → (∀ x ∈ l, k ≤ x ∧ x < c) → k ≤ c → l.length + k ≤ c := by
      intro l
      induction l with
      | nil => intro k c _ _ h; simpa using h
      | cons a l ih =>
        intro k c h1 h2 hk
        obtain ⟨a1, a2⟩ := List.pairwise_cons.mp h1
        have ha := h2 a (by simp)
        have := ih (a + 1) c a2 (fun x hx => ⟨a1 x hx, (h2 x (by simp [hx])).2⟩) (by omega)
        rw [List.length_cons]; omega
    intro c h1 h2
    have := go l 0 c h1 (fun x hx => ⟨Nat.zero_le _, h2 x hx⟩) (Nat.zero_le _)
    omega
/-! _law_set -/
def LsI (v count most : Nat) (rest : List Nat) (ρ : Env) : Prop := ∃ (nodes : List Nat) (left : Nat) (y : Option (Bool × D)), ρ = [some (false, nD v), some (false, nD count), some (false, nD most), some (true, natsL nodes), some (false, nD left), y] ∧ Asc nodes ∧ Asc rest
  ∧ (∀ x ∈ nodes, x < count ∧ ∀ y ∈ rest, x < y) ∧ (∀ x ∈ rest, x < count) ∧ nodes.length ≤ most ∧ nodes.length + rest.length ≤ count
theorem law_set_run (Φ : Calls) (v count most : Nat) (hc : count ≤ 1000) : ∃ l : List Nat, runB 3 6 b__law_set Φ [nD v, nD count, nD most] = .ok (natsT l) ∧ Asc l ∧ (∀ x ∈ l, x < count) ∧ l.length ≤ most := by
  suffices h : ∃ l : List Nat, endR (exs b__law_set Φ (start1 6 [nD v, nD count, nD most])) = .ok (natsT l) ∧ Asc l ∧ (∀ x ∈ l, x < count) ∧ l.length ≤ most by
    obtain ⟨l, e, h⟩ := h
    exact ⟨l, (run_of (by rfl)).trans e, h⟩
  unfold b__law_set
  simp only [start1, exs_cons, exs_nil, ex_setF, ex_set, ex_fors, ex_ret, evi_rng1, dis_nil, List.map_cons, List.map_nil, List.length_cons, List.length_nil, List.replicate, List.cons_append, List.nil_append, ev_lst, evs_nil]
  simp [rng_n (show count ≤ 1000000 by omega)]
  refine for_gen (fun r => ∃ l : List Nat, endR r = .ok (natsT l) ∧ Asc l ∧ (∀ x ∈ l, x < count) ∧ l.length ≤ most) (LsI v count most) ?_ ?_ _ _ ⟨[], v, none, rfl, .nil, range_asc count, by simp, fun x hx => List.mem_range.mp hx, by simp, by simp⟩
  · rintro x rest ρ ⟨nodes, left, y, q, h1, h2, h3, h4, h5, h6⟩
    subst q
    obtain ⟨b1, b2⟩ := List.pairwise_cons.mp h2
    rw [List.length_cons] at h6
    refine ⟨_, rfl, ?_⟩
    have happ : apS 3 [some (false, nD v), some (false, nD count), some (false, nD most), some (true, natsL nodes), some (false, nD left), some (false, nD x)] (.ok (nD x)) = .nx [some (false, nD v), some (false, nD count), some (false, nD most), some (true, natsL (nodes ++ [x])), some (false, nD left), some (false, nD x)] := by
      rw [apS_ok (ds := nodes.map nD) (by rfl) (by rw [List.length_map]; omega)]
      simp
    have fin : ∀ n2, (n2 = nodes ∨ n2 = nodes ++ [x] ∧ nodes.length < most) → LsI v count most rest [some (false, nD v), some (false, nD count), some (false, nD most), some (true, natsL n2), some (false, nD (left / 2)), some (false, nD x)] := by
      intro n2 hn
      rcases hn with rfl | ⟨rfl, hm⟩
      · exact ⟨n2, left / 2, _, rfl, h1, b2, fun z hz => ⟨(h3 z hz).1, fun w hw => (h3 z hz).2 w (by simp [hw])⟩, fun z hz => h4 z (by simp [hz]), h5, by omega⟩
      · refine ⟨nodes ++ [x], left / 2, _, rfl, ?_, b2, fun z hz => ?_, fun z hz => h4 z (by simp [hz]), by rw [List.length_append]; simp; omega, by rw [List.length_append]; simp; omega⟩
        · refine List.pairwise_append.mpr ⟨h1, by simp, fun a ha b hb => ?_⟩
          have : b = x := by simpa using hb
          subst this
          exact (h3 a ha).2 b (by simp)
        · rcases List.mem_append.mp hz with hz | hz
          · exact ⟨(h3 z hz).1, fun w hw => (h3 z hz).2 w (by simp [hw])⟩
          · have : z = x := by simpa using hz
            subst this
            exact ⟨h4 z (by simp), fun w hw => b1 w hw⟩
    by_cases c1 : left % 2 = 1
    · by_cases c2 : nodes.length < most
      · simp [bin_mod, bin_div, c1, c2, happ]
        simpa using fin (nodes ++ [x]) (.inr ⟨rfl, c2⟩)
      · simp [bin_mod, bin_div, c1, c2]
        exact fin nodes (.inl rfl)
    · simp [bin_mod, bin_div, c1]
      exact fin nodes (.inl rfl)
  · rintro ρ ⟨nodes, left, y, q, h1, h2, h3, h4, h5, h6⟩
    subst q
    exact ⟨nodes, by simp, h1, fun x hx => (h3 x hx).1, h5⟩
end Pv

end
section
namespace Pv
open PySem

/-! _law_reach -/
abbrev frB (c : Nat) (ban : List Nat) : Nat → Prop := fun v => v < c ∧ v ∉ ban
def ClE (fr : Nat → Prop) (L : List Nat) (e : Nat × Nat) : Prop := (e.1 ∈ L → fr e.2 → e.2 ∈ L) ∧ (e.2 ∈ L → fr e.1 → e.1 ∈ L)
def ClL (E : List (Nat × Nat)) (fr : Nat → Prop) (L : List Nat) : Prop := ∀ e ∈ E, ClE fr L e
structure RcL (E : List (Nat × Nat)) (c : Nat) (ban : List Nat) (v : Nat) (L : List Nat) : Prop where
  nd : L.Nodup
  lt : ∀ x ∈ L, x < c
  st : v ∈ L
  co : ∀ x ∈ L, InC E (frB c ban) v x
def rcE (c : Nat) (E : List (Nat × Nat)) (ban : List Nat) (v : Nat) (L : List Nat) (y4 y5 y6 y7 : Option (Bool × D)) : Env :=
  [some (false, grD c E), some (false, natsL [v]), some (false, natsT ban), some (true, natsL L), y4, y5, y6, y7]
def RcO (c : Nat) (E : List (Nat × Nat)) (ban : List Nat) (v : Nat) (rest : List Nat) (ρ : Env) : Prop := ∃ (L : List Nat) (y4 y5 y6 y7 : Option (Bool × D)), ρ = rcE c E ban v L y4 y5 y6 y7 ∧ RcL E c ban v L ∧ rest.length ≤ c ∧ (ClL E (frB c ban) L ∨ c - rest.length ≤ L.length)
def RcN (c : Nat) (E : List (Nat × Nat)) (ban : List Nat) (v : Nat) (L0 : List Nat) (rest : List (Nat × Nat)) (ρ : Env) : Prop := ∃ (L : List Nat) (y4 y5 y6 y7 : Option (Bool × D)), ρ = rcE c E ban v L y4 y5 y6 y7 ∧ RcL E c ban v L ∧ (∀ e ∈ rest, e ∈ E)
  ∧ ((L = L0 ∧ ∀ e ∈ E, e ∈ rest ∨ ClE (frB c ban) L0 e) ∨ (L0.length < L.length ∧ ¬ ClL E (frB c ban) L0))
theorem RcL.app {E : List (Nat × Nat)} {c : Nat} {ban : List Nat} {v : Nat} {L : List Nat} (h : RcL E c ban v L) {a b : Nat} (ha : a ∈ L) (hb : b ∉ L) (hab : adj E a b) (hf : frB c ban b) : RcL E c ban v (L ++ [b]) := by
  refine ⟨?_, fun x hx => ?_, List.mem_append_left _ h.st, fun x hx => ?_⟩
  · rw [List.nodup_append]
    refine ⟨h.nd, by simp, fun x hx y hy => ?_⟩
    have : y = b := by simpa using hy
    subst this
    exact fun z => hb (z ▸ hx)
  · rcases List.mem_append.mp hx with hx | hx
    · exact h.lt x hx
    · have : x = b := by simpa using hx
      subst this; exact hf.1
  · rcases List.mem_append.mp hx with hx | hx
    · exact h.co x hx
    · have : x = b := by simpa using hx
      subst this
      exact .step (h.co a ha) hab hf
theorem law_reach_run (Φ : Calls) {c : Nat} {E : List (Nat × Nat)} {ban : List Nat} {v : Nat} (hc : c ≤ 1000) (hE : EOk c E) (hv : v < c) (hb : v ∉ ban) :
    runB 3 8 b__law_reach Φ [grD c E, natsL [v], natsT ban] = .ok (natsL (bitsN c (compM c E (frB c ban) v))) := by
  refine (run_of (by rfl)).trans ?_
  unfold b__law_reach
  have hlc : lcE [5] (.var 5) (evi (.val (.varB 1))) (evc (.some (.cmp .NotIn (.varB 5) (.varB 2)))) (ev (.var 5)) Φ [some (false, grD c E), some (false, natsL [v]), some (false, natsT ban), none, none, none, none, none] = .ok (natsL [v]) := by
    simp
    rw [lc_val [v] nD nD (fun x => !decide (x ∈ ban))]
    · simp [hb]
    · simp
    · simp
    · intro a ha
      refine ⟨_, rfl, ?_, fun _ => ?_⟩
      · simp [wipeE]
      · simp [wipeE]
  simp only [start1, exs_cons, exs_nil, ex_setF, dis_nil, List.map_cons, List.map_nil, List.length_cons, List.length_nil, List.replicate, List.cons_append, List.nil_append, ev_lc, hlc]
  simp [grD, rng_n (show c ≤ 1000000 by omega)]
  refine for_EI (RcO c E ban v) (l := List.range c) ⟨[v], none, none, none, none, rfl, ⟨by simp, by simp [hv], by simp, by simp [InC.refl]⟩, by simp, .inr (by simp)⟩ ?_ ?_
  · rintro k rest ρ ⟨L0, y4, y5, y6, y7, q, h1, h2, h3⟩
    subst q
    refine ⟨_, rfl, ?_⟩
    rw [List.length_cons] at h2 h3
    simp [rcE, grD]
    refine for_AI (RcN c E ban v L0) (l := E) ⟨L0, some (false, nD k), y5, y6, y7, rfl, h1, fun _ h => h, .inl ⟨rfl, fun e he => .inl he⟩⟩ ?_ ?_
    · rintro ⟨a, b⟩ es ρ ⟨L, z4, z5, z6, z7, q, g1, g2, g3⟩
      subst q
      have hab : (a, b) ∈ E := g2 (a, b) (by simp)
      have hlt := hE _ hab
      have hL1 := nodup_len g1.nd g1.lt
      refine ⟨_, rfl, ?_⟩
      have happ : ∀ x, apS 3 (rcE c E ban v L z4 z5 (some (false, nD a)) (some (false, nD b))) (.ok (nD x)) = .nx (rcE c E ban v (L ++ [x]) z4 z5 (some (false, nD a)) (some (false, nD b))) := fun x => by
        rw [apS_ok (ds := L.map nD) (by rfl) (by rw [List.length_map]; omega)]
        simp [rcE]
      simp only [rcE, grD] at happ
      have fin1 : ∀ x w, adj E w x → w ∈ L → x ∉ L → frB c ban x → ((w, x) = (a, b) ∨ (x, w) = (a, b)) → RcN c E ban v L0 es (rcE c E ban v (L ++ [x]) z4 z5 (some (false, nD a)) (some (false, nD b))) := fun x w hwx hw hx hf hs => by
        refine ⟨L ++ [x], _, _, _, _, rfl, g1.app hw hx hwx hf, fun e he => g2 e (by simp [he]), .inr ?_⟩
        rcases g3 with ⟨rfl, _⟩ | ⟨g3, g4⟩
        · refine ⟨by simp, fun cl => ?_⟩
          rcases hs with hs | hs
          · cases hs; exact hx ((cl _ hab).1 hw hf)
          · cases hs; exact hx ((cl _ hab).2 hw hf)
        · exact ⟨by simp; omega, g4⟩
      have fin2 : ClE (frB c ban) L (a, b) → RcN c E ban v L0 es (rcE c E ban v L z4 z5 (some (false, nD a)) (some (false, nD b))) := fun hcl => by
        refine ⟨L, _, _, _, _, rfl, g1, fun e he => g2 e (by simp [he]), ?_⟩
        rcases g3 with ⟨rfl, g4⟩ | g3
        · refine .inl ⟨rfl, fun e he => ?_⟩
          rcases g4 e he with g | g
          · rcases List.mem_cons.mp g with rfl | g
            · exact .inr hcl
            · exact .inl g
          · exact .inr g
        · exact .inr g3
      have hadj : adj E a b := .inl hab
      simp only [rcE, grD] at fin1 fin2
      by_cases p1 : a ∈ L
      · by_cases p2 : b ∈ L
        · have := fin2 ⟨fun _ _ => p2, fun _ _ => p1⟩
          simp [rcE, grD, p1, p2]
          exact this
        · by_cases p3 : b ∈ ban
          · have := fin2 ⟨fun _ h => absurd p3 h.2, fun h => absurd h p2⟩
            simp [rcE, grD, p1, p2, p3]
            exact this
          · have := fin1 b a hadj p1 p2 ⟨hlt.2, p3⟩ (.inl rfl)
            simp [rcE, grD, p1, p2, p3, happ]
            simpa using this
      · by_cases p2 : b ∈ L
        · by_cases p3 : a ∈ ban
          · have := fin2 ⟨fun h => absurd h p1, fun _ h => absurd p3 h.2⟩
            simp [rcE, grD, p1, p2, p3]
            exact this
          · have := fin1 a b (adj_symm hadj) p2 p1 ⟨hlt.1, p3⟩ (.inr rfl)
            simp [rcE, grD, p1, p2, p3, happ]
            simpa using this
        · have := fin2 ⟨fun h => absurd h p1, fun h => absurd h p2⟩
          simp [rcE, grD, p1, p2]
          exact this
    · rintro ρ ⟨L, z4, z5, z6, z7, q, g1, g2, g3⟩
      subst q
      simp only [Aft_nx]
      refine ⟨L, z4, z5, z6, z7, rfl, g1, by omega, ?_⟩
      rcases g3 with ⟨rfl, g4⟩ | ⟨g3, g4⟩
      · exact .inl fun e he => (g4 e he).resolve_left (by simp)
      · rcases h3 with h3 | h3
        · exact absurd h3 g4
        · exact .inr (by omega)
  · rintro ρ ⟨L, y4, y5, y6, y7, q, h1, _, h3⟩
    subst q
    have hcl : ClL E (frB c ban) L := by
      rcases h3 with h3 | h3
      · exact h3
      · have h3 : c ≤ L.length := by simpa using h3
        have all : ∀ x, x < c → x ∈ L := fun x hx => by
          apply Classical.byContradiction
          intro hn
          have : (x :: L).length ≤ c := nodup_len (List.nodup_cons.mpr ⟨hn, h1.nd⟩) fun y hy => by
            rcases List.mem_cons.mp hy with rfl | hy
            · exact hx
            · exact h1.lt y hy
          rw [List.length_cons] at this
          omega
        exact fun e he => ⟨fun _ h => all _ h.1, fun _ h => all _ h.1⟩
    have hmem : ∀ x, x ∈ L ↔ x < c ∧ InC E (frB c ban) v x := fun x => ⟨fun h => ⟨h1.lt x h, h1.co x h⟩, fun ⟨_, h⟩ => by
      have key : ∀ x, InC E (frB c ban) v x → x ∈ L := fun x h => by
        induction h with
        | base h => exact h ▸ h1.st
        | step _ a b ih =>
          rcases a with a | a
          · exact (hcl _ a).1 ih b
          · exact (hcl _ a).2 ih b
      exact key x h⟩
    have e : (L.mergeSort fun a b => decide (a ≤ b)) = bitsN c (compM c E (frB c ban) v) := by
      refine asc_eq (sort_asc h1.nd) (bits_asc _ _) fun x => ?_
      rw [List.mem_mergeSort, hmem, mem_bitsN]
      unfold compM
      rw [test_maskP]
      exact ⟨fun h => ⟨h.1, h⟩, fun h => h.2⟩
    simp [rcE, sorted_n, e]
end Pv

end
section
namespace Pv
open PySem

theorem drop_range {c k a : Nat} {rest : List Nat} (h : (List.range c).drop k = a :: rest) : a = k ∧ k < c ∧ rest = (List.range c).drop (k + 1) := by
  by_cases hk : k < c
  · rw [List.drop_eq_getElem_cons (by rw [List.length_range]; exact hk)] at h
    have h1 := List.cons.inj h
    refine ⟨?_, hk, h1.2.symm⟩
    rw [← h1.1]; simp
  · rw [List.drop_eq_nil_of_le (by rw [List.length_range]; omega)] at h
    cases h
theorem rep_iff {E : List (Nat × Nat)} {fr : Nat → Prop} {k : Nat} : isRep E fr k ↔ fr k ∧ ¬ ∃ r ∈ repsN E fr k, InC E fr r k := by
  constructor
  · rintro ⟨h1, h2⟩
    refine ⟨h1, fun ⟨r, hr, hq⟩ => ?_⟩
    obtain ⟨a, b⟩ := mem_reps.mp hr
    exact h2 r a b.1 hq
  · rintro ⟨h1, h2⟩
    refine ⟨h1, fun u hu hf hq => ?_⟩
    obtain ⟨r, a, b, d⟩ := rep_ex u u (Nat.le_refl _) hf
    exact h2 ⟨r, mem_reps.mpr ⟨by omega, b⟩, d.trans hq⟩
def SReach (Φ : Calls) (c : Nat) (E : List (Nat × Nat)) : Prop := ∀ ban v, v < c → v ∉ ban → Φ "_law_reach" [grD c E, natsL [v], natsT ban] = .ok (natsL (bitsN c (compM c E (frB c ban) v)))
noncomputable def partD (c : Nat) (E : List (Nat × Nat)) (ban : List Nat) (v : Nat) : D := natsT (bitsN c (compM c E (frB c ban) v))
def LpI (c : Nat) (E : List (Nat × Nat)) (ban : List Nat) (rest : List Nat) (ρ : Env) : Prop := ∃ (k : Nat) (met : List Nat) (y4 y5 : Option (Bool × D)), rest = (List.range c).drop k ∧
  ρ = [some (false, grD c E), some (false, natsT ban), some (true, .list ((repsN E (frB c ban) k).map (partD c E ban))), some (false, natsL met), y4, y5] ∧ k ≤ c
  ∧ (∀ x, x ∈ met ↔ x ∈ ban ∨ ∃ r ∈ repsN E (frB c ban) k, x < c ∧ InC E (frB c ban) r x) ∧ met.length ≤ ban.length + k * c
theorem law_parts_run {Φ : Calls} {c : Nat} {E : List (Nat × Nat)} {ban : List Nat} (hr : SReach Φ c E) (hc : c ≤ 100) (hb : ban.length ≤ 1000) :
    runB 2 6 b__law_parts Φ [grD c E, natsT ban] = .ok (.tuple ((partsT c E (frB c ban)).map natsT)) := by
  refine (run_of (by rfl)).trans ?_
  unfold b__law_parts
  simp [start1, grD, rng_n (show c ≤ 1000000 by omega)]
  refine for_EI (LpI c E ban) (l := List.range c) ⟨0, ban, none, none, rfl, by simp [repsN, grD], Nat.zero_le _, fun x => by simp [repsN], by simp⟩ ?_ ?_
  · rintro a rest ρ ⟨k, met, y4, y5, hd, q, hk, h1, h2⟩
    obtain ⟨rfl, hkc, hrest⟩ := drop_range hd.symm
    subst q
    refine ⟨_, rfl, ?_⟩
    have hkk : (a + 1) * c = a * c + c := by rw [Nat.add_mul, Nat.one_mul]
    have hac : a * c ≤ 100 * 100 := Nat.mul_le_mul (by omega) hc
    by_cases hm : a ∈ met
    · have hnr : ¬ isRep E (frB c ban) a := fun hrp => by
        rcases (h1 a).mp hm with h | ⟨r, hr', _, hq⟩
        · exact hrp.1.2 h
        · exact (rep_iff.mp hrp).2 ⟨r, hr', hq⟩
      have e1 : repsN E (frB c ban) (a + 1) = repsN E (frB c ban) a := reps_skip 1 fun x hx hxd => by
        have : x = a := by omega
        subst this; exact hnr
      simp [hm]
      exact ⟨a + 1, met, some (false, nD a), y5, hrest, by rw [e1], by omega, fun x => by rw [e1]; exact h1 x, by omega⟩
    · have hnb : a ∉ ban := fun h => hm ((h1 a).mpr (.inl h))
      have hrep : isRep E (frB c ban) a := rep_iff.mpr ⟨⟨hkc, hnb⟩, fun ⟨r, hr', hq⟩ => hm ((h1 a).mpr (.inr ⟨r, hr', hkc, hq⟩))⟩
      have hR := hr ban a hkc hnb
      have hlen : (bitsN c (compM c E (frB c ban) a)).length ≤ c := nodup_len (bits_asc _ _).nodup fun x hx => (mem_bitsN.mp hx).1
      have hR' : Φ "_law_reach" [grD c E, .list [nD a], natsT ban] = .ok (natsL (bitsN c (compM c E (frB c ban) a))) := hR
      simp [hm, hR', show met.length + (bitsN c (compM c E (frB c ban) a)).length ≤ 1000000 by omega]
      rw [apS_ok (ds := (repsN E (frB c ban) a).map (partD c E ban)) (by rfl) (by rw [List.length_map]; have := reps_lt_len E (frB c ban) a; omega)]
      simp
      refine ⟨a + 1, met ++ bitsN c (compM c E (frB c ban) a), some (false, nD a), some (false, natsL (bitsN c (compM c E (frB c ban) a))), hrest, ?_, by omega, fun x => ?_, by rw [List.length_append]; omega⟩
      · rw [reps_succ hrep]; simp [partD]
      · rw [List.mem_append, h1 x, reps_succ hrep, mem_bitsN]
        unfold compM
        rw [test_maskP]
        constructor
        · rintro ((h | ⟨r, hr', h⟩) | ⟨_, h⟩)
          · exact .inl h
          · exact .inr ⟨r, List.mem_append_left _ hr', h⟩
          · exact .inr ⟨a, by simp, h⟩
        · rintro (h | ⟨r, hr', h⟩)
          · exact .inl (.inl h)
          · rcases List.mem_append.mp hr' with hr' | hr'
            · exact .inl (.inr ⟨r, hr', h⟩)
            · have : r = a := by simpa using hr'
              subst this
              exact .inr ⟨h.1, h⟩
  · rintro ρ ⟨k, met, y4, y5, hd, q, hk, h1, h2⟩
    have hkc : k = c := by
      apply Nat.le_antisymm hk
      apply Nat.le_of_not_lt
      intro h
      rw [List.drop_eq_getElem_cons (by rw [List.length_range]; exact h)] at hd
      cases hd
    subst hkc
    subst q
    simp [partsT, partsM]
    exact fun a _ => rfl
/-! enumerate -/
theorem enum_map {α : Type} (h : α → D) : ∀ (l : List α) (k : Nat), enumFrom k (l.map h) = (l.zipIdx k).map fun p => .tuple [nD p.2, h p.1]
  | [], _ => rfl
  | a :: l, k => by
    rw [List.map_cons, enumFrom, enum_map h l (k + 1), List.zipIdx_cons, List.map_cons]
    rfl
theorem cut_take {xs : List D} {n : Nat} : slop (.list xs) none (some (n : Int)) = some (.list (xs.take n)) := by
  show some (PyData.list (cutL xs none (some (n : Int)))) = _
  unfold cutL
  rw [HT.sIx_none, HT.sIx_nat]
  congr 2
  rw [List.drop_zero, Nat.sub_zero, List.take_eq_take_iff]
  omega
theorem ne_tup {ds : List D} (h : okN 60 (.tuple ds)) : cmpR .NotEq (.tuple ds) (.tuple ds) = .ok (.bool false) := by
  apply cmpR_of
  have e : PyData.eqv (.tuple ds) (.tuple ds) = true := PySem.SeqAt.eqv_refl_plain _ h.1
  have h2 := okN_ok h (Nat.le_refl _)
  show (if okD (.tuple ds) && okD (.tuple ds) then some (!PyData.eqv (.tuple ds) (.tuple ds)) else none) = _
  rw [h2, e]; rfl
end Pv

end
section
namespace Pv
open PySem

def SGraph (Φ : Calls) : Prop := ∀ v most, 1 ≤ most → most ≤ 8 → ∃ c E, Φ "_law_graph" [nD v, nD most] = .ok (grD c E) ∧ 1 ≤ c ∧ c ≤ most ∧ GOk c E
def SSet (Φ : Calls) : Prop := ∀ v count most : Nat, count ≤ 1000 → ∃ l : List Nat, Φ "_law_set" [nD v, nD count, nD most] = .ok (natsT l) ∧ Asc l ∧ (∀ x ∈ l, x < count) ∧ l.length ≤ most
def SParts (Φ : Calls) : Prop := ∀ c E gone, c ≤ 8 → EOk c E → (∀ x ∈ gone, x < c) → Φ "parts" [grD c E, natsT gone] = .ok (.tuple ((partsT c E (frB c gone)).map natsT))
def SLParts (Φ : Calls) : Prop := ∀ c E gone, c ≤ 8 → EOk c E → gone.length ≤ 1000 → Φ "_law_parts" [grD c E, natsT gone] = .ok (.tuple ((partsT c E (frB c gone)).map natsT))
def SBorder (Φ : Calls) : Prop := ∀ c E nodes, c ≤ 8 → EOk c E → (∀ x ∈ nodes, x < c) → Φ "border" [grD c E, natsT nodes] = .ok (natsT (borderN c (rowsN c E) (maskN nodes)))
theorem okN_parts (l : List (List Nat)) : okN 60 (.tuple (l.map natsT)) := okN_tup (n := 59) fun d hd => by
  obtain ⟨x, _, rfl⟩ := List.mem_map.mp hd
  exact okN_natsT 58 x
def LwI (s : D) (rest : List (Int × Nat)) (ρ : Env) : Prop := ∃ (y1 y2 y3 y4 y5 y6 y7 y8 y9 y10 : Option (Bool × D)), ρ = [some (false, s), y1, y2, y3, y4, y5, y6, y7, y8, y9, y10]
def duE (s i z v g n t : D) (due : List Nat) (y8 y9 y10 : Option (Bool × D)) : Env := [some (false, s), some (false, i), some (false, z), some (false, v), some (false, g), some (false, n), some (false, t), some (true, natsL due), y8, y9, y10]
def DuI (s i z v g t : D) (y10 : Option (Bool × D)) (E : List (Nat × Nat)) (nodes : List Nat) (rest : List (Nat × Nat)) (ρ : Env) : Prop := ∃ (due : List Nat) (y8 y9 : Option (Bool × D)), ρ = duE s i z v g (natsT nodes) t due y8 y9 y10
  ∧ (∀ e ∈ rest, e ∈ E) ∧ (∀ x ∈ due, x ∈ nodes ∧ ∃ u, adj E x u ∧ u ∉ nodes) ∧ (∀ e ∈ E, e ∈ rest ∨ ((e.1 ∈ nodes → e.2 ∉ nodes → e.1 ∈ due) ∧ (e.2 ∈ nodes → e.1 ∉ nodes → e.2 ∈ due))) ∧ due.length + 2 * rest.length ≤ 128
theorem k03_run {Φ : Calls} (h1 : SMixed Φ) (h2 : SGraph Φ) (h3 : SSet Φ) (h4 : SParts Φ) (h5 : SLParts Φ) (h6 : SBorder Φ) (ns : List Int) (hn : ns.length ≤ 63) : runB 1 11 b_law_v2 Φ [.list (ns.map PyData.int)] = .ok (.bool true) := by
  refine (run_of (by rfl)).trans ?_
  unfold b_law_v2
  have hcut : slop (.list (ns.map PyData.int)) none (some ((20 : Nat) : Int)) = some (.list ((ns.take 20).map PyData.int)) := by rw [cut_take, List.map_take]
  have hcut' : slop (.list (ns.map PyData.int)) none (some 20) = some (.list ((ns.take 20).map PyData.int)) := hcut
  simp [start1, hcut', -List.map_take]
  rw [enum_map]
  refine for_EI (LwI (.list (ns.map PyData.int))) ⟨none, none, none, none, none, none, none, none, none, none, rfl⟩ ?_ ?_
  · rintro ⟨cell, turn⟩ rest ρ ⟨y1, y2, y3, y4, y5, y6, y7, y8, y9, y10, q⟩
    subst q
    refine ⟨_, rfl, ?_⟩
    obtain ⟨v, e1⟩ := h1 cell turn
    obtain ⟨c, E, e2, c1, c8, g⟩ := h2 (v / 256) 8 (by omega) (by omega)
    obtain ⟨nodes, e3, a1, a2, a3⟩ := h3 (v % 256) c 8 (by omega)
    have e4 := h4 c E nodes c8 g.e a2
    have e5 := h5 c E nodes c8 g.e (by omega)
    have e6 := h6 c E nodes c8 g.e a2
    have hix : ixop (grD c E) (nD 0) = some (nD c) := rfl
    have hix1 : ixop (grD c E) (nD 1) = some (.tuple (E.map edgeD)) := rfl
    simp [e1, bin_div, bin_mod, e2, hix, hix1, e3, e4, e5, e6, isiop, ne_tup (okN_parts _)]
    refine for_AI (DuI (.list (ns.map PyData.int)) (nD turn) (.int cell) (nD v) (grD c E) (.tuple ((partsT c E (frB c nodes)).map natsT)) y10 E nodes) (l := E) ⟨[], y8, y9, rfl, fun _ h => h, by simp, fun e he => .inl he, by have := g.len; simp; omega⟩ ?_ ?_
    · rintro ⟨a, b⟩ es ρ ⟨due, z8, z9, q, d1, d2, d3, d4⟩
      subst q
      have hab : (a, b) ∈ E := d1 (a, b) (by simp)
      rw [List.length_cons] at d4
      refine ⟨_, rfl, ?_⟩
      have happ : ∀ x (due : List Nat), due.length ≤ 1000 → apS 7 (duE (.list (ns.map PyData.int)) (nD turn) (.int cell) (nD v) (grD c E) (natsT nodes) (.tuple ((partsT c E (frB c nodes)).map natsT)) due (some (false, nD a)) (some (false, nD b)) y10) (.ok (nD x)) = .nx (duE (.list (ns.map PyData.int)) (nD turn) (.int cell) (nD v) (grD c E) (natsT nodes) (.tuple ((partsT c E (frB c nodes)).map natsT)) (due ++ [x]) (some (false, nD a)) (some (false, nD b)) y10) := fun x due hd => by
        rw [apS_ok (ds := due.map nD) (by rfl) (by rw [List.length_map]; omega)]
        simp [duE]
      simp only [duE] at happ
      have fin : ∀ due2 : List Nat, (∀ x ∈ due, x ∈ due2) → (∀ x ∈ due2, x ∈ due ∨ (x ∈ nodes ∧ ∃ u, adj E x u ∧ u ∉ nodes)) → (a ∈ nodes → b ∉ nodes → a ∈ due2) → (b ∈ nodes → a ∉ nodes → b ∈ due2) → due2.length ≤ due.length + 2 →
          DuI (.list (ns.map PyData.int)) (nD turn) (.int cell) (nD v) (grD c E) (.tuple ((partsT c E (frB c nodes)).map natsT)) y10 E nodes es (duE (.list (ns.map PyData.int)) (nD turn) (.int cell) (nD v) (grD c E) (natsT nodes) (.tuple ((partsT c E (frB c nodes)).map natsT)) due2 (some (false, nD a)) (some (false, nD b)) y10) := fun due2 k1 k2 k3 k4 k5 =>
        ⟨due2, _, _, rfl, fun e he => d1 e (by simp [he]), fun x hx => (k2 x hx).elim (d2 x) id, fun e he => by
          rcases d3 e he with h | h
          · rcases List.mem_cons.mp h with rfl | h
            · exact .inr ⟨k3, k4⟩
            · exact .inl h
          · exact .inr ⟨fun x y => k1 _ (h.1 x y), fun x y => k1 _ (h.2 x y)⟩, by omega⟩
      simp only [duE] at fin
      by_cases p1 : a ∈ nodes
      · by_cases p2 : b ∈ nodes
        · have := fin due (fun _ h => h) (fun _ h => .inl h) (fun _ h => absurd p2 h) (fun _ h => absurd p1 h) (by omega)
          simp [duE, p1, p2]
          exact this
        · have := fin (due ++ [a]) (fun _ h => List.mem_append_left _ h) (fun x h => by
            rcases List.mem_append.mp h with h | h
            · exact .inl h
            · have : x = a := by simpa using h
              subst this
              exact .inr ⟨p1, b, .inl hab, p2⟩) (fun _ _ => by simp) (fun h => absurd h p2) (by simp)
          simp [duE, p1, p2, happ a due (by omega)]
          simpa using this
      · by_cases p2 : b ∈ nodes
        · have := fin (due ++ [b]) (fun _ h => List.mem_append_left _ h) (fun x h => by
            rcases List.mem_append.mp h with h | h
            · exact .inl h
            · have : x = b := by simpa using h
              subst this
              exact .inr ⟨p2, a, .inr hab, p1⟩) (fun h => absurd h p1) (fun _ _ => by simp) (by simp)
          simp [duE, p1, p2, happ b due (by omega)]
          simpa using this
        · have := fin due (fun _ h => h) (fun _ h => .inl h) (fun h => absurd h p1) (fun h => absurd h p2) (by omega)
          simp [duE, p1, p2]
          exact this
    · rintro ρ ⟨due, z8, z9, q, d1, d2, d3, d4⟩
      subst q
      have hfil : nodes.filter (fun x => decide (x ∈ due)) = borderN c (rowsN c E) (maskN nodes) := by
        refine asc_eq (a1.filter _) ((bits_asc _ _).filter _) fun x => ?_
        rw [List.mem_filter, mem_borderN (rowsN_ok g.e), decide_eq_true_iff]
        have tm : ∀ y, (maskN nodes).testBit y = false ↔ y ∉ nodes := fun y => by
          rw [← test_maskN (l := nodes), Bool.not_eq_true]
        constructor
        · rintro ⟨hx, hd⟩
          obtain ⟨_, u, hu, hn⟩ := d2 x hd
          exact ⟨a2 x hx, test_maskN.mpr hx, u, hu, (tm u).mpr hn⟩
        · rintro ⟨_, hx, u, hu, hn⟩
          have hx := test_maskN.mp hx
          have hn := (tm u).mp hn
          refine ⟨hx, ?_⟩
          rcases hu with hu | hu
          · exact ((d3 _ hu).resolve_left (by simp)).1 hx hn
          · exact ((d3 _ hu).resolve_left (by simp)).2 hx hn
      simp [duE, e6, isiop]
      rw [lc_val nodes nD nD (fun x => decide (x ∈ due))]
      · rw [hfil]
        simp [ne_tup (okN_natsT 59 _)]
        exact ⟨_, _, _, _, _, _, _, _, _, _, rfl⟩
      · simp
      · omega
      · intro x hx
        exact ⟨_, rfl, by simp [wipeE], fun _ => by simp [wipeE]⟩
  · rintro ρ ⟨y1, y2, y3, y4, y5, y6, y7, y8, y9, y10, q⟩
    subst q
    simp
end Pv

end
section
namespace Pv
open PySem

/-! ### orders: what lies beyond -/
/-- v is next to something that u reaches through gone -/
def Lk (E : List (Nat × Nat)) (gone : Nat → Prop) (u v : Nat) : Prop := ∃ w, InC E gone u w ∧ adj E w v
section
variable {E : List (Nat × Nat)} {g g' : Nat → Prop} {u v x w : Nat}
theorem InC.mono (h : ∀ x, g x → g' x) (q : InC E g u v) : InC E g' u v := by
  induction q with
  | base e => exact .base e
  | step _ a b ih => exact .step ih a (h _ b)
theorem Lk.mono (h : ∀ x, g x → g' x) (q : Lk E g u v) : Lk E g' u v := let ⟨w, a, b⟩ := q; ⟨w, a.mono h, b⟩
theorem lk_of (q : InC E g u w) : ∀ v, adj E w v → Lk E g v u := by
  induction q with
  | base e => intro v h; exact ⟨v, .refl, e ▸ adj_symm h⟩
  | @step w0 w _ a b ih =>
    intro v h
    obtain ⟨w2, c1, c2⟩ := ih w a
    exact ⟨w2, InC.trans (.step (.base rfl) (adj_symm h) b) c1, c2⟩
theorem Lk.symm (q : Lk E g u v) : Lk E g v u := let ⟨w, a, b⟩ := q; lk_of a v b
theorem lk_step (hu : ∀ y, g' y ↔ g y ∨ y = x) : Lk E g' u v ↔ Lk E g u v ∨ (Lk E g u x ∧ Lk E g x v) := by
  constructor
  · rintro ⟨w, a, b⟩
    have key : ∀ w, InC E g' u w → InC E g u w ∨ (Lk E g u x ∧ InC E g x w) ∨ (u = x ∧ InC E g x w) := fun w q => by
      induction q with
      | base e => exact .inl (.base e)
      | @step w0 w _ a b ih =>
        rcases (hu w).mp b with b | b
        · rcases ih with ih | ⟨i1, i2⟩ | ⟨i1, i2⟩
          · exact .inl (.step ih a b)
          · exact .inr (.inl ⟨i1, .step i2 a b⟩)
          · exact .inr (.inr ⟨i1, .step i2 a b⟩)
        · subst b
          rcases ih with ih | ⟨i1, i2⟩ | ⟨i1, i2⟩
          · exact .inr (.inl ⟨⟨w0, ih, a⟩, .refl⟩)
          · exact .inr (.inl ⟨i1, .refl⟩)
          · exact .inr (.inr ⟨i1, .refl⟩)
    rcases key w a with h | ⟨h1, h2⟩ | ⟨h1, h2⟩
    · exact .inl ⟨w, h, b⟩
    · exact .inr ⟨h1, w, h2, b⟩
    · subst h1
      exact .inl ⟨w, h2, b⟩
  · rintro (h | ⟨⟨w, a, b⟩, w2, a2, b2⟩)
    · exact h.mono fun y hy => (hu y).mpr (.inl hy)
    · refine ⟨w2, InC.trans (.step (a.mono fun y hy => (hu y).mpr (.inl hy)) b ((hu x).mpr (.inr rfl))) (a2.mono fun y hy => (hu y).mpr (.inl hy)), b2⟩
theorem lk_none (h : ∀ y, ¬ g y) : Lk E g u v ↔ adj E u v := by
  constructor
  · rintro ⟨w, a, b⟩
    cases a with
    | base e => exact e ▸ b
    | step _ _ c => exact absurd c (h _)
  · exact fun b => ⟨u, .refl, b⟩
end
/-- the mask of what lies beyond a node -/
theorem inc_self {E : List (Nat × Nat)} {g : Nat → Prop} {u w : Nat} : InC E (fun y => g y ∨ y = u) u w ↔ InC E g u w := by
  constructor
  · intro q
    induction q with
    | base e => exact .base e
    | @step w0 w _ a b ih =>
      rcases b with b | b
      · exact .step ih a b
      · exact b ▸ .refl
  · exact fun q => q.mono fun y hy => .inl hy
noncomputable def beyM (c : Nat) (E : List (Nat × Nat)) (g : Nat → Prop) (u : Nat) : Nat := maskP c fun v => Lk E g u v ∧ ¬ g v ∧ v ≠ u
def SBeyond (Φ : Calls) (c : Nat) (E : List (Nat × Nat)) : Prop := ∀ gone node, gone < 2 ^ c → node < c → Φ "beyond" [natsL (rowsN c E), nD gone, nD node] = .ok (nD (beyM c E (bitP gone) node))
theorem beyond_run {Φ : Calls} {c : Nat} {E : List (Nat × Nat)} {gone node : Nat} (hs : SSpread Φ c E (rowsN c E)) (ha : SAround Φ c (rowsN c E)) (hE : EOk c E) (hc : c ≤ 1000000) (hg : gone < 2 ^ c) (hn : node < c) :
    runB 3 4 b_beyond Φ [natsL (rowsN c E), nD gone, nD node] = .ok (nD (beyM c E (bitP gone) node)) := by
  refine (run_of (by rfl)).trans ?_
  unfold b_beyond
  have hw : 2 ^ node < 2 ^ c := Nat.pow_lt_pow_right (by decide) hn
  have h1 := hs (2 ^ node) (gone ||| 2 ^ node) hw (Nat.or_lt_two_pow hg hw)
  have hcl : closM c E (gone ||| 2 ^ node) (2 ^ node) < 2 ^ c := maskP_lt
  have h2 := ha _ hcl
  have b1 := bin_shl (n := node) (by omega)
  simp [start1, b1, h1, h2]
  congr 1
  unfold beyM
  refine mask_eqP fun v => ?_
  have hP : bitP (gone ||| 2 ^ node) = fun y => bitP gone y ∨ y = node := by
    funext y
    apply propext
    show (gone ||| 2 ^ node).testBit y = true ↔ _
    rw [Nat.testBit_or, Bool.or_eq_true, test_2pow]
  rw [test_dif, Bool.and_eq_true, test_aroundN, closM_1]
  have hr := rowsN_ok hE
  unfold compM
  rw [hP]
  constructor
  · rintro ⟨⟨w, a, b, d⟩, e⟩
    have hadj := (hr.2 w v).mp d
    have hin := inc_self.mp (test_maskP.mp b).2
    have e2 : ¬ (gone ||| 2 ^ node).testBit v = true := by simpa using e
    rw [Nat.testBit_or, Bool.or_eq_true, test_2pow] at e2
    refine ⟨?_, ⟨w, hin, hadj⟩, fun z => e2 (.inl z), fun z => e2 (.inr z)⟩
    rcases hadj with h | h
    · exact (hE _ h).2
    · exact (hE _ h).1
  · rintro ⟨hv, ⟨w, a, b⟩, d, e⟩
    have hwc : w < c := by
      rcases b with h | h
      · exact (hE _ h).1
      · exact (hE _ h).2
    refine ⟨⟨w, hwc, test_maskP.mpr ⟨hwc, inc_self.mpr a⟩, (hr.2 w v).mpr b⟩, ?_⟩
    cases q : (gone ||| 2 ^ node).testBit v with
    | false => rfl
    | true =>
      rw [Nat.testBit_or, Bool.or_eq_true, test_2pow] at q
      rcases q with q | q
      · exact absurd q d
      · exact absurd q e
def SSize (Φ : Calls) (c : Nat) : Prop := ∀ m, m < 2 ^ c → Φ "size_of" [nD m] = .ok (nD (bitsN c m).length)
theorem size_of_run {Φ : Calls} {c m : Nat} (hn : SNodes Φ c) (hm : m < 2 ^ c) : runB 1 1 b_size_of Φ [nD m] = .ok (nD (bitsN c m).length) := by
  refine (run_of (by rfl)).trans ?_
  unfold b_size_of
  simp [start1, hn m hm]
/-- the terms of an order's need -/
noncomputable def terms (c : Nat) (E : List (Nat × Nat)) : Nat → List Nat → List Nat
  | _, [] => []
  | gone, x :: r => (1 + (bitsN c (beyM c E (bitP gone) x)).length) :: terms c E (gone ||| 2 ^ x) r
def maxL (l : List Nat) (s : Nat) : Nat := l.foldl max s
noncomputable def needN (c : Nat) (E : List (Nat × Nat)) (order : List Nat) : Nat := maxL (terms c E 0 order) 0
theorem order_need_run {Φ : Calls} {c : Nat} {E : List (Nat × Nat)} {order : List Nat} (h1 : SRows Φ c E) (h2 : SBeyond Φ c E) (h3 : SSize Φ c) (hc : c ≤ 1000000) (ho : ∀ x ∈ order, x < c) :
    runB 2 6 b_order_need Φ [grD c E, natsT order] = .ok (nD (needN c E order)) := by
  refine (run_of (by rfl)).trans ?_
  unfold b_order_need
  have hR : Φ "neighbour_masks" [grD c E] = .ok (natsL (rowsN c E)) := h1
  simp [start1, hR]
  refine for_EI (fun rest ρ => ∃ gone need y, ρ = [some (false, grD c E), some (false, natsT order), some (false, natsL (rowsN c E)), some (false, nD gone), some (false, nD need), y] ∧ gone < 2 ^ c ∧ (∀ x ∈ rest, x < c) ∧ maxL (terms c E gone rest) need = needN c E order) (l := order) ⟨0, 0, none, rfl, Nat.two_pow_pos c, ho, rfl⟩ ?_ ?_
  · rintro x rest ρ ⟨gone, need, y, q, g1, g2, g3⟩
    subst q
    have hx : x < c := g2 x (by simp)
    have hw : 2 ^ x < 2 ^ c := Nat.pow_lt_pow_right (by decide) hx
    have b1 := bin_shl (n := x) (by omega)
    refine ⟨_, rfl, ?_⟩
    simp [h2 gone x g1 hx, h3 _ (show beyM c E (bitP gone) x < 2 ^ c from maskP_lt), b1]
    exact ⟨_, _, ⟨rfl, rfl⟩, Nat.or_lt_two_pow g1 hw, fun z hz => g2 z (by simp [hz]), g3⟩
  · rintro ρ ⟨gone, need, y, q, g1, g2, g3⟩
    subst q
    simp
    exact congrArg nD g3
end Pv

end
section
namespace Pv
open PySem

theorem cut_drop {xs : List D} {n : Nat} : slop (.list xs) (some (n : Int)) none = some (.list (xs.drop n)) := by
  show some (PyData.list (cutL xs (some (n : Int)) none)) = _
  unfold cutL
  rw [HT.sIx_none, HT.sIx_nat]
  congr 2
  by_cases h : n ≤ xs.length
  · rw [Nat.min_eq_left h]
    apply List.take_of_length_le
    rw [List.length_drop]
    exact Nat.le_refl _
  · rw [Nat.min_eq_right (by omega), List.drop_length, List.drop_of_length_le (by omega)]
    simp
/-! _law_order -/
def LoI (v count : Nat) (ks : List Nat) (ρ : Env) : Prop := ∃ (left order : List Nat) (rest : Nat) (y5 y6 : Option (Bool × D)), ρ = [some (false, nD v), some (false, nD count), some (false, natsL left), some (true, natsL order), some (false, nD rest), y5, y6]
  ∧ left.length = ks.length ∧ (order ++ left).Perm (List.range count) ∧ ∀ k ∈ ks, k < count
theorem law_order_run (Φ : Calls) (v count : Nat) (hc : count ≤ 1000) : ∃ order : List Nat, runB 2 7 b__law_order Φ [nD v, nD count] = .ok (natsT order) ∧ order.Perm (List.range count) := by
  suffices h : ∃ order : List Nat, endR (exs b__law_order Φ (start1 7 [nD v, nD count])) = .ok (natsT order) ∧ order.Perm (List.range count) by
    obtain ⟨l, e, h⟩ := h
    exact ⟨l, (run_of (by rfl)).trans e, h⟩
  unfold b__law_order
  have hrg := rg_n (k := false) (n := count) (by omega)
  simp only [kfn_f] at hrg
  simp [start1, hrg, rng_n (show count ≤ 1000000 by omega), -int_lit]
  refine for_gen (fun r => ∃ order : List Nat, endR r = .ok (natsT order) ∧ order.Perm (List.range count)) (LoI v count) ?_ ?_ _ _ ⟨List.range count, [], v, none, none, by simp, by simp, by simp, fun k hk => List.mem_range.mp hk⟩
  · rintro k ks ρ ⟨left, order, rest, y5, y6, q, h1, h2, h3⟩
    subst q
    rw [List.length_cons] at h1
    have hlen := h2.length_eq
    rw [List.length_append, List.length_range] at hlen
    have hat : rest % left.length < left.length := Nat.mod_lt _ (by omega)
    obtain ⟨at', hat'⟩ : ∃ a, a = rest % left.length := ⟨_, rfl⟩
    rw [← hat'] at hat
    refine ⟨_, rfl, ?_⟩
    have hk := h3 k (by simp)
    have c1 : slop (natsL left) none (some (at' : Int)) = some (natsL (left.take at')) := by rw [cut_take, ← List.map_take]
    have c2 : slop (natsL left) (some ((at' + 1 : Nat) : Int)) none = some (natsL (left.drop (at' + 1))) := by rw [cut_drop, ← List.map_drop]
    simp [bin_mod (show 0 < left.length by omega), ← hat', get_nD hat]
    rw [apS_ok (ds := order.map nD) (by rfl) (by rw [List.length_map]; omega)]
    have c3 : binop .Add (natsL (left.take at')) (natsL (left.drop (at' + 1))) = some (natsL (left.take at' ++ left.drop (at' + 1))) := by
      rw [cat_l _ _ (by simp; omega), ← List.map_append]
    simp only [c1, c2, c3, SR.seq_nx, List.set_cons_succ, List.set_cons_zero, rdB_0, rdB_s, rdV_0, rdV_s, Res.ok_bind, intR_ok, bin_add, Res.ofO_some, onE_ok, List.map_take, List.map_drop]
    simp [c1, c2, c3, bin_mulL (show k < 2 ^ 64 by omega), bin_div, bin_mod, -List.map_take, -List.map_drop, -List.map_append]
    refine ⟨left.take at' ++ left.drop (at' + 1), order ++ [left[at']?.getD 0], rest / 8 + k * v % 7, some (false, nD k), some (false, nD at'), by simp, ?_, ?_, fun x hx => h3 x (by simp [hx])⟩
    · rw [List.length_append, List.length_take, List.length_drop]; omega
    · have e : left = left.take at' ++ left[at']?.getD 0 :: left.drop (at' + 1) := by
        have := List.take_append_drop at' left
        rw [List.drop_eq_getElem_cons hat] at this
        rw [List.getElem?_eq_getElem hat]
        exact this.symm
      refine List.Perm.trans ?_ h2
      rw [List.append_assoc]
      refine List.Perm.append_left order ?_
      conv => rhs; rw [e]
      exact (List.perm_middle (a := left[at']?.getD 0) (l₁ := left.take at') (l₂ := left.drop (at' + 1))).symm
  · rintro ρ ⟨left, order, rest, y5, y6, q, h1, h2, h3⟩
    subst q
    have : left = [] := List.length_eq_zero_iff.mp h1
    subst this
    exact ⟨order, by simp, by simpa using h2⟩
end Pv

end
section
namespace Pv
open PySem

theorem okN_edge (n : Nat) (e : Nat × Nat) : okN (n + 1) (edgeD e) := okN_tup fun d hd => by
  rcases List.mem_cons.mp hd with rfl | hd
  · exact okN_nD _ _
  · have : d = nD e.2 := by simpa using hd
    subst this; exact okN_nD _ _
theorem okN_edgesL (n : Nat) (l : List (Nat × Nat)) : okN (n + 2) (.list (l.map edgeD)) := okN_lst fun d hd => by
  obtain ⟨x, _, rfl⟩ := List.mem_map.mp hd; exact okN_edge _ _
theorem okN_edgesT (n : Nat) (l : List (Nat × Nat)) : okN (n + 2) (.tuple (l.map edgeD)) := okN_tup fun d hd => by
  obtain ⟨x, _, rfl⟩ := List.mem_map.mp hd; exact okN_edge _ _
theorem eqv_e (a b : Nat × Nat) : PyData.eqv (edgeD a) (edgeD b) = (a == b) := by
  show PyData.eqv (.tuple [nD a.1, nD a.2]) (.tuple [nD b.1, nD b.2]) = _
  rw [PyData.eqv, PyData.eqvAll, PyData.eqvAll, PyData.eqvAll, eqv_n, eqv_n]
  obtain ⟨a1, a2⟩ := a
  obtain ⟨b1, b2⟩ := b
  show (a1 == b1 && (a2 == b2 && true)) = ((a1, b1).1 == b1 && _)
  rw [Bool.and_true]
theorem inD_e (a : Nat × Nat) (l : List (Nat × Nat)) : inD (edgeD a) (l.map edgeD) = decide (a ∈ l) := by
  unfold inD
  rw [List.any_map]
  induction l with
  | nil => rfl
  | cons b l ih =>
    rw [List.any_cons, ih]
    show (PyData.eqv (edgeD b) (edgeD a) || _) = _
    rw [eqv_e]
    by_cases h : b = a
    · subst h; simp
    · simp [h, Ne.symm h]
theorem in_eL (a b : Nat) (l : List (Nat × Nat)) : cmpR .In (.tuple [nD a, nD b]) (.list (l.map edgeD)) = .ok (.bool (decide ((a, b) ∈ l))) := by
  apply cmpR_of
  show (if okD (edgeD (a, b)) && okD (.list (l.map edgeD)) then some (inD (edgeD (a, b)) (l.map edgeD)) else none) = _
  rw [okN_ok (okN_edge 0 _) (by omega), okN_ok (okN_edgesL 0 l) (by omega), inD_e]; rfl
theorem nin_eL (a b : Nat) (l : List (Nat × Nat)) : cmpR .NotIn (.tuple [nD a, nD b]) (.list (l.map edgeD)) = .ok (.bool (!decide ((a, b) ∈ l))) := by
  apply cmpR_of
  show (if okD (edgeD (a, b)) && okD (.list (l.map edgeD)) then some (!inD (edgeD (a, b)) (l.map edgeD)) else none) = _
  rw [okN_ok (okN_edge 0 _) (by omega), okN_ok (okN_edgesL 0 l) (by omega), inD_e]; rfl
theorem in_eT (a b : Nat) (l : List (Nat × Nat)) : cmpR .In (.tuple [nD a, nD b]) (.tuple (l.map edgeD)) = .ok (.bool (decide ((a, b) ∈ l))) := by
  apply cmpR_of
  show (if okD (edgeD (a, b)) && okD (.tuple (l.map edgeD)) then some (inD (edgeD (a, b)) (l.map edgeD)) else none) = _
  rw [okN_ok (okN_edge 0 _) (by omega), okN_ok (okN_edgesT 0 l) (by omega), inD_e]; rfl
/-! k06 -/
def SOrder (Φ : Calls) : Prop := ∀ v count : Nat, count ≤ 1000 → ∃ order : List Nat, Φ "_law_order" [nD v, nD count] = .ok (natsT order) ∧ order.Perm (List.range count)
def SNeed (Φ : Calls) : Prop := ∀ c E order, c ≤ 8 → EOk c E → (∀ x ∈ order, x < c) → Φ "order_need" [grD c E, natsT order] = .ok (nD (needN c E order))
/-- pairs joined: those of p0, and pairs of others -/
structure PJ (p0 p : List (Nat × Nat)) (oth : List Nat) : Prop where
  old : ∀ e ∈ p0, e ∈ p
  new : ∀ e ∈ p, e ∈ p0 ∨ (e.1 < e.2 ∧ e.1 ∈ oth ∧ e.2 ∈ oth)
structure KsB where
  s : D
  i : D
  z : D
  v : D
  c : Nat
  E : List (Nat × Nat)
  order : List Nat
def ksE (B : KsB) (pairs : List (Nat × Nat)) (due : Nat) (left : List Nat) (y9 y10 y11 y12 y13 y14 : Option (Bool × D)) : Env :=
  [some (false, B.s), some (false, B.i), some (false, B.z), some (false, B.v), some (false, grD B.c B.E), some (false, natsT B.order), some (true, .list (pairs.map edgeD)), some (false, nD due), some (true, natsL left), y9, y10, y11, y12, y13, y14]
structure KsP (B : KsB) (gone : Nat) (rest : List Nat) (pairs : List (Nat × Nat)) : Prop where
  gl : gone < 2 ^ B.c
  nd : rest.Nodup
  lt : ∀ x ∈ rest, x < B.c ∧ ¬ bitP gone x
  al : ∀ x, x < B.c → bitP gone x ∨ x ∈ rest
  pa : ∀ u v, u < v → v < B.c → ¬ bitP gone u → ¬ bitP gone v → ((u, v) ∈ pairs ↔ Lk B.E (bitP gone) u v)
  len : pairs.length + 64 * rest.length ≤ 576
def KsI (B : KsB) (rest : List Nat) (ρ : Env) : Prop := ∃ (pairs : List (Nat × Nat)) (due gone : Nat) (y9 y10 y11 y12 y13 y14 : Option (Bool × D)), ρ = ksE B pairs due rest y9 y10 y11 y12 y13 y14 ∧ KsP B gone rest pairs ∧ maxL (terms B.c B.E gone rest) due = maxL (terms B.c B.E 0 B.order) 1
def KsJ (B : KsB) (p0 : List (Nat × Nat)) (due : Nat) (left : List Nat) (y9 : Option (Bool × D)) (oth : List Nat) (rest1 : List Nat) (ρ : Env) : Prop := ∃ (p : List (Nat × Nat)) (y10 y12 y13 y14 : Option (Bool × D)), ρ = ksE B p due left y9 y10 (some (false, natsL oth)) y12 y13 y14 ∧ PJ p0 p oth
  ∧ (∀ a ∈ rest1, a ∈ oth) ∧ (∀ a ∈ oth, a ∈ rest1 ∨ ∀ b ∈ oth, a < b → (a, b) ∈ p) ∧ p.length + rest1.length * oth.length ≤ p0.length + oth.length * oth.length
def KsK (B : KsB) (p0 : List (Nat × Nat)) (due : Nat) (left : List Nat) (y9 : Option (Bool × D)) (oth : List Nat) (rest1 : List Nat) (one : Nat) (rest2 : List Nat) (ρ : Env) : Prop := ∃ (p : List (Nat × Nat)) (y10 y13 y14 : Option (Bool × D)), ρ = ksE B p due left y9 y10 (some (false, natsL oth)) (some (false, nD one)) y13 y14 ∧ PJ p0 p oth
  ∧ (∀ a ∈ rest2, a ∈ oth) ∧ (∀ a ∈ oth, a = one ∨ a ∈ rest1 ∨ ∀ b ∈ oth, a < b → (a, b) ∈ p) ∧ (∀ b ∈ oth, b ∈ rest2 ∨ (one < b → (one, b) ∈ p)) ∧ p.length + rest2.length + rest1.length * oth.length ≤ p0.length + oth.length * oth.length
theorem maxL_le {l : List Nat} {s : Nat} : s ≤ maxL l s := by
  unfold maxL
  induction l generalizing s with
  | nil => exact Nat.le_refl _
  | cons a l ih => exact Nat.le_trans (Nat.le_max_left s a) ih
theorem need_eq {c : Nat} {E : List (Nat × Nat)} {order : List Nat} (h : order ≠ []) : needN c E order = maxL (terms c E 0 order) 1 := by
  unfold needN
  cases order with
  | nil => exact absurd rfl h
  | cons x r =>
    unfold terms maxL
    rw [List.foldl_cons, List.foldl_cons, Nat.max_eq_right (show 0 ≤ _ by omega), Nat.max_eq_right (show 1 ≤ 1 + _ by omega)]
theorem k06_step {B : KsB} {gone x : Nat} {rest : List Nat} {p0 p : List (Nat × Nat)} (hE : EOk B.c B.E) (h : KsP B gone (x :: rest) p0) (hc : B.c ≤ 8)
    (oth : List Nat) (ho : oth = rest.filter fun o => decide ((min x o, max x o) ∈ p0)) (hp : PJ p0 p oth) (hd : ∀ a ∈ oth, ∀ b ∈ oth, a < b → (a, b) ∈ p) (hl : p.length ≤ p0.length + 64) :
    KsP B (gone ||| 2 ^ x) rest p ∧ oth.length = (bitsN B.c (beyM B.c B.E (bitP gone) x)).length := by
  obtain ⟨hx, hxg⟩ := h.lt x (by simp)
  obtain ⟨n1, n2⟩ := List.nodup_cons.mp h.nd
  have hw : 2 ^ x < 2 ^ B.c := Nat.pow_lt_pow_right (by decide) hx
  have hg : ∀ y, bitP (gone ||| 2 ^ x) y ↔ bitP gone y ∨ y = x := fun y => by
    show (gone ||| 2 ^ x).testBit y = true ↔ _
    rw [Nat.testBit_or, Bool.or_eq_true, test_2pow]
  have hpair : ∀ o, o < B.c → ¬ bitP gone o → o ≠ x → ((min x o, max x o) ∈ p0 ↔ Lk B.E (bitP gone) x o) := fun o h1 h2 h3 => by
    by_cases hlt : x < o
    · rw [Nat.min_eq_left (by omega), Nat.max_eq_right (by omega)]
      exact h.pa x o hlt h1 hxg h2
    · rw [Nat.min_eq_right (by omega), Nat.max_eq_left (by omega), h.pa o x (by omega) hx h2 hxg]
      exact ⟨Lk.symm, Lk.symm⟩
  have hoth : ∀ o, o ∈ oth ↔ o < B.c ∧ Lk B.E (bitP gone) x o ∧ ¬ bitP gone o ∧ o ≠ x := fun o => by
    rw [ho, List.mem_filter, decide_eq_true_iff]
    constructor
    · rintro ⟨a, b⟩
      have q := h.lt o (by simp [a])
      have ne : o ≠ x := fun e => n1 (e ▸ a)
      exact ⟨q.1, (hpair o q.1 q.2 ne).mp b, q.2, ne⟩
    · rintro ⟨a, b, d, e⟩
      refine ⟨?_, (hpair o a d e).mpr b⟩
      rcases h.al o a with q | q
      · exact absurd q d
      · rcases List.mem_cons.mp q with q | q
        · exact absurd q e
        · exact q
  refine ⟨⟨Nat.or_lt_two_pow h.gl hw, n2, fun y hy => ?_, fun y hy => ?_, fun u v huv hv hu1 hv1 => ?_, ?_⟩, ?_⟩
  · have q := h.lt y (by simp [hy])
    refine ⟨q.1, fun z => ?_⟩
    rcases (hg y).mp z with z | z
    · exact q.2 z
    · exact n1 (z ▸ hy)
  · rcases h.al y hy with q | q
    · exact .inl ((hg y).mpr (.inl q))
    · rcases List.mem_cons.mp q with q | q
      · exact .inl ((hg y).mpr (.inr q))
      · exact .inr q
  · have u1 : ¬ bitP gone u := fun z => hu1 ((hg u).mpr (.inl z))
    have u2 : u ≠ x := fun z => hu1 ((hg u).mpr (.inr z))
    have v1 : ¬ bitP gone v := fun z => hv1 ((hg v).mpr (.inl z))
    have v2 : v ≠ x := fun z => hv1 ((hg v).mpr (.inr z))
    rw [lk_step (g := bitP gone) (x := x) hg, ← h.pa u v huv hv u1 v1]
    constructor
    · intro q
      rcases hp.new _ q with q | ⟨_, q1, q2⟩
      · exact .inl q
      · exact .inr ⟨((hoth u).mp q1).2.1.symm, ((hoth v).mp q2).2.1⟩
    · rintro (q | ⟨q1, q2⟩)
      · exact hp.old _ q
      · exact hd u ((hoth u).mpr ⟨by omega, q1.symm, u1, u2⟩) v ((hoth v).mpr ⟨hv, q2, v1, v2⟩) huv
  · have := h.len
    rw [List.length_cons] at this
    omega
  · have hn : oth.Nodup := by rw [ho]; exact n2.filter _
    refine ((List.perm_ext_iff_of_nodup hn (bits_asc _ _).nodup).mpr fun o => ?_).length_eq
    rw [hoth, mem_bitsN]
    unfold beyM
    rw [test_maskP]
    exact ⟨fun ⟨a, b, d, e⟩ => ⟨a, a, b, d, e⟩, fun ⟨_, a, b, d, e⟩ => ⟨a, b, d, e⟩⟩
end Pv

end
section
namespace Pv
open PySem

def LwJ (s : D) (rest : List (Int × Nat)) (ρ : Env) : Prop := ∃ (y1 y2 y3 y4 y5 y6 y7 y8 y9 y10 y11 y12 y13 y14 : Option (Bool × D)), ρ = [some (false, s), y1, y2, y3, y4, y5, y6, y7, y8, y9, y10, y11, y12, y13, y14]
theorem k06_inner {Φ : Calls} {B : KsB} {p0 : List (Nat × Nat)} {due : Nat} {left : List Nat} {y9 : Option (Bool × D)} {oth : List Nat} (hp0 : p0.length ≤ 1000) (ho : oth.length ≤ 8) (hn : oth.Nodup) {N Bk : Env → Prop} {V : SR → Prop} {k : Env → SR} {y10 y12 y13 y14 : Option (Bool × D)}
    (hk : ∀ ρ, KsJ B p0 due left y9 oth [] ρ → Aft N Bk V (k ρ)) :
    Aft N Bk V ((forL (.var 12) (exs (.cons (.fors [11] (.var 13) (.val (.var 11)) (.cons (.ifs (.and (.cmp .Lt (.varB 12) (.varB 13)) (.one (.cmp .NotIn (.tup (.cons (.var 12) (.cons (.var 13) .nil))) (.varB 6)))) (.cons (.app 6 [] (.tup (.cons (.var 12) (.cons (.var 13) .nil)))) .nil) .nil) .nil)) .nil) Φ) (oth.map nD) (ksE B p0 due left y9 y10 (some (false, natsL oth)) y12 y13 y14)).seq k) := by
  have hoo : oth.length * oth.length ≤ 8 * 8 := Nat.mul_le_mul ho ho
  refine for_AI (KsJ B p0 due left y9 oth) (l := oth) ⟨p0, y10, y12, y13, y14, rfl, ⟨fun _ h => h, fun _ h => .inl h⟩, fun _ h => h, fun a h => .inl h, Nat.le_refl _⟩ ?_ hk
  rintro one rest1 ρ ⟨p, z10, z12, z13, z14, q, j1, j2, j3, j4⟩
  subst q
  refine ⟨_, rfl, ?_⟩
  have hone := j2 one (by simp)
  rw [List.length_cons, Nat.add_mul, Nat.one_mul] at j4
  simp [ksE]
  refine for_AI (KsK B p0 due left y9 oth rest1 one) (l := oth) ⟨p, z10, z13, z14, rfl, j1, fun _ h => h, fun a h => ?_, fun b h => .inl h, by omega⟩ ?_ ?_
  · rcases j3 a h with h | h
    · rcases List.mem_cons.mp h with h | h
      · exact .inl h
      · exact .inr (.inl h)
    · exact .inr (.inr h)
  · rintro two rest2 ρ ⟨p, w10, w13, w14, q, i1, i2, i3, i4, i5⟩
    subst q
    rw [List.length_cons] at i5
    refine ⟨_, rfl, ?_⟩
    have htwo := i2 two (by simp)
    have happ : apS 6 (ksE B p due left y9 w10 (some (false, natsL oth)) (some (false, nD one)) (some (false, nD two)) w14) (.ok (.tuple [nD one, nD two])) = .nx (ksE B (p ++ [(one, two)]) due left y9 w10 (some (false, natsL oth)) (some (false, nD one)) (some (false, nD two)) w14) := by
      rw [apS_ok (ds := p.map edgeD) (by rfl) (by rw [List.length_map]; omega)]
      simp [ksE, edgeD]
    simp only [ksE] at happ
    have fin : ∀ p2 : List (Nat × Nat), (∀ e ∈ p, e ∈ p2) → (∀ e ∈ p2, e ∈ p ∨ (e = (one, two) ∧ one < two)) → (one < two → (one, two) ∈ p2) → p2.length ≤ p.length + 1 → KsK B p0 due left y9 oth rest1 one rest2 (ksE B p2 due left y9 w10 (some (false, natsL oth)) (some (false, nD one)) (some (false, nD two)) w14) := fun p2 a1 a2 a3 a4 =>
      ⟨p2, _, _, _, rfl, ⟨fun e he => a1 e (i1.old e he), fun e he => by
        rcases a2 e he with h | ⟨rfl, h⟩
        · exact i1.new e h
        · exact .inr ⟨h, hone, htwo⟩⟩, fun a h => i2 a (by simp [h]), fun a h => (i3 a h).imp id (Or.imp id fun q b hb hab => a1 _ (q b hb hab)), fun b hb => by
          rcases i4 b hb with h | h
          · rcases List.mem_cons.mp h with rfl | h
            · exact .inr a3
            · exact .inl h
          · exact .inr fun q => a1 _ (h q), by omega⟩
    simp only [ksE] at fin
    by_cases c1 : one < two
    · by_cases c2 : (one, two) ∈ p
      · have := fin p (fun _ h => h) (fun _ h => .inl h) (fun _ => c2) (by omega)
        simp [ksE, c1, nin_eL, c2]
        exact this
      · have := fin (p ++ [(one, two)]) (fun _ h => List.mem_append_left _ h) (fun e h => by
          rcases List.mem_append.mp h with h | h
          · exact .inl h
          · exact .inr ⟨by simpa using h, c1⟩) (fun _ => by simp) (by simp)
        simp [ksE, c1, nin_eL, c2, happ]
        simpa using this
    · have := fin p (fun _ h => h) (fun _ h => .inl h) (fun h => absurd h c1) (by omega)
      simp [ksE, c1]
      exact this
  · rintro ρ ⟨p, w10, w13, w14, q, i1, i2, i3, i4, i5⟩
    subst q
    simp only [Aft_nx]
    refine ⟨p, w10, _, w13, w14, rfl, i1, fun a h => j2 a (by simp [h]), fun a h => ?_, by simp at i5; omega⟩
    rcases i3 a h with rfl | h | h
    · exact .inr fun b hb hab => ((i4 b hb).resolve_left (by simp)) hab
    · exact .inl h
    · exact .inr h
theorem k06_run {Φ : Calls} (h1 : SMixed Φ) (h2 : SGraph Φ) (h3 : SOrder Φ) (h4 : SNeed Φ) (ns : List Int) (hn : ns.length ≤ 63) : runB 1 15 b_law_v25 Φ [.list (ns.map PyData.int)] = .ok (.bool true) := by
  refine (run_of (by rfl)).trans ?_
  unfold b_law_v25
  have hcut' : slop (.list (ns.map PyData.int)) none (some 12) = some (.list ((ns.take 12).map PyData.int)) := by
    have : slop (.list (ns.map PyData.int)) none (some ((12 : Nat) : Int)) = some (.list ((ns.take 12).map PyData.int)) := by rw [cut_take, List.map_take]
    exact this
  simp [start1, hcut', -List.map_take]
  rw [enum_map]
  refine for_EI (LwJ (.list (ns.map PyData.int))) ⟨none, none, none, none, none, none, none, none, none, none, none, none, none, none, rfl⟩ ?_ ?_
  · rintro ⟨cell, turn⟩ rest ρ ⟨y1, y2, y3, y4, y5, y6, y7, y8, y9, y10, y11, y12, y13, y14, q⟩
    subst q
    refine ⟨_, rfl, ?_⟩
    obtain ⟨v, e1⟩ := h1 cell turn
    obtain ⟨c, E, e2, c1, c8, g⟩ := h2 (v / 9) 8 (by omega) (by omega)
    obtain ⟨order, e3, op⟩ := h3 v c (by omega)
    have olt : ∀ x ∈ order, x < c := fun x hx => List.mem_range.mp (op.mem_iff.mp hx)
    have ond : order.Nodup := op.nodup_iff.mpr List.nodup_range
    have olen : order.length = c := by rw [op.length_eq, List.length_range]
    have e4 := h4 c E order c8 g.e olt
    have hix : ixop (grD c E) (nD 0) = some (nD c) := rfl
    have hix1 : ixop (grD c E) (nD 1) = some (.tuple (E.map edgeD)) := rfl
    obtain ⟨B, hB⟩ : ∃ B : KsB, B = ⟨.list (ns.map PyData.int), nD turn, .int cell, nD v, c, E, order⟩ := ⟨_, rfl⟩
    simp [e1, bin_div, bin_mod, e2, hix, hix1, e3]
    refine for_AI (KsI B) (l := order) ⟨E, 1, 0, y9, y10, y11, y12, y13, y14, by rw [hB]; rfl, ?_, by rw [hB]⟩ ?_ ?_
    · rw [hB]
      refine ⟨Nat.two_pow_pos c, ond, fun x hx => ⟨olt x hx, by simp⟩, fun x hx => .inr (op.mem_iff.mpr (List.mem_range.mpr hx)), fun a b hab hb _ _ => ?_, by have := g.len; show E.length + 64 * order.length ≤ 576; omega⟩
      rw [lk_none (by simp)]
      constructor
      · exact fun h => .inl h
      · rintro (h | h)
        · exact h
        · have := (g.lt _ h).1
          have this : b < a := this
          omega
    · rintro x rst ρ ⟨pairs, due, gone, z9, z10, z11, z12, z13, z14, q, hP, hm⟩
      subst q
      have hx := hP.lt x (by simp)
      obtain ⟨n1, n2⟩ := List.nodup_cons.mp hP.nd
      have hBc : B.c ≤ 8 := by rw [hB]; exact c8
      have hBE : EOk B.c B.E := by rw [hB]; exact g.e
      refine ⟨_, rfl, ?_⟩
      obtain ⟨oth, hoth⟩ : ∃ oth, oth = rst.filter fun o => decide ((min x o, max x o) ∈ pairs) := ⟨_, rfl⟩
      have honth : oth.length ≤ 8 := by
        refine Nat.le_trans ?_ hBc
        refine nodup_len (by rw [hoth]; exact n2.filter _) fun y hy => ?_
        rw [hoth] at hy
        exact (hP.lt y (by simp [(List.mem_filter.mp hy).1])).1
      have hrem : remS 8 (ksE B pairs due (x :: rst) (some (false, nD x)) z10 z11 z12 z13 z14) (.ok (nD x)) = .nx (ksE B pairs due rst (some (false, nD x)) z10 z11 z12 z13 z14) := by
        rw [remS_n (l := x :: rst) (by rfl) (by simp), List.erase_cons_head]
        rfl
      simp only [ksE] at hrem
      simp [ksE, hrem]
      rw [lc_val rst nD nD (fun o => decide ((min x o, max x o) ∈ pairs))]
      · rw [← hoth]
        simp
        have hlen := hP.len
        rw [List.length_cons] at hlen
        have key : ∀ (Bk : Env → Prop) (V : SR → Prop), _ := fun Bk V => @k06_inner Φ B pairs (max due (1 + oth.length)) rst (some (false, nD x)) oth (by omega) honth (by rw [hoth]; exact n2.filter _) (KsI B rst) Bk V (fun ρ => .nx ρ) z10 z12 z13 z14 ?_
        · simp [ksE] at key
          exact key _ _
        · rintro ρ ⟨p, w10, w12, w13, w14, q, j1, j2, j3, j4⟩
          subst q
          simp only [Aft_nx]
          have hoo : oth.length * oth.length ≤ 8 * 8 := Nat.mul_le_mul honth honth
          obtain ⟨s1, s2⟩ := k06_step hBE hP hBc oth hoth j1 (fun a ha b hb hab => ((j3 a ha).resolve_left (by simp)) b hb hab) (by simp at j4; omega)
          refine ⟨p, _, gone ||| 2 ^ x, _, _, _, _, _, _, rfl, s1, ?_⟩
          rw [← hm, s2]
          rfl
      · simp
      · have hlen := hP.len
        rw [List.length_cons] at hlen
        omega
      · intro o ho
        exact ⟨_, rfl, by simp [wipeE, in_eL], fun _ => by simp [wipeE]⟩
    · rintro ρ ⟨pairs, due, gone, z9, z10, z11, z12, z13, z14, q, hP, hm⟩
      subst q
      have hdue : due = needN c E order := by
        rw [need_eq (by intro h; rw [h] at olen; simp at olen; omega)]
        have hm : due = maxL (terms B.c B.E 0 B.order) 1 := hm
        rw [hm, hB]
      rw [hB]
      simp [ksE, e4, isiop, ← hdue]
      exact ⟨_, _, _, _, _, _, _, _, _, _, _, _, _, _, rfl⟩
  · rintro ρ ⟨y1, y2, y3, y4, y5, y6, y7, y8, y9, y10, y11, y12, y13, y14, q⟩
    subst q
    simp
end Pv

end
section
namespace Pv
open PySem

/-! ### least of pairs; ranges from; counting without repeats -/
def minE (a : Nat × Nat) (l : List (Nat × Nat)) : Nat × Nat := l.foldl (fun a y => if leE a y then a else y) a
theorem minE_spec : ∀ (l : List (Nat × Nat)) (a : Nat × Nat), minE a l ∈ a :: l ∧ ∀ x ∈ a :: l, leE (minE a l) x = true
  | [], a => ⟨by simp [minE], fun x hx => by
    have : x = a := by simpa using hx
    subst this
    unfold minE leE; simp⟩
  | b :: l, a => by
    have e : minE a (b :: l) = minE (if leE a b then a else b) l := rfl
    rw [e]
    obtain ⟨h1, h2⟩ := minE_spec l (if leE a b then a else b)
    have h3 := h2 (if leE a b then a else b) (by simp)
    refine ⟨?_, fun x hx => ?_⟩
    · rcases List.mem_cons.mp h1 with h | h
      · rw [h]; split <;> simp
      · simp [h]
    · have tr : ∀ p q r : Nat × Nat, leE p q = true → leE q r = true → leE p r = true := fun p q r h1 h2 => by
        unfold leE at *; simp only [decide_eq_true_eq] at *; omega
      rcases List.mem_cons.mp hx with rfl | hx
      · refine tr _ _ _ h3 ?_
        by_cases q : leE x b = true
        · rw [if_pos q]; unfold leE; simp
        · rw [if_neg q]; unfold leE at *; simp only [decide_eq_true_eq] at *; omega
      · rcases List.mem_cons.mp hx with rfl | hx
        · refine tr _ _ _ h3 ?_
          by_cases q : leE a x = true
          · rw [if_pos q]; exact q
          · rw [if_neg q]; unfold leE; simp
        · exact h2 x (by simp [hx])
theorem dataLt_e (a b : Nat × Nat) : PySem.W.dataLt (edgeD a) (edgeD b) = !leE b a := by
  show PySem.W.dataLt (.tuple [.int a.1, .int a.2]) (.tuple [.int b.1, .int b.2]) = _
  rw [PySem.W.dataLt_ii]
  unfold leE
  by_cases h : b.1 < a.1 ∨ (b.1 = a.1 ∧ b.2 ≤ a.2)
  · rw [decide_eq_true h, decide_eq_false (by omega)]; rfl
  · rw [decide_eq_false h, decide_eq_true (by omega)]; rfl
theorem alikeB_e (l : List (Nat × Nat)) : alikeB (l.map edgeD) = true := all_imp fun a ha => all_imp fun b hb => by
  obtain ⟨x, _, rfl⟩ := List.mem_map.mp ha
  obtain ⟨y, _, rfl⟩ := List.mem_map.mp hb
  simp [edgeD, PySem.W.alike, PySem.W.alikeAll, nD]
theorem plainB_e (l : List (Nat × Nat)) : plainB (l.map edgeD) = true := all_imp fun a ha => by
  obtain ⟨x, _, rfl⟩ := List.mem_map.mp ha
  have := okN_edge 59 x
  rw [this.1, decide_eq_true this.2]; rfl
theorem min_e (a : Nat × Nat) (l : List (Nat × Nat)) : bltop .min [.list (edgeD a :: l.map edgeD)] = some (edgeD (minE a l)) := by
  have h1 := alikeB_e (a :: l)
  have h2 := plainB_e (a :: l)
  have h3 : noNone ((a :: l).map edgeD) = true := all_imp fun a ha => by
    obtain ⟨x, _, rfl⟩ := List.mem_map.mp ha; rfl
  rw [List.map_cons] at h1 h2 h3
  show (if alikeB (edgeD a :: l.map edgeD) && plainB (edgeD a :: l.map edgeD) && noNone (edgeD a :: l.map edgeD) then some (PySem.W.minD (edgeD a) (l.map edgeD)) else none) = _
  rw [h1, h2, h3]
  show some (PySem.W.minD _ _) = _
  congr 1
  unfold PySem.W.minD minE
  clear h1 h2 h3
  induction l generalizing a with
  | nil => rfl
  | cons b l ih =>
    rw [List.map_cons, List.foldl_cons, List.foldl_cons, dataLt_e]
    rw [← ih]
    cases leE a b <;> rfl
theorem rngL_n (k n : Nat) : rngL (k : Int) n = (List.range' k n).map nD := by
  unfold rngL
  rw [List.range'_eq_map_range, List.map_map]
  congr 1
theorem rng2_n {a b : Nat} (h : b ≤ 1000000) (ha : a ≤ 1000000) : rng [nD a, nD b] = .ok ((List.range' a (b - a)).map nD) := by
  show (if i62 (a : Int) && i62 (b : Int) then Res.ok (rngL (a : Int) ((b : Int) - (a : Int)).toNat) else .st) = _
  rw [i62_of (by omega) (by omega), i62_of (by omega) (by omega)]
  have : ((b : Int) - (a : Int)).toNat = b - a := by omega
  rw [this, rngL_n]
  rfl
theorem range'_cons {a n x : Nat} {rest : List Nat} (h : List.range' a n = x :: rest) : x = a ∧ 0 < n ∧ rest = List.range' (a + 1) (n - 1) := by
  cases n with
  | zero => simp at h
  | succ n =>
    rw [List.range'_succ] at h
    have := List.cons.inj h
    exact ⟨this.1.symm, by omega, this.2.symm⟩
/-- without repeats -/
def ddN (l : List Nat) : List Nat := l.foldl (fun acc x => if x ∈ acc then acc else acc ++ [x]) []
theorem ddN_spec (l : List Nat) : (ddN l).Nodup ∧ ∀ x, x ∈ ddN l ↔ x ∈ l := by
  have go : ∀ (l acc : List Nat), acc.Nodup → (l.foldl (fun acc x => if x ∈ acc then acc else acc ++ [x]) acc).Nodup ∧ ∀ x, x ∈ l.foldl (fun acc x => if x ∈ acc then acc else acc ++ [x]) acc ↔ x ∈ acc ∨ x ∈ l := by
    intro l
    induction l with
    | nil => intro acc h; exact ⟨h, fun x => by simp⟩
    | cons a l ih =>
      intro acc h
      rw [List.foldl_cons]
      by_cases q : a ∈ acc
      · rw [if_pos q]
        obtain ⟨h1, h2⟩ := ih acc h
        refine ⟨h1, fun x => ?_⟩
        rw [h2, List.mem_cons]
        constructor
        · rintro (z | z)
          · exact .inl z
          · exact .inr (.inr z)
        · rintro (z | rfl | z)
          · exact .inl z
          · exact .inl q
          · exact .inr z
      · rw [if_neg q]
        obtain ⟨h1, h2⟩ := ih (acc ++ [a]) (by
          rw [List.nodup_append]
          refine ⟨h, by simp, fun x hx y hy => ?_⟩
          have : y = a := by simpa using hy
          subst this
          exact fun z => q (z ▸ hx))
        refine ⟨h1, fun x => ?_⟩
        rw [h2, List.mem_append, List.mem_cons]
        simp [or_assoc]
  obtain ⟨h1, h2⟩ := go l [] .nil
  exact ⟨h1, fun x => by unfold ddN; rw [h2]; simp⟩
theorem ddI_n (l : List Nat) : ddI (l.map fun n : Nat => (n : Int)) = (ddN l).map fun n : Nat => (n : Int) := by
  unfold ddI PyProof.Rows.firstMet
  have e : ((List.range (l.map fun n : Nat => (n : Int)).length).map fun i => (l.map fun n : Nat => (n : Int)).getD i 0) = l.map fun n : Nat => (n : Int) := by
    apply List.ext_getElem
    · simp
    · intro i h1 h2
      simp at h1 h2 ⊢
      simp [h1]
  rw [e]
  have go : ∀ (l acc : List Nat), (l.map fun n : Nat => (n : Int)).foldl PyProof.Rows.step_dedup (acc.map fun n : Nat => (n : Int)) = (l.foldl (fun acc x => if x ∈ acc then acc else acc ++ [x]) acc).map fun n : Nat => (n : Int) := by
    intro l
    induction l with
    | nil => intro acc; rfl
    | cons a l ih =>
      intro acc
      rw [List.map_cons, List.foldl_cons, List.foldl_cons, ← ih]
      congr 1
      unfold PyProof.Rows.step_dedup
      have : ((acc.map fun n : Nat => (n : Int)).any (· == (a : Int))) = decide (a ∈ acc) := by
        rw [List.any_map]
        induction acc with
        | nil => rfl
        | cons b acc ih2 =>
          rw [List.any_cons, ih2]
          show (((b : Int) == (a : Int)) || _) = _
          rw [beq_nn]
          by_cases h : b = a
          · subst h; simp
          · simp [h, Ne.symm h]
      rw [this]
      by_cases h : a ∈ acc
      · simp [h]
      · simp [h]
  exact go l []
theorem lsR_n {l : List Nat} (h : l.length ≤ 4000) : lsR2 (natsL l) = .ok (nD (ddN l).length) := by
  show lsI (intsOf (l.map nD)) = _
  rw [intsOf_n]
  show (if (l.map fun n : Nat => (n : Int)).length ≤ 4000 then Res.ok (PyData.int ((ddI (l.map fun n : Nat => (n : Int))).length : Nat)) else .st) = _
  rw [if_pos (by rw [List.length_map]; exact h), ddI_n, List.length_map]
  rfl
theorem lsR_nT {l : List Nat} (h : l.length ≤ 4000) : lsR2 (natsT l) = .ok (nD (ddN l).length) := lsR_n (l := l) h
theorem len_of_mem {l m : List Nat} (h1 : l.Nodup) (h2 : m.Nodup) (h : ∀ x, x ∈ l ↔ x ∈ m) : l.length = m.length := ((List.perm_ext_iff_of_nodup h1 h2).mpr h).length_eq

/-! ### the least cost of an order, by what is gone -/
def costN (w : Nat → Nat → Nat) : Nat → List Nat → Nat
  | _, [] => 0
  | g, v :: l => max (w g v) (costN w (g ||| 2 ^ v) l)
structure DpOk (w : Nat → Nat → Nat) (needs lasts : List Nat) (k : Nat) : Prop where
  ln : needs.length = k
  ll : lasts.length = k
  z : needs[0]? = some 0
  at_ : ∀ m, 0 < m → m < k → m.testBit (lasts[m]?.getD 0) = true ∧ needs[m]?.getD 0 = max (needs[dif m (2 ^ (lasts[m]?.getD 0))]?.getD 0) (w (dif m (2 ^ (lasts[m]?.getD 0))) (lasts[m]?.getD 0))
  le : ∀ m u, m < k → m.testBit u = true → needs[m]?.getD 0 ≤ max (needs[dif m (2 ^ u)]?.getD 0) (w (dif m (2 ^ u)) u)
theorem dif_lt_self {m u : Nat} (h : m.testBit u = true) : dif m (2 ^ u) < m := by
  have e : m &&& 2 ^ u = 2 ^ u := by
    apply Nat.eq_of_testBit_eq
    intro i
    rw [Nat.testBit_and, Nat.testBit_two_pow]
    by_cases q : u = i
    · subst q; simp [h]
    · simp [q]
  have : 2 ^ u ≤ m := by rw [← e]; exact Nat.and_le_left
  have := Nat.two_pow_pos u
  unfold dif
  rw [e]
  omega
theorem dif_or {m u : Nat} (h : m.testBit u = false) : dif (m ||| 2 ^ u) (2 ^ u) = m := by
  apply Nat.eq_of_testBit_eq
  intro i
  rw [test_dif, Nat.testBit_or, Nat.testBit_two_pow]
  by_cases q : u = i
  · subst q; simp [h]
  · simp [q]
theorem or_dif {m u : Nat} (h : m.testBit u = true) : dif m (2 ^ u) ||| 2 ^ u = m := by
  apply Nat.eq_of_testBit_eq
  intro i
  rw [Nat.testBit_or, test_dif, Nat.testBit_two_pow]
  by_cases q : u = i
  · subst q; simp [h]
  · simp [q]
theorem dp_lower {w : Nat → Nat → Nat} {needs lasts : List Nat} {c : Nat} (d : DpOk w needs lasts (2 ^ c)) : ∀ (l : List Nat) (g : Nat), g < 2 ^ c → l.Nodup → (∀ x ∈ l, x < c ∧ g.testBit x = false) → ∃ m, m < 2 ^ c ∧ (∀ x, m.testBit x = true ↔ g.testBit x = true ∨ x ∈ l) ∧ needs[m]?.getD 0 ≤ max (needs[g]?.getD 0) (costN w g l)
  | [], g, hg, _, _ => ⟨g, hg, fun x => by simp, Nat.le_max_left _ _⟩
  | v :: l, g, hg, hn, hl => by
    obtain ⟨n1, n2⟩ := List.nodup_cons.mp hn
    obtain ⟨v1, v2⟩ := hl v (by simp)
    have hw : 2 ^ v < 2 ^ c := Nat.pow_lt_pow_right (by decide) v1
    have hg2 := Nat.or_lt_two_pow hg hw
    obtain ⟨m, m1, m2, m3⟩ := dp_lower d l (g ||| 2 ^ v) hg2 n2 fun x hx => ⟨(hl x (by simp [hx])).1, by
      rw [Nat.testBit_or, (hl x (by simp [hx])).2, Nat.testBit_two_pow]
      have : v ≠ x := fun e => n1 (e ▸ hx)
      simp [this]⟩
    have hb : (g ||| 2 ^ v).testBit v = true := by rw [Nat.testBit_or, Nat.testBit_two_pow]; simp
    have h1 := d.le _ v hg2 hb
    rw [dif_or v2] at h1
    refine ⟨m, m1, fun x => ?_, ?_⟩
    · rw [m2, Nat.testBit_or, Bool.or_eq_true, test_2pow, List.mem_cons, or_assoc]
    · show _ ≤ max _ (max (w g v) (costN w (g ||| 2 ^ v) l))
      omega
/-- what the table says of all nodes is at most the cost of each order -/
theorem dp_least {w : Nat → Nat → Nat} {needs lasts : List Nat} {c : Nat} (d : DpOk w needs lasts (2 ^ c)) {l : List Nat} (h : l.Perm (List.range c)) : needs[2 ^ c - 1]?.getD 0 ≤ costN w 0 l := by
  obtain ⟨m, m1, m2, m3⟩ := dp_lower d l 0 (Nat.two_pow_pos c) (h.nodup_iff.mpr List.nodup_range) fun x hx => ⟨List.mem_range.mp (h.mem_iff.mp hx), by simp⟩
  have e : m = 2 ^ c - 1 := mask_ext fun x => by
    rw [m2, test_all, h.mem_iff, List.mem_range]
    simp
  rw [e, d.z] at m3
  simpa using m3
/-- the walk back -/
structure BackOk (w : Nat → Nat → Nat) (needs : List Nat) (c m : Nat) (L : List Nat) : Prop where
  lt : m < 2 ^ c
  nd : L.Nodup
  al : ∀ x, x < c ↔ m.testBit x = true ∨ x ∈ L
  di : ∀ x ∈ L, m.testBit x = false
  co : max (needs[m]?.getD 0) (costN w m L.reverse) ≤ needs[2 ^ c - 1]?.getD 0
theorem BackOk.start {w : Nat → Nat → Nat} {needs : List Nat} {c : Nat} : BackOk w needs c (2 ^ c - 1) [] :=
  ⟨by have := Nat.two_pow_pos c; omega, .nil, fun x => by rw [test_all]; simp, by simp, by simp [costN]⟩
theorem BackOk.step {w : Nat → Nat → Nat} {needs lasts L : List Nat} {c m : Nat} (d : DpOk w needs lasts (2 ^ c)) (h : BackOk w needs c m L) (hm : m ≠ 0) : BackOk w needs c (dif m (2 ^ (lasts[m]?.getD 0))) (L ++ [lasts[m]?.getD 0]) := by
  obtain ⟨h1, h2⟩ := d.at_ m (by omega) h.lt
  obtain ⟨v, hv⟩ : ∃ v, v = lasts[m]?.getD 0 := ⟨_, rfl⟩
  rw [← hv] at h1 h2 ⊢
  refine ⟨dif_lt h.lt, ?_, fun x => ?_, fun x hx => ?_, ?_⟩
  · rw [List.nodup_append]
    refine ⟨h.nd, by simp, fun x hx y hy => ?_⟩
    have : y = v := by simpa using hy
    subst this
    intro z
    have := h.di x hx
    rw [z, h1] at this; cases this
  · rw [h.al, test_dif, Bool.and_eq_true, List.mem_append]
    by_cases q : x = v
    · subst q; simp [h1]
    · have : (2 ^ v).testBit x = false := by rw [Nat.testBit_two_pow]; simp [Ne.symm q]
      simp [this, q]
  · rw [test_dif]
    rcases List.mem_append.mp hx with hx | hx
    · rw [h.di x hx]; rfl
    · have : x = v := by simpa using hx
      subst this
      rw [Nat.testBit_two_pow]; simp
  · rw [List.reverse_append, List.reverse_singleton]
    show max _ (max (w (dif m (2 ^ v)) v) (costN w (dif m (2 ^ v) ||| 2 ^ v) L.reverse)) ≤ _
    rw [or_dif h1]
    have := h.co
    omega
theorem BackOk.fin {w : Nat → Nat → Nat} {needs lasts L : List Nat} {c : Nat} (d : DpOk w needs lasts (2 ^ c)) (h : BackOk w needs c 0 L) : L.reverse.Perm (List.range c) ∧ ∀ l : List Nat, l.Perm (List.range c) → costN w 0 L.reverse ≤ costN w 0 l := by
  refine ⟨(List.perm_ext_iff_of_nodup ((List.reverse_perm L).nodup_iff.mpr h.nd) List.nodup_range).mpr fun x => ?_, fun l hl => ?_⟩
  · rw [List.mem_reverse, List.mem_range, h.al]; simp
  · have := dp_least d hl
    have := h.co
    omega
theorem DpOk.one (w : Nat → Nat → Nat) : DpOk w [0] [0] 1 := ⟨rfl, rfl, rfl, fun m h1 h2 => by omega, fun m u h1 h2 => by
  have : m = 0 := by omega
  subst this
  simp at h2⟩
theorem getD_app {l : List Nat} {x m : Nat} : (l ++ [x])[m]?.getD 0 = if m < l.length then l[m]?.getD 0 else if m = l.length then x else 0 := by
  by_cases h : m < l.length
  · rw [if_pos h, List.getElem?_append_left h]
  · rw [if_neg h]
    by_cases h2 : m = l.length
    · subst h2; simp
    · rw [if_neg h2, List.getElem?_eq_none (by simp; omega)]; rfl
/-- one mask more: p the least of the options -/
theorem DpOk.step {w : Nat → Nat → Nat} {needs lasts : List Nat} {c m : Nat} (d : DpOk w needs lasts m) (hm : 0 < m) (hc : m < 2 ^ c) {p : Nat × Nat} (hp : p ∈ (bitsN c m).map fun v => (max (needs[dif m (2 ^ v)]?.getD 0) (w (dif m (2 ^ v)) v), v))
    (hl : ∀ x ∈ (bitsN c m).map fun v => (max (needs[dif m (2 ^ v)]?.getD 0) (w (dif m (2 ^ v)) v), v), leE p x = true) : DpOk w (needs ++ [p.1]) (lasts ++ [p.2]) (m + 1) := by
  obtain ⟨v, hv, rfl⟩ := List.mem_map.mp hp
  obtain ⟨v1, v2⟩ := mem_bitsN.mp hv
  have old : ∀ k, k < m → (needs ++ [max (needs[dif m (2 ^ v)]?.getD 0) (w (dif m (2 ^ v)) v)])[k]?.getD 0 = needs[k]?.getD 0 ∧ (lasts ++ [v])[k]?.getD 0 = lasts[k]?.getD 0 := fun k hk => by
    rw [getD_app, getD_app, d.ln, d.ll, if_pos hk, if_pos hk]; exact ⟨rfl, rfl⟩
  refine ⟨by rw [List.length_append, d.ln]; rfl, by rw [List.length_append, d.ll]; rfl, ?_, fun k k1 k2 => ?_, fun k u k1 k2 => ?_⟩
  · rw [List.getElem?_append_left (by rw [d.ln]; exact hm)]; exact d.z
  · by_cases hk : k < m
    · obtain ⟨o1, o2⟩ := old k hk
      obtain ⟨a1, a2⟩ := d.at_ k k1 hk
      rw [o2, o1, (old _ (Nat.lt_trans (dif_lt_self a1) hk)).1]
      exact ⟨a1, a2⟩
    · have : k = m := by omega
      subst this
      have e1 : (lasts ++ [v])[k]?.getD 0 = v := by rw [getD_app, d.ll]; simp
      have e2 : (needs ++ [max (needs[dif k (2 ^ v)]?.getD 0) (w (dif k (2 ^ v)) v)])[k]?.getD 0 = max (needs[dif k (2 ^ v)]?.getD 0) (w (dif k (2 ^ v)) v) := by rw [getD_app, d.ln]; simp
      rw [e1, e2, (old _ (dif_lt_self v2)).1]
      exact ⟨v2, rfl⟩
  · by_cases hk : k < m
    · rw [(old k hk).1, (old _ (Nat.lt_trans (dif_lt_self k2) hk)).1]
      exact d.le k u hk k2
    · have : k = m := by omega
      subst this
      have e2 : (needs ++ [max (needs[dif k (2 ^ v)]?.getD 0) (w (dif k (2 ^ v)) v)])[k]?.getD 0 = max (needs[dif k (2 ^ v)]?.getD 0) (w (dif k (2 ^ v)) v) := by rw [getD_app, d.ln]; simp
      rw [e2, (old _ (dif_lt_self k2)).1]
      have := hl _ (List.mem_map.mpr ⟨u, mem_bitsN.mpr ⟨lt_of_test hc k2, k2⟩, rfl⟩)
      unfold leE at this
      simp only [decide_eq_true_eq] at this
      omega
end Pv

end
section
namespace Pv
open PySem

/-! ### best_line -/
def wLine (c : Nat) (E : List (Nat × Nat)) (g _v : Nat) : Nat := 1 + (borderN c (rowsN c E) g).length
theorem bits_border {c : Nat} {rows : List Nat} {m : Nat} : bitsN c (maskN (borderN c rows m)) = borderN c rows m := bits_mask_filter _
theorem border_lt {c : Nat} {rows : List Nat} {m : Nat} : maskN (borderN c rows m) < 2 ^ c := maskN_lt fun x hx => (mem_bitsN.mp (List.mem_filter.mp hx).1).1
def optN (w : Nat → Nat → Nat) (needs : List Nat) (m v : Nat) : Nat × Nat := (max (needs[dif m (2 ^ v)]?.getD 0) (w (dif m (2 ^ v)) v), v)
def blE (g r : D) (needs lasts : List Nat) (m l o n p d : Option (Bool × D)) : Env := [some (false, g), some (false, r), some (true, natsL needs), some (true, natsL lasts), m, l, o, n, p, d]
def BlI (c : Nat) (E : List (Nat × Nat)) (rest : List Nat) (ρ : Env) : Prop := ∃ (k : Nat) (needs lasts : List Nat) (y4 y5 y6 y7 y8 y9 : Option (Bool × D)), ρ = blE (grD c E) (natsL (rowsN c E)) needs lasts y4 y5 y6 y7 y8 y9
  ∧ rest = List.range' k (2 ^ c - k) ∧ 0 < k ∧ k ≤ 2 ^ c ∧ DpOk (wLine c E) needs lasts k
def BlJ (c : Nat) (E : List (Nat × Nat)) (needs lasts : List Nat) (m : Nat) (y5 : Option (Bool × D)) (done rest : List Nat) (ρ : Env) : Prop := ∃ (opts : List (Nat × Nat)) (y7 y8 y9 : Option (Bool × D)), ρ = blE (grD c E) (natsL (rowsN c E)) needs lasts (some (false, nD m)) y5 (some (true, .list (opts.map edgeD))) y7 y8 y9
  ∧ bitsN c m = done ++ rest ∧ opts = done.map (optN (wLine c E) needs m)
theorem best_line_run {Φ : Calls} {c : Nat} {E : List (Nat × Nat)} (h1 : SRows Φ c E) (h2 : SNodes Φ c) (h3 : SBorderM Φ c E) (h4 : SSize Φ c) (h5 : SAll Φ c E) (hc : c ≤ 16) :
    ∃ l : List Nat, runB 1 10 b_best_line Φ [grD c E] = .ok (natsT l) ∧ l.Perm (List.range c) ∧ ∀ o : List Nat, o.Perm (List.range c) → costN (wLine c E) 0 l ≤ costN (wLine c E) 0 o := by
  suffices h : ∃ l : List Nat, endR (exs b_best_line Φ (start1 10 [grD c E])) = .ok (natsT l) ∧ l.Perm (List.range c) ∧ ∀ o : List Nat, o.Perm (List.range c) → costN (wLine c E) 0 l ≤ costN (wLine c E) 0 o by
    obtain ⟨l, e, h⟩ := h
    exact ⟨l, (run_of (by rfl)).trans e, h⟩
  unfold b_best_line
  have hR : Φ "neighbour_masks" [grD c E] = .ok (natsL (rowsN c E)) := h1
  have hA : Φ "all_nodes" [grD c E] = .ok (nD (2 ^ c - 1)) := h5
  have hp : 2 ^ c ≤ 2 ^ 16 := Nat.pow_le_pow_right (by decide) hc
  have hp2 : (2 : Nat) ^ 16 = 65536 := by decide
  have hix : ixop (grD c E) (nD 0) = some (nD c) := rfl
  have hpos := Nat.two_pow_pos c
  simp [start1, hR, hix, bin_shl (show c ≤ 1000000 by omega), rng2_n (show 2 ^ c ≤ 1000000 by omega) (show 1 ≤ 1000000 by omega)]
  refine for_gen (fun r => ∃ l : List Nat, endR r = .ok (natsT l) ∧ l.Perm (List.range c) ∧ ∀ o : List Nat, o.Perm (List.range c) → costN (wLine c E) 0 l ≤ costN (wLine c E) 0 o) (BlI c E) ?_ ?_ _ _ ⟨1, [0], [0], none, none, none, none, none, none, rfl, rfl, by omega, by omega, DpOk.one _⟩
  · rintro m rest ρ ⟨k, needs, lasts, y4, y5, y6, y7, y8, y9, q, hrest, k0, k1, d⟩
    obtain ⟨rfl, hk, hrest⟩ := range'_cons hrest.symm
    have hm : m < 2 ^ c := by omega
    subst q
    refine ⟨_, rfl, ?_⟩
    simp [blE, h2 m hm]
    refine for_AI (fun rest ρ => ∃ done, BlJ c E needs lasts m y5 done rest ρ) (l := bitsN c m) ⟨[], [], y7, y8, y9, rfl, by simp, rfl⟩ ?_ ?_
    · rintro v es ρ ⟨done, opts, z7, z8, z9, q, e1, e2⟩
      subst q
      have hv : v ∈ bitsN c m := by rw [e1]; simp
      obtain ⟨v1, v2⟩ := mem_bitsN.mp hv
      have hlt := dif_lt_self v2
      have hdl : dif m (2 ^ v) < 2 ^ c := by omega
      refine ⟨_, rfl, ?_⟩
      have g1 : (needs.map nD)[dif m (2 ^ v)]? = some (nD (needs[dif m (2 ^ v)]?.getD 0)) := get_nD (by rw [d.ln]; exact hlt)
      have happ : ∀ z8, apS 6 (blE (grD c E) (natsL (rowsN c E)) needs lasts (some (false, nD m)) y5 (some (true, .list (opts.map edgeD))) (some (false, nD v)) z8 z9) (.ok (edgeD (optN (wLine c E) needs m v))) = .nx (blE (grD c E) (natsL (rowsN c E)) needs lasts (some (false, nD m)) y5 (some (true, .list ((opts ++ [optN (wLine c E) needs m v]).map edgeD))) (some (false, nD v)) z8 z9) := fun z8 => by
        rw [apS_ok (ds := opts.map edgeD) (by rfl) ?_]
        · simp [blE]
        · have := nodup_len (bits_asc c m).nodup fun x hx => (mem_bitsN.mp hx).1
          rw [List.length_map, e2, List.length_map]
          have e3 := congrArg List.length e1
          rw [List.length_append] at e3
          omega
      simp only [blE, edgeD, optN, wLine] at happ
      simp [blE, bin_shl (show v ≤ 1000000 by omega), h3 _ hdl, h4 _ border_lt, bits_border, g1, happ]
      refine ⟨done ++ [v], opts ++ [optN (wLine c E) needs m v], _, _, _, by simp [blE, edgeD, optN, wLine]; exact ⟨rfl, rfl, rfl⟩, by rw [e1]; simp, ?_⟩
      rw [e2]
      simp [optN, wLine]
    · rintro ρ ⟨done, opts, z7, z8, z9, q, e1, e2⟩
      subst q
      rw [List.append_nil] at e1
      have hne : done ≠ [] := by
        obtain ⟨v, hv⟩ := ne_zero_test (show m ≠ 0 by omega)
        rw [← e1]
        exact List.ne_nil_of_mem (mem_bitsN.mpr ⟨lt_of_test hm hv, hv⟩)
      obtain ⟨a, r, hopts⟩ : ∃ a r, opts = a :: r := by
        cases done with
        | nil => exact absurd rfl hne
        | cons x xs => exact ⟨_, _, e2⟩
      obtain ⟨s1, s2⟩ := minE_spec r a
      rw [← hopts, e2, ← e1] at s1 s2
      have d2 := d.step (c := c) k0 hm s1 s2
      subst hopts
      have hmin : bltop .min [.list ((a :: r).map edgeD)] = some (edgeD (minE a r)) := min_e a r
      have ap2 : ∀ z7 z9, apS 2 (blE (grD c E) (natsL (rowsN c E)) needs lasts (some (false, nD m)) y5 (some (true, .list ((a :: r).map edgeD))) z7 z8 z9) (.ok (nD (minE a r).1)) = .nx (blE (grD c E) (natsL (rowsN c E)) (needs ++ [(minE a r).1]) lasts (some (false, nD m)) y5 (some (true, .list ((a :: r).map edgeD))) z7 z8 z9) := fun z7 z9 => by
        rw [apS_ok (ds := needs.map nD) (by rfl) (by rw [List.length_map, d.ln]; omega)]
        simp [blE]
      have ap3 : ∀ needs z7 z9, apS 3 (blE (grD c E) (natsL (rowsN c E)) needs lasts (some (false, nD m)) y5 (some (true, .list ((a :: r).map edgeD))) z7 z8 z9) (.ok (nD (minE a r).2)) = .nx (blE (grD c E) (natsL (rowsN c E)) needs (lasts ++ [(minE a r).2]) (some (false, nD m)) y5 (some (true, .list ((a :: r).map edgeD))) z7 z8 z9) := fun needs z7 z9 => by
        rw [apS_ok (ds := lasts.map nD) (by rfl) (by rw [List.length_map, d.ll]; omega)]
        simp [blE]
      simp only [blE] at ap2 ap3
      have hmin2 : bltop .min [.list (edgeD a :: r.map edgeD)] = some (.tuple [nD (minE a r).1, nD (minE a r).2]) := hmin
      simp at ap2 ap3
      simp [blE, hmin2, asgS]
      rw [ap2]
      simp
      rw [ap3]
      simp
      exact ⟨m + 1, _, _, _, _, _, _, _, _, rfl, by rw [hrest]; congr 1, by omega, by omega, d2⟩
  · rintro ρ ⟨k, needs, lasts, y4, y5, y6, y7, y8, y9, q, hrest, k0, k1, d⟩
    have hk : k = 2 ^ c := by
      have := congrArg List.length hrest
      simp at this
      omega
    subst hk
    subst q
    simp [blE, hA]
    refine while_gen (fun r => ∃ l : List Nat, endR r = .ok (natsT l) ∧ l.Perm (List.range c) ∧ ∀ o : List Nat, o.Perm (List.range c) → costN (wLine c E) 0 l ≤ costN (wLine c E) 0 o) (fun n ρ => ∃ m L, ρ = blE (grD c E) (natsL (rowsN c E)) needs lasts (some (false, nD m)) (some (true, natsL L)) y6 y7 y8 y9 ∧ BackOk (wLine c E) needs c m L ∧ m ≤ n) ?_ FUEL (2 ^ c - 1) _ (by show _ < 1000000; omega) ⟨_, [], rfl, BackOk.start, Nat.le_refl _⟩
    rintro n ρ ⟨m, L, q, hB, hn⟩
    subst q
    refine ⟨!(m == 0), by simp [blE], fun hb => ?_, fun hb => ?_⟩
    · have hm0 : m ≠ 0 := by simpa using hb
      have hlt : m < 2 ^ c := hB.lt
      have st := hB.step d hm0
      obtain ⟨a1, _⟩ := d.at_ m (by omega) hlt
      have hv := lt_of_test hlt a1
      have g1 : (lasts.map nD)[m]? = some (nD (lasts[m]?.getD 0)) := get_nD (by rw [d.ll]; exact hlt)
      have hll := nodup_len st.nd fun x hx => (st.al x).mpr (.inr hx)
      rw [List.length_append] at hll
      refine ⟨by omega, ?_⟩
      have happ : apS 5 (blE (grD c E) (natsL (rowsN c E)) needs lasts (some (false, nD m)) (some (true, natsL L)) y6 y7 y8 y9) (.ok (nD (lasts[m]?.getD 0))) = .nx (blE (grD c E) (natsL (rowsN c E)) needs lasts (some (false, nD m)) (some (true, natsL (L ++ [lasts[m]?.getD 0]))) y6 y7 y8 y9) := by
        rw [apS_ok (ds := L.map nD) (by rfl) (by rw [List.length_map]; omega)]
        simp [blE]
      simp only [blE] at happ
      have hlt2 := dif_lt_self a1
      have g2 : (List.map nD lasts)[m]? = some (nD (lasts[m]?.getD 0)) := g1
      simp [blE, g1, -List.getElem?_map, happ, bin_shl (show lasts[m]?.getD 0 ≤ 1000000 by omega)]
      exact ⟨_, L ++ [lasts[m]?.getD 0], ⟨rfl, by simp⟩, by simpa using st, by omega⟩
    · have hm0 : m = 0 := by simpa using hb
      subst hm0
      obtain ⟨f1, f2⟩ := hB.fin d
      refine ⟨L.reverse, ?_, f1, f2⟩
      simp [blE]
end Pv

end
section
namespace Pv
open PySem

/-! ### cells, all lines -/
abbrev scrD (ns : List Int) : D := .list (ns.map PyData.int)
def SCell (Φ : Calls) : Prop := ∀ (ns : List Int) (k : Nat), ∃ v : Nat, Φ "_law_cell" [scrD ns, nD k] = .ok (nD v)
theorem law_cell_run {Φ : Calls} (h : SMixed Φ) (ns : List Int) (k : Nat) : ∃ v : Nat, runB 2 2 b__law_cell Φ [scrD ns, nD k] = .ok (nD v) := by
  by_cases hk : k < ns.length
  · obtain ⟨v, e⟩ := h ns[k] k
    refine ⟨v, (run_of (by rfl)).trans ?_⟩
    unfold b__law_cell
    have hix : ixop (scrD ns) (nD k) = some (.int ns[k]) := by
      rw [show scrD ns = .list (ns.map PyData.int) from rfl, ix_l, List.getElem?_map, List.getElem?_eq_getElem hk]; rfl
    simp [start1, hk, hix, e]
  · obtain ⟨v, e⟩ := h 0 k
    have e : Φ "_law_mixed" [nD 0, nD k] = .ok (nD v) := e
    refine ⟨v, (run_of (by rfl)).trans ?_⟩
    unfold b__law_cell
    simp [start1, hk, e]
theorem cut_takeT {xs : List D} {n : Nat} : slop (.tuple xs) none (some (n : Int)) = some (.tuple (xs.take n)) := by
  show some (PyData.tuple (cutL xs none (some (n : Int)))) = _
  have h : slop (.list xs) none (some (n : Int)) = some (.list (cutL xs none (some (n : Int)))) := rfl
  rw [cut_take] at h
  have := PyData.list.inj (Option.some.inj h)
  rw [← this]
theorem cut_dropT {xs : List D} {n : Nat} : slop (.tuple xs) (some (n : Int)) none = some (.tuple (xs.drop n)) := by
  show some (PyData.tuple (cutL xs (some (n : Int)) none)) = _
  have h : slop (.list xs) (some (n : Int)) none = some (.list (cutL xs (some (n : Int)) none)) := rfl
  rw [cut_drop] at h
  have := PyData.list.inj (Option.some.inj h)
  rw [← this]
def SAllP (Φ : Calls) : Prop := ∀ c, c ≤ 5 → ∃ rows : List (List Nat), Φ "_law_all" [nD c] = .ok (.list (rows.map natsT)) ∧ (∀ r ∈ rows, r.Perm (List.range c)) ∧ rows.length ≤ 7776
theorem perm_ins {r : List Nat} {k n : Nat} (h : r.Perm (List.range k)) : (r.take n ++ k :: r.drop n).Perm (List.range (k + 1)) := by
  have h1 : (r.take n ++ k :: r.drop n).Perm (k :: (r.take n ++ r.drop n)) := List.perm_middle
  rw [List.take_append_drop] at h1
  rw [List.range_succ]
  exact h1.trans ((List.Perm.cons k h).trans (List.perm_append_singleton k (List.range k)).symm)
def laE (c : Nat) (rows : List (List Nat)) (y2 y3 y4 y5 : Option (Bool × D)) : Env := [some (false, nD c), some (false, .list (rows.map natsT)), y2, y3, y4, y5]
def LaI (c : Nat) (rest : List Nat) (ρ : Env) : Prop := ∃ (k : Nat) (rows : List (List Nat)) (y2 y3 y4 y5 : Option (Bool × D)), rest = (List.range c).drop k ∧ ρ = laE c rows y2 y3 y4 y5 ∧ k ≤ c ∧ (∀ r ∈ rows, r.Perm (List.range k)) ∧ rows.length ≤ 6 ^ k
def LaJ (c k : Nat) (rows : List (List Nat)) (y : Option (Bool × D)) (rest : List (List Nat)) (ρ : Env) : Prop := ∃ (L : List (List Nat)) (y4 y5 : Option (Bool × D)), ρ = laE c rows y (some (true, .list (L.map natsT))) y4 y5 ∧ (∀ r ∈ L, r.Perm (List.range (k + 1))) ∧ (∀ r ∈ rest, r ∈ rows) ∧ L.length + 6 * rest.length ≤ 6 * rows.length
def LaK (c k : Nat) (rows : List (List Nat)) (y : Option (Bool × D)) (b : Nat) (row : List Nat) (rest : List Nat) (ρ : Env) : Prop := ∃ (L : List (List Nat)) (y5 : Option (Bool × D)), ρ = laE c rows y (some (true, .list (L.map natsT))) (some (false, natsT row)) y5 ∧ (∀ r ∈ L, r.Perm (List.range (k + 1))) ∧ L.length + rest.length ≤ b
theorem law_all_run (Φ : Calls) {c : Nat} (hc : c ≤ 5) : ∃ rows : List (List Nat), runB 1 6 b__law_all Φ [nD c] = .ok (.list (rows.map natsT)) ∧ (∀ r ∈ rows, r.Perm (List.range c)) ∧ rows.length ≤ 7776 := by
  suffices h : ∃ rows : List (List Nat), endR (exs b__law_all Φ (start1 6 [nD c])) = .ok (.list (rows.map natsT)) ∧ (∀ r ∈ rows, r.Perm (List.range c)) ∧ rows.length ≤ 7776 by
    obtain ⟨l, e, h⟩ := h
    exact ⟨l, (run_of (by rfl)).trans e, h⟩
  unfold b__law_all
  simp [start1, rng_n (show c ≤ 1000000 by omega)]
  refine for_gen (fun r => ∃ rows : List (List Nat), endR r = .ok (.list (rows.map natsT)) ∧ (∀ r ∈ rows, r.Perm (List.range c)) ∧ rows.length ≤ 7776) (LaI c) ?_ ?_ _ _ ⟨0, [[]], none, none, none, none, rfl, rfl, Nat.zero_le _, by simp, by simp⟩
  · rintro a rest ρ ⟨k, rows, y2, y3, y4, y5, hd, q, hk, h1, h2⟩
    obtain ⟨rfl, hkc, hrest⟩ := drop_range hd.symm
    subst q
    refine ⟨_, rfl, ?_⟩
    have h6 : 6 ^ a ≤ 6 ^ 4 := Nat.pow_le_pow_right (by decide) (by omega)
    have h64 : (6 : Nat) ^ 4 = 1296 := by decide
    simp [laE]
    refine for_AI (LaJ c a rows (some (false, nD a))) (l := rows) ⟨[], y4, y5, rfl, by simp, fun _ h => h, by simp⟩ ?_ ?_
    · rintro row rrest ρ ⟨L, z4, z5, q, j1, j2, j3⟩
      subst q
      have hrow := h1 row (j2 row (by simp))
      have hlen : row.length = a := by rw [hrow.length_eq, List.length_range]
      rw [List.length_cons] at j3
      refine ⟨_, rfl, ?_⟩
      simp [laE, rng_n (show row.length + 1 ≤ 1000000 by omega)]
      refine for_AI (LaK c a rows (some (false, nD a)) (L.length + (row.length + 1)) row) (l := List.range (row.length + 1)) ⟨L, z5, rfl, j1, by simp⟩ ?_ ?_
      · rintro n ns ρ ⟨L2, w5, q, i1, i2⟩
        subst q
        rw [List.length_cons] at i2
        refine ⟨_, rfl, ?_⟩
        have happ : apS 3 (laE c rows (some (false, nD a)) (some (true, .list (L2.map natsT))) (some (false, natsT row)) (some (false, nD n))) (.ok (natsT (row.take n ++ a :: row.drop n))) = .nx (laE c rows (some (false, nD a)) (some (true, .list ((L2 ++ [row.take n ++ a :: row.drop n]).map natsT))) (some (false, natsT row)) (some (false, nD n))) := by
          rw [apS_ok (ds := L2.map natsT) (by rfl) (by rw [List.length_map]; omega)]
          simp [laE]
        have c1 : slop (natsT row) none (some (n : Int)) = some (natsT (row.take n)) := by rw [show natsT row = .tuple (row.map nD) from rfl, cut_takeT, ← List.map_take]
        have c2 : slop (natsT row) (some (n : Int)) none = some (natsT (row.drop n)) := by rw [show natsT row = .tuple (row.map nD) from rfl, cut_dropT, ← List.map_drop]
        have c3 : binop .Add (natsT (row.take n)) (.tuple [nD a]) = some (natsT (row.take n ++ [a])) := by
          rw [show natsT (row.take n) = .tuple ((row.take n).map nD) from rfl, cat_t _ _ (by simp; omega)]; simp
        have c4 : binop .Add (natsT (row.take n ++ [a])) (natsT (row.drop n)) = some (natsT (row.take n ++ a :: row.drop n)) := by
          rw [show natsT (row.take n ++ [a]) = .tuple ((row.take n ++ [a]).map nD) from rfl, show natsT (row.drop n) = .tuple ((row.drop n).map nD) from rfl, cat_t _ _ (by simp; omega)]; simp
        simp only [laE] at happ
        have e : ∀ k : Env → SR, _ := fun k => congrArg (fun r => SR.seq r k) happ
        simp only [laE, exs_cons, exs_nil, ex_app, dis_nil, ev_bin, ev_slc, evo_none, evo_some, ev_varB, ev_tup, evs_cons, evs_nil, ev_var, rdB_0, rdB_s, rdV_0, rdV_s, Res.ok_bind, Res.pure_eq, intR_ok, asgT_var, List.set_cons_succ, List.set_cons_zero, c1, c2, Res.ofO_some, smL_ok, List.length_cons, List.length_nil, c3, c4, Nat.zero_add, show (1 : Nat) ≤ 1000000 from by omega, happ, SR.seq_nx, Aft_nx]
        refine ⟨_, _, rfl, fun r hr => ?_, by simp; omega⟩
        rcases List.mem_append.mp hr with hr | hr
        · exact i1 r hr
        · have : r = row.take n ++ a :: row.drop n := by simpa using hr
          subst this
          exact perm_ins hrow
      · rintro ρ ⟨L2, w5, q, i1, i2⟩
        subst q
        simp only [Aft_nx]
        simp at i2
        exact ⟨L2, _, _, rfl, i1, fun r hr => j2 r (by simp [hr]), by omega⟩
    · rintro ρ ⟨L, z4, z5, q, j1, j2, j3⟩
      subst q
      simp [laE]
      simp at j3
      refine ⟨a + 1, L, _, _, _, _, hrest, rfl, by omega, j1, ?_⟩
      rw [Nat.pow_succ]; omega
  · rintro ρ ⟨k, rows, y2, y3, y4, y5, hd, q, hk, h1, h2⟩
    have hkc : k = c := by
      apply Nat.le_antisymm hk
      apply Nat.le_of_not_lt
      intro h
      rw [List.drop_eq_getElem_cons (by rw [List.length_range]; exact h)] at hd
      cases hd
    subst hkc
    subst q
    have h6 : 6 ^ k ≤ 6 ^ 5 := Nat.pow_le_pow_right (by decide) hc
    have h64 : (6 : Nat) ^ 5 = 7776 := by decide
    exact ⟨rows, by simp [laE], h1, by omega⟩
end Pv

end
section
namespace Pv
open PySem

/-! ### the need of a line, by hand -/
theorem maskN_app (l : List Nat) (x : Nat) : maskN (l ++ [x]) = maskN l ||| 2 ^ x := by
  unfold maskN
  rw [List.foldl_append]; rfl
theorem mem_border_mask {c : Nat} {E : List (Nat × Nat)} (hE : EOk c E) {l : List Nat} {v : Nat} : v ∈ borderN c (rowsN c E) (maskN l) ↔ v < c ∧ v ∈ l ∧ ∃ u, adj E v u ∧ u ∉ l := by
  rw [mem_borderN (rowsN_ok hE), test_maskN]
  have tm : ∀ y, (maskN l).testBit y = false ↔ y ∉ l := fun y => by rw [← test_maskN (l := l), Bool.not_eq_true]
  constructor
  · rintro ⟨a, b, u, h1, h2⟩; exact ⟨a, b, u, h1, (tm u).mp h2⟩
  · rintro ⟨a, b, u, h1, h2⟩; exact ⟨a, b, u, h1, (tm u).mpr h2⟩
/-- what the edges tell of a border -/
structure BdL (E : List (Nat × Nat)) (front : List Nat) (rest : List (Nat × Nat)) (due : List Nat) : Prop where
  sub : ∀ e ∈ rest, e ∈ E
  ok : ∀ x ∈ due, x ∈ front ∧ ∃ u, adj E x u ∧ u ∉ front
  al : ∀ e ∈ E, e ∈ rest ∨ ((e.1 ∈ front → e.2 ∉ front → e.1 ∈ due) ∧ (e.2 ∈ front → e.1 ∉ front → e.2 ∈ due))
  len : due.length + 2 * rest.length ≤ 2 * E.length
theorem BdL.start {E : List (Nat × Nat)} {front : List Nat} : BdL E front E [] := ⟨fun _ h => h, by simp, fun e he => .inl he, by simp⟩
theorem BdL.step {E : List (Nat × Nat)} {front due due2 : List Nat} {a b : Nat} {es : List (Nat × Nat)} (h : BdL E front ((a, b) :: es) due) (k1 : ∀ x ∈ due, x ∈ due2) (k2 : ∀ x ∈ due2, x ∈ due ∨ (x = a ∧ a ∈ front ∧ b ∉ front) ∨ (x = b ∧ b ∈ front ∧ a ∉ front))
    (k3 : a ∈ front → b ∉ front → a ∈ due2) (k4 : b ∈ front → a ∉ front → b ∈ due2) (k5 : due2.length ≤ due.length + 2) : BdL E front es due2 := by
  have hab := h.sub (a, b) (by simp)
  refine ⟨fun e he => h.sub e (by simp [he]), fun x hx => ?_, fun e he => ?_, ?_⟩
  · rcases k2 x hx with q | ⟨rfl, q1, q2⟩ | ⟨rfl, q1, q2⟩
    · exact h.ok x q
    · exact ⟨q1, b, .inl hab, q2⟩
    · exact ⟨q1, a, .inr hab, q2⟩
  · rcases h.al e he with q | q
    · rcases List.mem_cons.mp q with rfl | q
      · exact .inr ⟨k3, k4⟩
      · exact .inl q
    · exact .inr ⟨fun x y => k1 _ (q.1 x y), fun x y => k1 _ (q.2 x y)⟩
  · have := h.len
    rw [List.length_cons] at this
    omega
theorem BdL.fin {c : Nat} {E : List (Nat × Nat)} {front due : List Nat} (hE : EOk c E) (hf : ∀ x ∈ front, x < c) (h : BdL E front [] due) : ∀ x, x ∈ due ↔ x ∈ borderN c (rowsN c E) (maskN front) := fun x => by
  rw [mem_border_mask hE]
  constructor
  · exact fun q => ⟨hf x (h.ok x q).1, h.ok x q⟩
  · rintro ⟨_, hx, u, hu, hn⟩
    rcases hu with hu | hu
    · exact ((h.al _ hu).resolve_left (by simp)).1 hx hn
    · exact ((h.al _ hu).resolve_left (by simp)).2 hx hn
theorem BdL.count {c : Nat} {E : List (Nat × Nat)} {front due : List Nat} (hE : EOk c E) (hf : ∀ x ∈ front, x < c) (h : BdL E front [] due) : (ddN due).length = (borderN c (rowsN c E) (maskN front)).length :=
  len_of_mem (ddN_spec due).1 (Asc.nodup ((bits_asc _ _).filter _)) fun x => by rw [(ddN_spec due).2, h.fin hE hf]
def lineNeed (c : Nat) (E : List (Nat × Nat)) (l : List Nat) : Nat := max 1 (costN (wLine c E) 0 l)
def SLNeed (Φ : Calls) : Prop := ∀ c E l, c ≤ 8 → EOk c E → E.length ≤ 64 → (∀ x ∈ l, x < c) → l.length ≤ 1000 → Φ "_law_line_need" [grD c E, natsT l] = .ok (nD (lineNeed c E l))
def llE (c : Nat) (E : List (Nat × Nat)) (l : List Nat) (need : Nat) (y3 y4 y5 y6 y7 : Option (Bool × D)) : Env := [some (false, grD c E), some (false, natsT l), some (false, nD need), y3, y4, y5, y6, y7]
def LlI (c : Nat) (E : List (Nat × Nat)) (l : List Nat) (rest : List Nat) (ρ : Env) : Prop := ∃ (k need : Nat) (y3 y4 y5 y6 y7 : Option (Bool × D)), rest = (List.range l.length).drop k ∧ ρ = llE c E l need y3 y4 y5 y6 y7 ∧ k ≤ l.length ∧ max need (costN (wLine c E) (maskN (l.take k)) (l.drop k)) = lineNeed c E l
def LlJ (c : Nat) (E : List (Nat × Nat)) (l : List Nat) (need : Nat) (y3 : Option (Bool × D)) (front : List Nat) (rest : List (Nat × Nat)) (ρ : Env) : Prop := ∃ (due : List Nat) (y6 y7 : Option (Bool × D)), ρ = llE c E l need y3 (some (false, natsT front)) (some (true, natsL due)) y6 y7 ∧ BdL E front rest due
theorem law_line_need_run (Φ : Calls) {c : Nat} {E : List (Nat × Nat)} {l : List Nat} (hc : c ≤ 8) (hE : EOk c E) (hlen : E.length ≤ 64) (hl : ∀ x ∈ l, x < c) (hll : l.length ≤ 1000) : runB 2 8 b__law_line_need Φ [grD c E, natsT l] = .ok (nD (lineNeed c E l)) := by
  refine (run_of (by rfl)).trans ?_
  unfold b__law_line_need
  have hix1 : ixop (grD c E) (nD 1) = some (.tuple (E.map edgeD)) := rfl
  simp [start1, rng_n (show l.length ≤ 1000000 by omega)]
  refine for_EI (LlI c E l) (l := List.range l.length) ⟨0, 1, none, none, none, none, none, rfl, rfl, Nat.zero_le _, rfl⟩ ?_ ?_
  · rintro a rest ρ ⟨k, need, y3, y4, y5, y6, y7, hd, q, hk, h1⟩
    obtain ⟨rfl, hkl, hrest⟩ := drop_range hd.symm
    subst q
    refine ⟨_, rfl, ?_⟩
    have c1 : slop (natsT l) none (some (a : Int)) = some (natsT (l.take a)) := by rw [show natsT l = .tuple (l.map nD) from rfl, cut_takeT, ← List.map_take]
    simp [llE, c1, hix1, -List.map_take]
    refine for_AI (LlJ c E l need (some (false, nD a)) (l.take a)) (l := E) ⟨[], y6, y7, rfl, BdL.start⟩ ?_ ?_
    · rintro ⟨x, y⟩ es ρ ⟨due, z6, z7, q, hB⟩
      subst q
      have hBl := hB.len
      rw [List.length_cons] at hBl
      refine ⟨_, rfl, ?_⟩
      have happ : ∀ z (due : List Nat), due.length ≤ 1000 → apS 5 (llE c E l need (some (false, nD a)) (some (false, natsT (l.take a))) (some (true, natsL due)) (some (false, nD x)) (some (false, nD y))) (.ok (nD z)) = .nx (llE c E l need (some (false, nD a)) (some (false, natsT (l.take a))) (some (true, natsL (due ++ [z]))) (some (false, nD x)) (some (false, nD y))) := fun z due hd => by
        rw [apS_ok (ds := due.map nD) (by rfl) (by rw [List.length_map]; omega)]
        simp [llE]
      have fin : ∀ due2 : List Nat, BdL E (l.take a) es due2 → LlJ c E l need (some (false, nD a)) (l.take a) es (llE c E l need (some (false, nD a)) (some (false, natsT (l.take a))) (some (true, natsL due2)) (some (false, nD x)) (some (false, nD y))) := fun due2 h => ⟨due2, _, _, rfl, h⟩
      simp only [llE] at happ fin
      by_cases p1 : x ∈ l.take a
      · by_cases p2 : y ∈ l.take a
        · have := fin due (hB.step (fun _ h => h) (fun _ h => .inl h) (fun _ h => absurd p2 h) (fun _ h => absurd p1 h) (by omega))
          simp [llE, p1, p2, -List.map_take]
          exact this
        · have := fin (due ++ [x]) (hB.step (fun _ h => List.mem_append_left _ h) (fun z h => by
            rcases List.mem_append.mp h with h | h
            · exact .inl h
            · exact .inr (.inl ⟨by simpa using h, p1, p2⟩)) (fun _ _ => by simp) (fun h => absurd h p2) (by simp))
          simp [llE, p1, p2, happ x due (by omega), -List.map_take]
          simpa [-List.map_take] using this
      · by_cases p2 : y ∈ l.take a
        · have := fin (due ++ [y]) (hB.step (fun _ h => List.mem_append_left _ h) (fun z h => by
            rcases List.mem_append.mp h with h | h
            · exact .inl h
            · exact .inr (.inr ⟨by simpa using h, p2, p1⟩)) (fun h => absurd h p1) (fun _ _ => by simp) (by simp))
          simp [llE, p1, p2, happ y due (by omega), -List.map_take]
          simpa [-List.map_take] using this
        · have := fin due (hB.step (fun _ h => h) (fun _ h => .inl h) (fun h => absurd h p1) (fun h => absurd h p2) (by omega))
          simp [llE, p1, p2, -List.map_take]
          exact this
    · rintro ρ ⟨due, z6, z7, q, hB⟩
      subst q
      have hcount := hB.count hE fun x hx => hl x (List.mem_of_mem_take hx)
      have hBl := hB.len
      have hls := lsR_n (l := due) (by omega)
      simp [llE, hls, hcount, -List.map_take]
      refine ⟨a + 1, _, _, _, _, _, _, hrest, rfl, by omega, ?_⟩
      rw [List.drop_eq_getElem_cons hkl] at h1
      have e1 : l.take (a + 1) = l.take a ++ [l[a]] := by rw [List.take_add_one, List.getElem?_eq_getElem hkl]; rfl
      rw [← h1, e1, maskN_app]
      show max (max need (1 + _)) _ = max need (max (wLine c E _ _) _)
      unfold wLine
      omega
  · rintro ρ ⟨k, need, y3, y4, y5, y6, y7, hd, q, hk, h1⟩
    have hkc : k = l.length := by
      apply Nat.le_antisymm hk
      apply Nat.le_of_not_lt
      intro h
      rw [List.drop_eq_getElem_cons (by rw [List.length_range]; exact h)] at hd
      cases hd
    subst hkc
    subst q
    rw [List.drop_length] at h1
    simp [llE]
    rw [← h1]
    simp [costN]
end Pv

end
section
namespace Pv
open PySem

/-! ### k13 -/
def SBestL (Φ : Calls) : Prop := ∀ c E, c ≤ 8 → EOk c E → ∃ l : List Nat, Φ "best_line" [grD c E] = .ok (natsT l) ∧ l.Perm (List.range c) ∧ ∀ o : List Nat, o.Perm (List.range c) → costN (wLine c E) 0 l ≤ costN (wLine c E) 0 o
theorem sorted_nT (l : List Nat) : bltop .sorted [natsT l] = some (natsL (l.mergeSort fun a b => decide (a ≤ b))) := sorted_n l
theorem ne_lst {ds : List D} (h : okN 60 (.list ds)) : cmpR .NotEq (.list ds) (.list ds) = .ok (.bool false) := by
  apply cmpR_of
  have e : PyData.eqv (.list ds) (.list ds) = true := PySem.SeqAt.eqv_refl_plain _ h.1
  have h2 := okN_ok h (Nat.le_refl _)
  show (if okD (.list ds) && okD (.list ds) then some (!PyData.eqv (.list ds) (.list ds)) else none) = _
  rw [h2, e]; rfl
theorem sort_perm {l : List Nat} {c : Nat} (h : l.Perm (List.range c)) : (l.mergeSort fun a b => decide (a ≤ b)) = List.range c :=
  asc_eq (sort_asc (h.nodup_iff.mpr List.nodup_range)) (range_asc c) fun x => by rw [List.mem_mergeSort]; exact h.mem_iff
theorem perm_lt {l : List Nat} {c : Nat} (h : l.Perm (List.range c)) : (∀ x ∈ l, x < c) ∧ l.length = c := ⟨fun x hx => List.mem_range.mp (h.mem_iff.mp hx), by rw [h.length_eq, List.length_range]⟩
def k13E (s v g o l n : D) (b : Bool) (y6 y7 : Option (Bool × D)) : Env := [some (false, s), some (false, v), some (false, g), some (b, o), some (false, l), some (false, n), y6, y7]
theorem k13_run {Φ : Calls} (h1 : SCell Φ) (h2 : SGraph Φ) (h3 : SAllP Φ) (h4 : SOrder Φ) (h5 : SBestL Φ) (h6 : SLNeed Φ) (ns : List Int) (hn : ns.length ≤ 63) : runB 1 8 b_law_v27 Φ [scrD ns] = .ok (.bool true) := by
  refine (run_of (by rfl)).trans ?_
  unfold b_law_v27
  obtain ⟨v, e1⟩ := h1 ns 0
  have tail : ∀ (c : Nat) (E : List (Nat × Nat)) (others : List (List Nat)) (b : Bool) (y4 y5 y6 y7 : Option (Bool × D)), c ≤ 8 → GOk c E → (∀ o ∈ others, o.Perm (List.range c)) →
      endR (exs (.cons (.set 4 [] (.call "best_line" (.cons (.var 2) .nil))) (.cons (.ifs (.or (.not (.isi .tuple (.varB 4))) (.one (.cmp .NotEq (.blt .sorted (.cons (.varB 4) .nil)) (.rg1 false (.ix (.varB 2) (.cst (.int 0))))))) (.cons (.ret (.cst (.bool false))) .nil) .nil) (.cons (.set 5 [] (.call "_law_line_need" (.cons (.var 2) (.cons (.var 4) .nil)))) (.cons (.fors [3] (.var 6) (.val (.var 3)) (.cons (.ifs (.cmp .Lt (.call "_law_line_need" (.cons (.var 2) (.cons (.var 6) .nil))) (.varB 5)) (.cons (.ret (.cst (.bool false))) .nil) .nil) .nil)) (.cons (.ret (.cst (.bool true))) .nil))))) Φ
        [some (false, scrD ns), some (false, nD v), some (false, grD c E), some (b, .list (others.map natsT)), y4, y5, y6, y7]) = .ok (.bool true) := by
    intro c E others b y4 y5 y6 y7 hc hg ho
    obtain ⟨l, e5, lp, lm⟩ := h5 c E hc hg.e
    obtain ⟨ll, llen⟩ := perm_lt lp
    have e6 := h6 c E l hc hg.e hg.len ll (by omega)
    have hix : ixop (grD c E) (nD 0) = some (nD c) := rfl
    simp [e5, isiop, sorted_nT, sort_perm lp, hix, rg_n (show c ≤ 1000000 by omega), ne_lst (okN_natsL 59 (List.range c)), e6]
    refine for_EI (fun rest ρ => ∃ y6, ρ = k13E (scrD ns) (nD v) (grD c E) (.list (others.map natsT)) (natsT l) (nD (lineNeed c E l)) false y6 y7 ∧ ∀ o ∈ rest, o ∈ others) (l := others) ⟨y6, rfl, fun _ h => h⟩ ?_ ?_
    · rintro o rest ρ ⟨z6, q, hm⟩
      subst q
      obtain ⟨ol, olen⟩ := perm_lt (ho o (hm o (by simp)))
      have e7 := h6 c E o hc hg.e hg.len ol (by omega)
      have hle := lm o (ho o (hm o (by simp)))
      have hnot : ¬ lineNeed c E o < lineNeed c E l := by unfold lineNeed; omega
      refine ⟨_, rfl, ?_⟩
      simp [k13E, e7, hnot]
      exact fun o ho => hm o (by simp [ho])
    · rintro ρ ⟨z6, q, hm⟩
      subst q
      simp [k13E]
  obtain ⟨c, E, e2, c1, c5, g⟩ := h2 (v / 2) 5 (by omega) (by omega)
  obtain ⟨rows, e3, rp, rl⟩ := h3 c c5
  have hix : ixop (grD c E) (nD 0) = some (nD c) := rfl
  by_cases hv : v % 2 = 1
  · obtain ⟨c', E', e2', c1', c7, g'⟩ := h2 (v / 2) 7 (by omega) (by omega)
    have hix' : ixop (grD c' E') (nD 0) = some (nD c') := rfl
    have hch : ∀ k : Nat, ∃ o : List Nat, o.Perm (List.range c') ∧ ∃ w, Φ "_law_cell" [scrD ns, nD (1 + k)] = .ok (nD w) ∧ Φ "_law_order" [nD w, nD c'] = .ok (natsT o) := fun k => by
      obtain ⟨w, q1⟩ := h1 ns (1 + k)
      obtain ⟨o, q2, q3⟩ := h4 w c' (by omega)
      exact ⟨o, q3, w, q1, q2⟩
    obtain ⟨f, hf⟩ := Classical.axiomOfChoice hch
    have t := tail c' E' ((List.range 40).map f) true none none none none (by omega) g' fun o ho => by
      obtain ⟨k, _, rfl⟩ := List.mem_map.mp ho
      exact (hf k).1
    simp [start1, e1, bin_div, bin_mod, e2, hix, e3, hv, e2'] at t ⊢
    rw [lc_all (List.range 40) nD (fun k => natsT (f k))]
    · simp
      exact t
    · exact rng_n (by omega)
    · simp
    · intro k _
      obtain ⟨_, w, q1, q2⟩ := hf k
      refine ⟨_, rfl, ?_⟩
      simp [wipeE, q1, q2, hix']
  · have t := tail c E rows false none none none none (by omega) g rp
    simp only [exs_cons, exs_nil] at t
    simp [start1, e1, bin_div, bin_mod, e2, hix, e3, hv] at t ⊢
    exact t
end Pv

end
section
namespace Pv
open PySem

/-! ### lists or tuples of numbers -/
def seqN (k : Bool) (l : List Nat) : D := if k then natsT l else natsL l
@[simp] theorem seqN_t (l : List Nat) : seqN true l = natsT l := id rfl
@[simp] theorem seqN_f (l : List Nat) : seqN false l = natsL l := id rfl
@[simp] theorem items_s (k : Bool) (l : List Nat) : itemsOf (seqN k l) = .ok (l.map nD) := by cases k <;> exact id rfl
@[simp] theorem in_s (k : Bool) (a : Nat) (l : List Nat) : cmpR .In (nD a) (seqN k l) = .ok (.bool (decide (a ∈ l))) := by cases k <;> simp
@[simp] theorem nin_s (k : Bool) (a : Nat) (l : List Nat) : cmpR .NotIn (nD a) (seqN k l) = .ok (.bool (!decide (a ∈ l))) := by cases k <;> simp
@[simp] theorem lst_s (k : Bool) (l : List Nat) : bltop .list [seqN k l] = some (natsL l) := by cases k <;> exact id rfl
@[simp] theorem tup_s (k : Bool) (l : List Nat) : bltop .tuple [seqN k l] = some (natsT l) := by cases k <;> exact id rfl
@[simp] theorem len_s (k : Bool) (l : List Nat) : bltop .len [seqN k l] = some (nD l.length) := by cases k <;> simp [seqN, natsT, natsL]
theorem cut_tN (l : List Nat) (n : Nat) : slop (natsT l) none (some (n : Int)) = some (natsT (l.take n)) := by rw [show natsT l = .tuple (l.map nD) from rfl, cut_takeT, ← List.map_take]
theorem cut_dN (l : List Nat) (n : Nat) : slop (natsT l) (some (n : Int)) none = some (natsT (l.drop n)) := by rw [show natsT l = .tuple (l.map nD) from rfl, cut_dropT, ← List.map_drop]

/-! ### _law_reach, from any start -/
def StB (st ban : List Nat) : Nat → Prop := fun v => v ∈ st ∧ v ∉ ban
noncomputable def reachM (c : Nat) (E : List (Nat × Nat)) (ban st : List Nat) : Nat := maskP c (Conn E (frB c ban) (StB st ban))
noncomputable def reachL (c : Nat) (E : List (Nat × Nat)) (ban st : List Nat) : List Nat := bitsN c (reachM c E ban st)
theorem mem_reachL {c : Nat} {E : List (Nat × Nat)} {ban st : List Nat} {v : Nat} : v ∈ reachL c E ban st ↔ v < c ∧ Conn E (frB c ban) (StB st ban) v := by
  unfold reachL reachM
  rw [mem_bitsN, test_maskP]
  exact ⟨fun h => h.2, fun h => ⟨h.1, h⟩⟩
structure RgL (E : List (Nat × Nat)) (c : Nat) (ban st : List Nat) (L : List Nat) : Prop where
  nd : L.Nodup
  lt : ∀ x ∈ L, x < c
  sb : ∀ x, StB st ban x → x ∈ L
  co : ∀ x ∈ L, Conn E (frB c ban) (StB st ban) x
theorem RgL.app {E : List (Nat × Nat)} {c : Nat} {ban st : List Nat} {L : List Nat} (h : RgL E c ban st L) {a b : Nat} (ha : a ∈ L) (hb : b ∉ L) (hab : adj E a b) (hf : frB c ban b) : RgL E c ban st (L ++ [b]) := by
  refine ⟨?_, fun x hx => ?_, fun x hx => List.mem_append_left _ (h.sb x hx), fun x hx => ?_⟩
  · rw [List.nodup_append]
    refine ⟨h.nd, by simp, fun x hx y hy => ?_⟩
    have : y = b := by simpa using hy
    subst this
    exact fun z => hb (z ▸ hx)
  · rcases List.mem_append.mp hx with hx | hx
    · exact h.lt x hx
    · have : x = b := by simpa using hx
      subst this; exact hf.1
  · rcases List.mem_append.mp hx with hx | hx
    · exact h.co x hx
    · have : x = b := by simpa using hx
      subst this
      exact .step (h.co a ha) hab hf
def rgE (c : Nat) (E : List (Nat × Nat)) (sD bD : D) (L : List Nat) (y4 y5 y6 y7 : Option (Bool × D)) : Env :=
  [some (false, grD c E), some (false, sD), some (false, bD), some (true, natsL L), y4, y5, y6, y7]
def RgO (c : Nat) (E : List (Nat × Nat)) (sD bD : D) (ban st : List Nat) (rest : List Nat) (ρ : Env) : Prop := ∃ (L : List Nat) (y4 y5 y6 y7 : Option (Bool × D)), ρ = rgE c E sD bD L y4 y5 y6 y7 ∧ RgL E c ban st L ∧ rest.length ≤ c ∧ (ClL E (frB c ban) L ∨ c - rest.length ≤ L.length)
def RgN (c : Nat) (E : List (Nat × Nat)) (sD bD : D) (ban st : List Nat) (L0 : List Nat) (rest : List (Nat × Nat)) (ρ : Env) : Prop := ∃ (L : List Nat) (y4 y5 y6 y7 : Option (Bool × D)), ρ = rgE c E sD bD L y4 y5 y6 y7 ∧ RgL E c ban st L ∧ (∀ e ∈ rest, e ∈ E)
  ∧ ((L = L0 ∧ ∀ e ∈ E, e ∈ rest ∨ ClE (frB c ban) L0 e) ∨ (L0.length < L.length ∧ ¬ ClL E (frB c ban) L0))
theorem reach_run (Φ : Calls) {c : Nat} {E : List (Nat × Nat)} {ban st : List Nat} (k1 k2 : Bool) (hc : c ≤ 1000) (hE : EOk c E) (hs : st.Nodup) (hlt : ∀ x ∈ st, x < c) :
    runB 3 8 b__law_reach Φ [grD c E, seqN k1 st, seqN k2 ban] = .ok (natsL (reachL c E ban st)) := by
  refine (run_of (by rfl)).trans ?_
  unfold b__law_reach
  obtain ⟨sD, hsD⟩ : ∃ sD, sD = seqN k1 st := ⟨_, rfl⟩
  obtain ⟨bD, hbD⟩ : ∃ bD, bD = seqN k2 ban := ⟨_, rfl⟩
  have i1 : itemsOf sD = .ok (st.map nD) := by rw [hsD, items_s]
  have i2 : ∀ a, cmpR .NotIn (nD a) bD = .ok (.bool (!decide (a ∈ ban))) := fun a => by rw [hbD, nin_s]
  rw [← hsD, ← hbD]
  have hlc : lcE [5] (.var 5) (evi (.val (.varB 1))) (evc (.some (.cmp .NotIn (.varB 5) (.varB 2)))) (ev (.var 5)) Φ [some (false, grD c E), some (false, sD), some (false, bD), none, none, none, none, none] = .ok (natsL (st.filter fun x => !decide (x ∈ ban))) := by
    simp
    rw [lc_val st nD nD (fun x => !decide (x ∈ ban))]
    · simp [i1]
    · have := nodup_len hs hlt; omega
    · intro a ha
      refine ⟨_, rfl, ?_, fun _ => ?_⟩
      · simp [wipeE, i2]
      · simp [wipeE]
  simp only [start1, exs_cons, exs_nil, ex_setF, dis_nil, List.map_cons, List.map_nil, List.length_cons, List.length_nil, List.replicate, List.cons_append, List.nil_append, ev_lc, hlc]
  simp [grD, rng_n (show c ≤ 1000000 by omega)]
  have h0 : RgL E c ban st (st.filter fun x => !decide (x ∈ ban)) := by
    have hm : ∀ x, x ∈ st.filter (fun x => !decide (x ∈ ban)) ↔ StB st ban x := fun x => by
      rw [List.mem_filter]; unfold StB; simp
    exact ⟨hs.filter _, fun x hx => hlt x ((hm x).mp hx).1, fun x hx => (hm x).mpr hx, fun x hx => .base ((hm x).mp hx)⟩
  refine for_EI (RgO c E sD bD ban st) (l := List.range c) ⟨_, none, none, none, none, rfl, h0, by simp, .inr (by simp)⟩ ?_ ?_
  · rintro k rest ρ ⟨L0, y4, y5, y6, y7, q, h1, h2, h3⟩
    subst q
    refine ⟨_, rfl, ?_⟩
    rw [List.length_cons] at h2 h3
    simp [rgE, grD]
    refine for_AI (RgN c E sD bD ban st L0) (l := E) ⟨L0, some (false, nD k), y5, y6, y7, rfl, h1, fun _ h => h, .inl ⟨rfl, fun e he => .inl he⟩⟩ ?_ ?_
    · rintro ⟨a, b⟩ es ρ ⟨L, z4, z5, z6, z7, q, g1, g2, g3⟩
      subst q
      have hab : (a, b) ∈ E := g2 (a, b) (by simp)
      have hlt := hE _ hab
      have hL1 := nodup_len g1.nd g1.lt
      refine ⟨_, rfl, ?_⟩
      have happ : ∀ x, apS 3 (rgE c E sD bD L z4 z5 (some (false, nD a)) (some (false, nD b))) (.ok (nD x)) = .nx (rgE c E sD bD (L ++ [x]) z4 z5 (some (false, nD a)) (some (false, nD b))) := fun x => by
        rw [apS_ok (ds := L.map nD) (by rfl) (by rw [List.length_map]; omega)]
        simp [rgE]
      simp only [rgE, grD] at happ
      have fin1 : ∀ x w, adj E w x → w ∈ L → x ∉ L → frB c ban x → ((w, x) = (a, b) ∨ (x, w) = (a, b)) → RgN c E sD bD ban st L0 es (rgE c E sD bD (L ++ [x]) z4 z5 (some (false, nD a)) (some (false, nD b))) := fun x w hwx hw hx hf hs => by
        refine ⟨L ++ [x], _, _, _, _, rfl, g1.app hw hx hwx hf, fun e he => g2 e (by simp [he]), .inr ?_⟩
        rcases g3 with ⟨rfl, _⟩ | ⟨g3, g4⟩
        · refine ⟨by simp, fun cl => ?_⟩
          rcases hs with hs | hs
          · cases hs; exact hx ((cl _ hab).1 hw hf)
          · cases hs; exact hx ((cl _ hab).2 hw hf)
        · exact ⟨by simp; omega, g4⟩
      have fin2 : ClE (frB c ban) L (a, b) → RgN c E sD bD ban st L0 es (rgE c E sD bD L z4 z5 (some (false, nD a)) (some (false, nD b))) := fun hcl => by
        refine ⟨L, _, _, _, _, rfl, g1, fun e he => g2 e (by simp [he]), ?_⟩
        rcases g3 with ⟨rfl, g4⟩ | g3
        · refine .inl ⟨rfl, fun e he => ?_⟩
          rcases g4 e he with g | g
          · rcases List.mem_cons.mp g with rfl | g
            · exact .inr hcl
            · exact .inl g
          · exact .inr g
        · exact .inr g3
      have hadj : adj E a b := .inl hab
      simp only [rgE, grD] at fin1 fin2
      by_cases p1 : a ∈ L
      · by_cases p2 : b ∈ L
        · have := fin2 ⟨fun _ _ => p2, fun _ _ => p1⟩
          simp [rgE, grD, p1, p2]
          exact this
        · by_cases p3 : b ∈ ban
          · have := fin2 ⟨fun _ h => absurd p3 h.2, fun h => absurd h p2⟩
            simp [rgE, grD, p1, p2, p3, i2]
            exact this
          · have := fin1 b a hadj p1 p2 ⟨hlt.2, p3⟩ (.inl rfl)
            simp [rgE, grD, p1, p2, p3, happ, i2]
            simpa using this
      · by_cases p2 : b ∈ L
        · by_cases p3 : a ∈ ban
          · have := fin2 ⟨fun h => absurd h p1, fun _ h => absurd p3 h.2⟩
            simp [rgE, grD, p1, p2, p3, i2]
            exact this
          · have := fin1 a b (adj_symm hadj) p2 p1 ⟨hlt.1, p3⟩ (.inr rfl)
            simp [rgE, grD, p1, p2, p3, happ, i2]
            simpa using this
        · have := fin2 ⟨fun h => absurd h p1, fun h => absurd h p2⟩
          simp [rgE, grD, p1, p2]
          exact this
    · rintro ρ ⟨L, z4, z5, z6, z7, q, g1, g2, g3⟩
      subst q
      simp only [Aft_nx]
      refine ⟨L, z4, z5, z6, z7, rfl, g1, by omega, ?_⟩
      rcases g3 with ⟨rfl, g4⟩ | ⟨g3, g4⟩
      · exact .inl fun e he => (g4 e he).resolve_left (by simp)
      · rcases h3 with h3 | h3
        · exact absurd h3 g4
        · exact .inr (by omega)
  · rintro ρ ⟨L, y4, y5, y6, y7, q, h1, _, h3⟩
    subst q
    have hcl : ClL E (frB c ban) L := by
      rcases h3 with h3 | h3
      · exact h3
      · have h3 : c ≤ L.length := by simpa using h3
        have all : ∀ x, x < c → x ∈ L := fun x hx => by
          apply Classical.byContradiction
          intro hn
          have : (x :: L).length ≤ c := nodup_len (List.nodup_cons.mpr ⟨hn, h1.nd⟩) fun y hy => by
            rcases List.mem_cons.mp hy with rfl | hy
            · exact hx
            · exact h1.lt y hy
          rw [List.length_cons] at this
          omega
        exact fun e he => ⟨fun _ h => all _ h.1, fun _ h => all _ h.1⟩
    have hmem : ∀ x, x ∈ L ↔ x < c ∧ Conn E (frB c ban) (StB st ban) x := fun x => ⟨fun h => ⟨h1.lt x h, h1.co x h⟩, fun ⟨_, h⟩ => by
      have key : ∀ x, Conn E (frB c ban) (StB st ban) x → x ∈ L := fun x h => by
        induction h with
        | base h => exact h1.sb _ h
        | step _ a b ih =>
          rcases a with a | a
          · exact (hcl _ a).1 ih b
          · exact (hcl _ a).2 ih b
      exact key x h⟩
    have e : (L.mergeSort fun a b => decide (a ≤ b)) = reachL c E ban st := by
      refine asc_eq (sort_asc h1.nd) (bits_asc _ _) fun x => ?_
      rw [List.mem_mergeSort, hmem, mem_reachL]
    simp [rgE, sorted_n, e]
def SReachG (Φ : Calls) : Prop := ∀ c E k1 k2 st ban, c ≤ 8 → EOk c E → st.Nodup → (∀ x ∈ st, x < c) → Φ "_law_reach" [grD c E, seqN k1 st, seqN k2 ban] = .ok (natsL (reachL c E ban st))

/-! ### _law_next -/
noncomputable def nextL (c : Nat) (E : List (Nat × Nat)) (lazy : Bool) (stand poss after : List Nat) : List Nat :=
  (List.range c).filter fun v => (decide (v ∈ reachL c E (stand.filter (fun x => decide (x ∈ after))) (if lazy then poss.filter (fun x => decide (x ∈ after)) else poss)) || decide (v ∈ poss)) && !decide (v ∈ after)
theorem mem_nextL {c : Nat} {E : List (Nat × Nat)} {lazy : Bool} {stand poss after : List Nat} {v : Nat} : v ∈ nextL c E lazy stand poss after ↔ v < c ∧ v ∉ after ∧ (v ∈ poss ∨ Conn E (fun x => x < c ∧ ¬ (x ∈ stand ∧ x ∈ after)) (fun x => (x ∈ poss ∧ (lazy = true → x ∈ after)) ∧ ¬ (x ∈ stand ∧ x ∈ after)) v) := by
  unfold nextL
  rw [List.mem_filter, List.mem_range, Bool.and_eq_true, Bool.or_eq_true, decide_eq_true_iff, decide_eq_true_iff, mem_reachL]
  have e1 : frB c (stand.filter (fun x => decide (x ∈ after))) = fun x => x < c ∧ ¬ (x ∈ stand ∧ x ∈ after) := by
    funext x; apply propext; simp [frB, List.mem_filter]
  have e2 : StB (if lazy then poss.filter (fun x => decide (x ∈ after)) else poss) (stand.filter (fun x => decide (x ∈ after))) = fun x => (x ∈ poss ∧ (lazy = true → x ∈ after)) ∧ ¬ (x ∈ stand ∧ x ∈ after) := by
    funext x; apply propext
    unfold StB
    cases lazy <;> simp [List.mem_filter]
  rw [e1, e2]
  constructor
  · rintro ⟨a, b, d⟩
    refine ⟨a, by simpa using d, ?_⟩
    rcases b with b | b
    · exact .inr b.2
    · exact .inl b
  · rintro ⟨a, b, d⟩
    refine ⟨a, ?_, by simpa using b⟩
    rcases d with d | d
    · exact .inr d
    · exact .inl ⟨a, d⟩
theorem nextL_asc (c : Nat) (E : List (Nat × Nat)) (lazy : Bool) (stand poss after : List Nat) : Asc (nextL c E lazy stand poss after) := (range_asc c).filter _
def runD (lazy : Bool) : D := .str (if lazy then "lazy" else "unseen")
theorem runD_eq (lazy : Bool) : cmpR .Eq (runD lazy) (.str "lazy") = .ok (.bool lazy) := by cases lazy <;> rfl
theorem reachL_lt {c : Nat} {E : List (Nat × Nat)} {ban st : List Nat} : (reachL c E ban st).length ≤ c := nodup_len (bits_asc _ _).nodup fun x hx => (mem_bitsN.mp hx).1
theorem law_next_run {Φ : Calls} (hr : SReachG Φ) {c : Nat} {E : List (Nat × Nat)} {lazy : Bool} {stand poss after : List Nat} (hc : c ≤ 8) (hE : EOk c E) (hs : stand.length ≤ 1000) (hp : poss.Nodup) (hpl : ∀ x ∈ poss, x < c) :
    runB 5 9 b__law_next_v2 Φ [grD c E, natsT stand, natsT poss, natsT after, runD lazy] = .ok (natsT (nextL c E lazy stand poss after)) := by
  refine (run_of (by rfl)).trans ?_
  unfold b__law_next_v2
  have hix : ixop (grD c E) (nD 0) = some (nD c) := rfl
  have hpll := nodup_len hp hpl
  simp [start1]
  rw [lc_val stand nD nD (fun x => decide (x ∈ after))]
  rotate_left
  · simp
  · omega
  · intro a ha
    exact ⟨_, rfl, by simp [wipeE], fun _ => by simp [wipeE]⟩
  have fin : ∀ (b : Bool) (k1 : Bool) (st : List Nat), st = (if lazy then poss.filter (fun x => decide (x ∈ after)) else poss) → endR (exs (.cons (.set 7 [5, 6] (.bin .Add (.call "_law_reach" (.cons (.var 0) (.cons (.var 6) (.cons (.var 5) .nil)))) (.blt .list (.cons (.varB 2) .nil)))) (.cons (.ret (.blt .tuple (.cons (.lc [8] (.var 8) (.rng1 (.ix (.varB 0) (.cst (.int 0)))) (.some (.and (.cmp .In (.varB 8) (.varB 7)) (.one (.cmp .NotIn (.varB 8) (.varB 3))))) (.var 8)) .nil))) .nil)) Φ
      [some (false, grD c E), some (false, natsT stand), some (false, natsT poss), some (false, natsT after), some (false, runD lazy), some (true, natsL (stand.filter fun x => decide (x ∈ after))), some (b, seqN k1 st), none, none]) = .ok (natsT (nextL c E lazy stand poss after)) := by
    intro b k1 st hst
    have hR := hr c E k1 false st (stand.filter fun x => decide (x ∈ after)) hc hE (by rw [hst]; split; exact hp.filter _; exact hp) (fun x hx => hpl x (by
      rw [hst] at hx
      split at hx
      · exact (List.mem_filter.mp hx).1
      · exact hx))
    rw [seqN_f] at hR
    have hcat : binop .Add (natsL (reachL c E (stand.filter fun x => decide (x ∈ after)) st)) (natsL poss) = some (natsL (reachL c E (stand.filter fun x => decide (x ∈ after)) st ++ poss)) := by
      have := reachL_lt (c := c) (E := E) (ban := stand.filter fun x => decide (x ∈ after)) (st := st)
      rw [show natsL (reachL c E (stand.filter fun x => decide (x ∈ after)) st) = .list ((reachL c E (stand.filter fun x => decide (x ∈ after)) st).map nD) from rfl, cat_l _ _ (by simp; omega)]; simp
    simp [hR, hcat]
    rw [lc_val (List.range c) nD nD (fun v => decide (v ∈ reachL c E (stand.filter (fun x => decide (x ∈ after))) st ++ poss) && !decide (v ∈ after))]
    · simp
      unfold nextL
      rw [hst]
    · simp [hix, rng_n (show c ≤ 1000000 by omega)]
    · simp; omega
    · intro a ha
      refine ⟨_, rfl, ?_, fun _ => by simp [wipeE]⟩
      simp only [wipeE, ev_and, ev_cmp, ev_varB, ev_one]
      simp [-List.mem_append]
      by_cases p1 : a ∈ reachL c E (stand.filter (fun x => decide (x ∈ after))) st ++ poss
      · simp [p1]
      · simp [p1]
  cases lazy with
  | false =>
    have t := fin false true poss rfl
    simp [runD_eq] at t ⊢
    exact t
  | true =>
    have t := fin true false (poss.filter (fun x => decide (x ∈ after))) rfl
    simp [runD_eq] at t ⊢
    rw [lc_val poss nD nD (fun x => decide (x ∈ after))]
    · simp
      exact t
    · simp
    · omega
    · intro a ha
      exact ⟨_, rfl, by simp [wipeE], fun _ => by simp [wipeE]⟩
end Pv

end
section
namespace Pv
open PySem

/-! ### equal data -/
structure EncOk {α : Type} [DecidableEq α] (f : α → D) (n : Nat) : Prop where
  eq : ∀ a b, PyData.eqv (f a) (f b) = decide (a = b)
  ok : ∀ a, okN n (f a)
theorem enc_n (n : Nat) : EncOk nD n := ⟨fun a b => by rw [eqv_n]; by_cases h : a = b <;> simp [h], fun a => okN_nD n a⟩
theorem enc_e (n : Nat) : EncOk edgeD (n + 1) := ⟨fun a b => by rw [eqv_e]; by_cases h : a = b <;> simp [h], fun a => okN_edge n a⟩
section
variable {α : Type} [DecidableEq α] {f : α → D} {n : Nat}
theorem eqvAll_map (h : ∀ a b, PyData.eqv (f a) (f b) = decide (a = b)) : ∀ xs ys : List α, PyData.eqvAll (xs.map f) (ys.map f) = decide (xs = ys)
  | [], [] => by simp [PyData.eqvAll]
  | [], _ :: _ => by simp [PyData.eqvAll]
  | _ :: _, [] => by simp [PyData.eqvAll]
  | x :: xs, y :: ys => by
    rw [List.map_cons, List.map_cons, PyData.eqvAll, h, eqvAll_map h xs ys]
    by_cases h1 : x = y <;> by_cases h2 : xs = ys <;> simp [h1, h2]
theorem EncOk.tup (h : EncOk f n) : EncOk (fun l : List α => PyData.tuple (l.map f)) (n + 1) := ⟨fun a b => by
  show PyData.eqv (.tuple _) (.tuple _) = _
  rw [PyData.eqv]; exact eqvAll_map h.eq a b, fun l => okN_tup fun d hd => by
    obtain ⟨x, _, rfl⟩ := List.mem_map.mp hd
    exact h.ok x⟩
theorem EncOk.lst (h : EncOk f n) : EncOk (fun l : List α => PyData.list (l.map f)) (n + 1) := ⟨fun a b => by
  show PyData.eqv (.list _) (.list _) = _
  rw [PyData.eqv]; exact eqvAll_map h.eq a b, fun l => okN_lst fun d hd => by
    obtain ⟨x, _, rfl⟩ := List.mem_map.mp hd
    exact h.ok x⟩
theorem cmp_eqT (h : EncOk f n) (hn : n ≤ 59) (xs ys : List α) : cmpR .Eq (.tuple (xs.map f)) (.tuple (ys.map f)) = .ok (.bool (decide (xs = ys))) := by
  apply cmpR_of
  show (if okD (.tuple (xs.map f)) && okD (.tuple (ys.map f)) then some (PyData.eqv (.tuple (xs.map f)) (.tuple (ys.map f))) else none) = _
  rw [okN_ok (h.tup.ok xs) (by omega), okN_ok (h.tup.ok ys) (by omega), h.tup.eq]; rfl
theorem cmp_neT (h : EncOk f n) (hn : n ≤ 59) (xs ys : List α) : cmpR .NotEq (.tuple (xs.map f)) (.tuple (ys.map f)) = .ok (.bool (!decide (xs = ys))) := by
  apply cmpR_of
  show (if okD (.tuple (xs.map f)) && okD (.tuple (ys.map f)) then some (!PyData.eqv (.tuple (xs.map f)) (.tuple (ys.map f))) else none) = _
  rw [okN_ok (h.tup.ok xs) (by omega), okN_ok (h.tup.ok ys) (by omega), h.tup.eq]; rfl
theorem cmp_eqL (h : EncOk f n) (hn : n ≤ 59) (xs ys : List α) : cmpR .Eq (.list (xs.map f)) (.list (ys.map f)) = .ok (.bool (decide (xs = ys))) := by
  apply cmpR_of
  show (if okD (.list (xs.map f)) && okD (.list (ys.map f)) then some (PyData.eqv (.list (xs.map f)) (.list (ys.map f))) else none) = _
  rw [okN_ok (h.lst.ok xs) (by omega), okN_ok (h.lst.ok ys) (by omega), h.lst.eq]; rfl
theorem cmp_neL (h : EncOk f n) (hn : n ≤ 59) (xs ys : List α) : cmpR .NotEq (.list (xs.map f)) (.list (ys.map f)) = .ok (.bool (!decide (xs = ys))) := by
  apply cmpR_of
  show (if okD (.list (xs.map f)) && okD (.list (ys.map f)) then some (!PyData.eqv (.list (xs.map f)) (.list (ys.map f))) else none) = _
  rw [okN_ok (h.lst.ok xs) (by omega), okN_ok (h.lst.ok ys) (by omega), h.lst.eq]; rfl
theorem inD_enc (h : EncOk f n) (a : α) (xs : List α) : inD (f a) (xs.map f) = decide (a ∈ xs) := by
  unfold inD
  rw [List.any_map]
  induction xs with
  | nil => rfl
  | cons b xs ih =>
    rw [List.any_cons, ih]
    show (PyData.eqv (f b) (f a) || _) = _
    rw [h.eq]
    by_cases q : b = a
    · subst q; simp
    · simp [q, Ne.symm q]
end
theorem eqN_T (a b : List Nat) : cmpR .Eq (natsT a) (natsT b) = .ok (.bool (decide (a = b))) := cmp_eqT (enc_n 0) (by omega) a b
theorem neN_T (a b : List Nat) : cmpR .NotEq (natsT a) (natsT b) = .ok (.bool (!decide (a = b))) := cmp_neT (enc_n 0) (by omega) a b
theorem eqN_L (a b : List Nat) : cmpR .Eq (natsL a) (natsL b) = .ok (.bool (decide (a = b))) := cmp_eqL (enc_n 0) (by omega) a b
theorem neN_L (a b : List Nat) : cmpR .NotEq (natsL a) (natsL b) = .ok (.bool (!decide (a = b))) := cmp_neL (enc_n 0) (by omega) a b
theorem neN_L0 (a : List Nat) : cmpR .NotEq (natsL a) (.list []) = .ok (.bool (!decide (a = []))) := neN_L a []
theorem eqN_T0 (a : List Nat) : cmpR .Eq (natsT a) (.tuple []) = .ok (.bool (decide (a = []))) := eqN_T a []
theorem neT_L0 (a : List (List Nat)) : cmpR .NotEq (.list (a.map natsT)) (.list []) = .ok (.bool (!decide (a = []))) := cmp_neL (enc_n 0).tup (by omega) a []

/-! ### sorted(set(..)) -/
theorem ssR_n {l m : List Nat} (h : Asc m) (hm : ∀ x, x ∈ m ↔ x ∈ l) (h1 : l.length ≤ 4000) (h2 : m.length < 64) : ssR (natsL l) = .ok (natsL m) := by
  have e : seqD (natsL l) = some (l.map nD) := rfl
  unfold ssR
  rw [e]
  show (match intsOf (l.map nD) with | some ns => if decide (ns.length ≤ 4000) && decide ((ddI ns).length < 64) then Res.ok (ssD (l.map nD)) else Res.st | none => Res.st) = _
  rw [intsOf_n]
  have hd : (ddI (l.map fun n : Nat => (n : Int))).length < 64 := by
    rw [ddI_n, List.length_map, len_of_mem (ddN_spec l).1 h.nodup fun x => by rw [(ddN_spec l).2, hm]]
    exact h2
  show (if decide ((l.map fun n : Nat => (n : Int)).length ≤ 4000) && decide ((ddI (l.map fun n : Nat => (n : Int))).length < 64) then Res.ok (ssD (l.map nD)) else .st) = _
  rw [decide_eq_true (by rw [List.length_map]; exact h1), decide_eq_true hd]
  show Res.ok (ssD (l.map nD)) = _
  congr 1
  have e2 : l.map nD = (l.map fun n : Nat => (n : Int)).map PyData.int := by rw [List.map_map]; rfl
  have e3 : natsL m = .list ((m.map fun n : Nat => (n : Int)).map PyData.int) := by rw [List.map_map]; rfl
  rw [e2, e3]
  refine ssD_ints ?_ fun k => ?_
  · rw [List.pairwise_map]
    exact List.Pairwise.imp (fun {a b} q => by omega) h
  · rw [List.mem_map, List.mem_map]
    constructor
    · rintro ⟨x, q, rfl⟩; exact ⟨x, (hm x).mp q, rfl⟩
    · rintro ⟨x, q, rfl⟩; exact ⟨x, (hm x).mpr q, rfl⟩

/-! ### the program's lines -/
theorem line_need_run {Φ : Calls} {c : Nat} {E : List (Nat × Nat)} {l : List Nat} (h1 : SRows Φ c E) (h3 : SBorderM Φ c E) (h4 : SSize Φ c) (hc : c ≤ 1000) (hl : ∀ x ∈ l, x < c) : runB 2 6 b_line_need Φ [grD c E, natsT l] = .ok (nD (costN (wLine c E) 0 l)) := by
  refine (run_of (by rfl)).trans ?_
  unfold b_line_need
  have hR : Φ "neighbour_masks" [grD c E] = .ok (natsL (rowsN c E)) := h1
  simp [start1, hR]
  refine for_EI (fun rest ρ => ∃ g need y, ρ = [some (false, grD c E), some (false, natsT l), some (false, natsL (rowsN c E)), some (false, nD g), some (false, nD need), y] ∧ g < 2 ^ c ∧ (∀ x ∈ rest, x < c) ∧ max need (costN (wLine c E) g rest) = costN (wLine c E) 0 l) (l := l) ⟨0, 0, none, rfl, Nat.two_pow_pos c, hl, by simp⟩ ?_ ?_
  · rintro x rest ρ ⟨g, need, y, q, g1, g2, g3⟩
    subst q
    have hx : x < c := g2 x (by simp)
    have hw : 2 ^ x < 2 ^ c := Nat.pow_lt_pow_right (by decide) hx
    refine ⟨_, rfl, ?_⟩
    simp [h3 g g1, h4 _ border_lt, bits_border, bin_shl (show x ≤ 1000000 by omega)]
    refine ⟨_, _, ⟨rfl, rfl⟩, Nat.or_lt_two_pow g1 hw, fun z hz => g2 z (by simp [hz]), ?_⟩
    rw [← g3]
    show max (max need (1 + _)) _ = max need (max (wLine c E g x) _)
    unfold wLine
    omega
  · rintro ρ ⟨g, need, y, q, g1, g2, g3⟩
    subst q
    simp
    rw [← g3]
    simp [costN]
def standN (c : Nat) (E : List (Nat × Nat)) (pre : List Nat) (v : Nat) : List Nat := bitsN c (maskN (borderN c (rowsN c E) (maskN pre)) ||| 2 ^ v)
def planN (c : Nat) (E : List (Nat × Nat)) : List Nat → List Nat → List (List Nat)
  | _, [] => []
  | pre, v :: suf => standN c E pre v :: planN c E (pre ++ [v]) suf
theorem planN_len (c : Nat) (E : List (Nat × Nat)) : ∀ (suf pre : List Nat), (planN c E pre suf).length = suf.length
  | [], _ => rfl
  | v :: suf, pre => by rw [planN, List.length_cons, List.length_cons, planN_len]
theorem planN_get (c : Nat) (E : List (Nat × Nat)) : ∀ (suf pre : List Nat) (i : Nat) (h : i < suf.length), (planN c E pre suf)[i]? = some (standN c E (pre ++ suf.take i) suf[i])
  | v :: suf, pre, 0, _ => by simp [planN]
  | v :: suf, pre, i + 1, h => by
    have h' : i < suf.length := by simpa using h
    rw [planN, List.getElem?_cons_succ, planN_get c E suf (pre ++ [v]) i h']
    simp
theorem plan_of_line_run {Φ : Calls} {c : Nat} {E : List (Nat × Nat)} {l : List Nat} (h1 : SRows Φ c E) (h3 : SBorderM Φ c E) (h4 : SNodes Φ c) (hc : c ≤ 1000) (hl : ∀ x ∈ l, x < c) (hll : l.length ≤ 1000) : runB 2 6 b_plan_of_line Φ [grD c E, natsT l] = .ok (.tuple ((planN c E [] l).map natsT)) := by
  refine (run_of (by rfl)).trans ?_
  unfold b_plan_of_line
  have hR : Φ "neighbour_masks" [grD c E] = .ok (natsL (rowsN c E)) := h1
  simp [start1, hR]
  refine for_EI (fun rest ρ => ∃ pre pl y, ρ = [some (false, grD c E), some (false, natsT l), some (false, natsL (rowsN c E)), some (false, nD (maskN pre)), some (true, .list (pl.map natsT)), y] ∧ l = pre ++ rest ∧ pl ++ planN c E pre rest = planN c E [] l ∧ pl.length = pre.length) (l := l) ⟨[], [], none, rfl, rfl, rfl, rfl⟩ ?_ ?_
  · rintro x rest ρ ⟨pre, pl, y, q, e1, e2, e3⟩
    subst q
    have hx : x < c := hl x (by rw [e1]; simp)
    have hpre : maskN pre < 2 ^ c := maskN_lt fun z hz => hl z (by rw [e1]; simp [hz])
    have hw : 2 ^ x < 2 ^ c := Nat.pow_lt_pow_right (by decide) hx
    have hlen := congrArg List.length e1
    rw [List.length_append, List.length_cons] at hlen
    refine ⟨_, rfl, ?_⟩
    have hn := h4 (maskN (borderN c (rowsN c E) (maskN pre)) ||| 2 ^ x) (Nat.or_lt_two_pow border_lt hw)
    simp [h3 _ hpre, hn, bin_shl (show x ≤ 1000000 by omega)]
    rw [apS_ok (ds := pl.map natsT) (by rfl) (by rw [List.length_map]; omega)]
    simp [bin_shl (show x ≤ 1000000 by omega)]
    refine ⟨pre ++ [x], pl ++ [standN c E pre x], by simp [maskN_app, standN], by rw [e1]; simp, ?_, by simp [e3]⟩
    rw [← e2, planN]; simp
  · rintro ρ ⟨pre, pl, y, q, e1, e2, e3⟩
    subst q
    simp [planN] at e2
    simp [← e2]
end Pv

end
section
namespace Pv
open PySem

/-! ### plans walked, by hand -/
noncomputable def walkN (c : Nat) (E : List (Nat × Nat)) (lazy : Bool) : List Nat → List Nat → List (List Nat) → List (List Nat)
  | _, _, [] => []
  | stand, poss, s :: plan => nextL c E lazy stand poss s :: walkN c E lazy s (nextL c E lazy stand poss s) plan
theorem walkN_len (c : Nat) (E : List (Nat × Nat)) (lazy : Bool) : ∀ (plan : List (List Nat)) (stand poss : List Nat), (walkN c E lazy stand poss plan).length = plan.length
  | [], _, _ => rfl
  | s :: plan, stand, poss => by rw [walkN, List.length_cons, List.length_cons, walkN_len]
def SNext (Φ : Calls) : Prop := ∀ c E lazy stand poss after, c ≤ 8 → EOk c E → stand.length ≤ 1000 → poss.Nodup → (∀ x ∈ poss, x < c) → Φ "_law_next" [grD c E, natsT stand, natsT poss, natsT after, runD lazy] = .ok (natsT (nextL c E lazy stand poss after))
def wkE (c : Nat) (E : List (Nat × Nat)) (plan : List (List Nat)) (lazy : Bool) (stand poss : List Nat) (found : List (List Nat)) (y : Option (Bool × D)) : Env := [some (false, grD c E), some (false, .tuple (plan.map natsT)), some (false, runD lazy), some (false, natsT stand), some (false, natsT poss), some (true, .list (found.map natsT)), y]
def WkI (c : Nat) (E : List (Nat × Nat)) (plan : List (List Nat)) (lazy : Bool) (rest : List (List Nat)) (ρ : Env) : Prop := ∃ (stand poss : List Nat) (found : List (List Nat)) (y : Option (Bool × D)), ρ = wkE c E plan lazy stand poss found y
  ∧ found ++ walkN c E lazy stand poss rest = walkN c E lazy [] (List.range c) plan ∧ poss.Nodup ∧ (∀ x ∈ poss, x < c) ∧ stand.length ≤ 1000 ∧ (∀ s ∈ rest, s.length ≤ 1000) ∧ found.length + rest.length = plan.length
theorem law_walk_run {Φ : Calls} (h : SNext Φ) {c : Nat} {E : List (Nat × Nat)} {lazy : Bool} {plan : List (List Nat)} (hc : c ≤ 8) (hE : EOk c E) (hp : ∀ s ∈ plan, s.length ≤ 1000) (hpl : plan.length ≤ 1000) :
    runB 3 7 b__law_walk Φ [grD c E, .tuple (plan.map natsT), runD lazy] = .ok (.list ((walkN c E lazy [] (List.range c) plan).map natsT)) := by
  refine (run_of (by rfl)).trans ?_
  unfold b__law_walk
  have hix : ixop (grD c E) (nD 0) = some (nD c) := rfl
  simp [start1, hix, rg_n (show c ≤ 1000000 by omega)]
  refine for_EI (WkI c E plan lazy) (l := plan) ⟨[], List.range c, [], none, rfl, rfl, List.nodup_range, fun x hx => List.mem_range.mp hx, by simp, hp, by simp⟩ ?_ ?_
  · rintro s rest ρ ⟨stand, poss, found, y, q, e1, e2, e3, e4, e5, e6⟩
    subst q
    refine ⟨_, rfl, ?_⟩
    have hN := h c E lazy stand poss s hc hE e4 e2 e3
    rw [List.length_cons] at e6
    simp [wkE, hN]
    rw [apS_ok (ds := found.map natsT) (by rfl) (by rw [List.length_map]; omega)]
    simp
    refine ⟨s, nextL c E lazy stand poss s, found ++ [nextL c E lazy stand poss s], some (false, natsT s), by simp [wkE], ?_, (nextL_asc ..).nodup, fun x hx => (mem_nextL.mp hx).1, e5 s (by simp), fun t ht => e5 t (by simp [ht]), by simp; omega⟩
    rw [← e1, walkN]; simp
  · rintro ρ ⟨stand, poss, found, y, q, e1, e2, e3, e4, e5, e6⟩
    subst q
    simp [walkN] at e1
    simp [wkE, e1]
def SWalk (Φ : Calls) : Prop := ∀ c E lazy plan, c ≤ 8 → EOk c E → (∀ s ∈ plan, s.length ≤ 1000) → plan.length ≤ 1000 → Φ "_law_walk" [grD c E, .tuple (plan.map natsT), runD lazy] = .ok (.list ((walkN c E lazy [] (List.range c) plan).map natsT))
/-- nothing is possible that was not before, and nothing at the end -/
def Falls : List Nat → List (List Nat) → Bool
  | before, [] => decide (before = [])
  | before, p :: ps => decide (∀ x ∈ p, x ∈ before) && Falls p ps
theorem filter_nil_iff {l : List Nat} {p : Nat → Bool} : l.filter p = [] ↔ ∀ x ∈ l, p x = false := by
  rw [List.filter_eq_nil_iff]
  simp
theorem law_catches_run {Φ : Calls} (h : SWalk Φ) {c : Nat} {E : List (Nat × Nat)} {lazy : Bool} {plan : List (List Nat)} {k : Nat} (hc : c ≤ 8) (hE : EOk c E) (hp : ∀ s ∈ plan, s.length ≤ 1000) (hpl : plan.length ≤ 1000) :
    runB 4 8 b__law_catches Φ [grD c E, .tuple (plan.map natsT), runD lazy, nD k] = .ok (.bool (decide (∀ s ∈ plan, s.length ≤ k) && Falls (List.range c) (walkN c E lazy [] (List.range c) plan))) := by
  refine (run_of (by rfl)).trans ?_
  unfold b__law_catches
  have hix : ixop (grD c E) (nD 0) = some (nD c) := rfl
  simp [start1]
  rw [lc_val plan natsT natsT (fun s => decide (k < s.length))]
  rotate_left
  · simp
  · omega
  · intro a ha
    exact ⟨_, rfl, by simp [wipeE], fun _ => by simp [wipeE]⟩
  rw [Res.ok_bind, neT_L0]
  have hiff : plan.filter (fun s => decide (k < s.length)) = [] ↔ ∀ s ∈ plan, s.length ≤ k := by
    rw [List.filter_eq_nil_iff]; simp
  by_cases hz : ∀ s ∈ plan, s.length ≤ k
  · have hz2 := hiff.mpr hz
    have hW := h c E lazy plan hc hE hp hpl
    simp [hz2, hix, rg_n (show c ≤ 1000000 by omega), hW]
    rw [show decide (∀ s ∈ plan, s.length ≤ k) = true from decide_eq_true hz, Bool.true_and]
    refine for_EI (fun rest ρ => ∃ before y5 y6 y7, ρ = [some (false, grD c E), some (false, .tuple (plan.map natsT)), some (false, runD lazy), some (false, nD k), some (false, natsT before), y5, y6, y7] ∧ Falls before rest = Falls (List.range c) (walkN c E lazy [] (List.range c) plan) ∧ ∀ p ∈ rest, p.length ≤ 1000) (l := walkN c E lazy [] (List.range c) plan) ⟨List.range c, none, none, none, rfl, rfl, ?_⟩ ?_ ?_
    · have go : ∀ (plan : List (List Nat)) (s p : List Nat), ∀ q ∈ walkN c E lazy s p plan, q.length ≤ 1000 := by
        intro plan
        induction plan with
        | nil => intro s p q hq; simp [walkN] at hq
        | cons t plan ih =>
          intro s p q hq
          rw [walkN] at hq
          rcases List.mem_cons.mp hq with rfl | hq
          · have := nodup_len (nextL_asc c E lazy s p t).nodup fun x hx => (mem_nextL.mp hx).1
            omega
          · exact ih _ _ q hq
      exact go plan [] (List.range c)
    · rintro p rest ρ ⟨before, y5, y6, y7, q, e1, e2⟩
      subst q
      refine ⟨_, rfl, ?_⟩
      simp
      rw [lc_val p nD nD (fun x => !decide (x ∈ before))]
      rotate_left
      · simp
      · have := e2 p (by simp); omega
      · intro a ha
        exact ⟨_, rfl, by simp [wipeE], fun _ => by simp [wipeE]⟩
      rw [Res.ok_bind, neN_L0]
      rw [Falls] at e1
      by_cases hb : ∀ x ∈ p, x ∈ before
      · have hf : p.filter (fun x => !decide (x ∈ before)) = [] := filter_nil_iff.mpr fun x hx => by simp [hb x hx]
        rw [decide_eq_true hb, Bool.true_and] at e1
        simp [hf]
        exact ⟨p, by simp, e1, fun t ht => e2 t (by simp [ht])⟩
      · have hf : ¬ p.filter (fun x => !decide (x ∈ before)) = [] := fun z => hb fun x hx => by simpa using filter_nil_iff.mp z x hx
        rw [decide_eq_false hb, Bool.false_and] at e1
        simp [hf, ← e1]
    · rintro ρ ⟨before, y5, y6, y7, q, e1, e2⟩
      subst q
      simp [eqN_T0, ← e1, Falls]
  · have hz2 : ¬ plan.filter (fun s => decide (k < s.length)) = [] := fun z => hz (hiff.mp z)
    simp [hz2, hz]
def beE (c : Nat) (E : List (Nat × Nat)) (front due : List Nat) (y3 y4 : Option (Bool × D)) : Env := [some (false, grD c E), some (false, natsT front), some (true, natsL due), y3, y4]
theorem law_border_run (Φ : Calls) {c : Nat} {E : List (Nat × Nat)} {front : List Nat} (hlen : E.length ≤ 64) : ∃ due, runB 2 5 b__law_border Φ [grD c E, natsT front] = .ok (natsL due) ∧ BdL E front [] due := by
  suffices h : ∃ due, endR (exs b__law_border Φ (start1 5 [grD c E, natsT front])) = .ok (natsL due) ∧ BdL E front [] due by
    obtain ⟨l, e, h⟩ := h
    exact ⟨l, (run_of (by rfl)).trans e, h⟩
  unfold b__law_border
  have hix1 : ixop (grD c E) (nD 1) = some (.tuple (E.map edgeD)) := rfl
  simp [start1, hix1]
  refine for_gen (fun r => ∃ due, endR r = .ok (natsL due) ∧ BdL E front [] due) (fun rest ρ => ∃ due y3 y4, ρ = beE c E front due y3 y4 ∧ BdL E front rest due) ?_ ?_ E _ ⟨[], none, none, rfl, BdL.start⟩
  · rintro ⟨x, y⟩ es ρ ⟨due, z3, z4, q, hB⟩
    subst q
    have hBl := hB.len
    rw [List.length_cons] at hBl
    refine ⟨_, rfl, ?_⟩
    have happ : ∀ z (due : List Nat), due.length ≤ 1000 → apS 2 (beE c E front due (some (false, nD x)) (some (false, nD y))) (.ok (nD z)) = .nx (beE c E front (due ++ [z]) (some (false, nD x)) (some (false, nD y))) := fun z due hd => by
      rw [apS_ok (ds := due.map nD) (by rfl) (by rw [List.length_map]; omega)]
      simp [beE]
    have fin : ∀ due2 : List Nat, BdL E front es due2 → ∃ due y3 y4, beE c E front due2 (some (false, nD x)) (some (false, nD y)) = beE c E front due y3 y4 ∧ BdL E front es due := fun due2 h => ⟨due2, _, _, rfl, h⟩
    simp only [beE] at happ fin
    by_cases p1 : x ∈ front
    · by_cases p2 : y ∈ front
      · have := fin due (hB.step (fun _ h => h) (fun _ h => .inl h) (fun _ h => absurd p2 h) (fun _ h => absurd p1 h) (by omega))
        simp [beE, p1, p2] at this ⊢
        exact this
      · have := fin (due ++ [x]) (hB.step (fun _ h => List.mem_append_left _ h) (fun z h => by
          rcases List.mem_append.mp h with h | h
          · exact .inl h
          · exact .inr (.inl ⟨by simpa using h, p1, p2⟩)) (fun _ _ => by simp) (fun h => absurd h p2) (by simp))
        simp [beE, p1, p2, happ x due (by omega)] at this ⊢
        exact this
    · by_cases p2 : y ∈ front
      · have := fin (due ++ [y]) (hB.step (fun _ h => List.mem_append_left _ h) (fun z h => by
          rcases List.mem_append.mp h with h | h
          · exact .inl h
          · exact .inr (.inr ⟨by simpa using h, p2, p1⟩)) (fun h => absurd h p1) (fun _ _ => by simp) (by simp))
        simp [beE, p1, p2, happ y due (by omega)] at this ⊢
        exact this
      · have := fin due (hB.step (fun _ h => h) (fun _ h => .inl h) (fun h => absurd h p1) (fun h => absurd h p2) (by omega))
        simp [beE, p1, p2] at this ⊢
        exact this
  · rintro ρ ⟨due, z3, z4, q, hB⟩
    subst q
    exact ⟨due, by simp [beE], hB⟩
def SLBorder (Φ : Calls) : Prop := ∀ c E front, E.length ≤ 64 → ∃ due, Φ "_law_border" [grD c E, natsT front] = .ok (natsL due) ∧ BdL E front [] due
def SCatch (Φ : Calls) : Prop := ∀ c E lazy plan k, c ≤ 8 → EOk c E → (∀ s ∈ plan, s.length ≤ 1000) → plan.length ≤ 1000 → Φ "_law_catches" [grD c E, .tuple (plan.map natsT), runD lazy, nD k] = .ok (.bool (decide (∀ s ∈ plan, s.length ≤ k) && Falls (List.range c) (walkN c E lazy [] (List.range c) plan)))
def SLineNeed (Φ : Calls) : Prop := ∀ c E l, c ≤ 8 → EOk c E → (∀ x ∈ l, x < c) → Φ "line_need" [grD c E, natsT l] = .ok (nD (costN (wLine c E) 0 l))
def SPlanL (Φ : Calls) : Prop := ∀ c E l, c ≤ 8 → EOk c E → (∀ x ∈ l, x < c) → l.length ≤ 1000 → Φ "plan_of_line" [grD c E, natsT l] = .ok (.tuple ((planN c E [] l).map natsT))

/-! ### the plan of a line catches -/
def compN (c : Nat) (pre : List Nat) : List Nat := (List.range c).filter fun v => !decide (v ∈ pre)
theorem mem_compN {c : Nat} {pre : List Nat} {v : Nat} : v ∈ compN c pre ↔ v < c ∧ v ∉ pre := by
  unfold compN; rw [List.mem_filter, List.mem_range]; simp
theorem compN_asc (c : Nat) (pre : List Nat) : Asc (compN c pre) := (range_asc c).filter _
def compsN (c : Nat) : List Nat → List Nat → List (List Nat)
  | _, [] => []
  | pre, v :: suf => compN c (pre ++ [v]) :: compsN c (pre ++ [v]) suf
theorem mem_standN {c : Nat} {E : List (Nat × Nat)} (hE : EOk c E) {pre : List Nat} {v x : Nat} (hv : v < c) : x ∈ standN c E pre v ↔ x = v ∨ (x < c ∧ x ∈ pre ∧ ∃ u, adj E x u ∧ u ∉ pre) := by
  unfold standN
  rw [mem_bitsN, Nat.testBit_or, Bool.or_eq_true, test_2pow, test_maskN, mem_border_mask hE]
  constructor
  · rintro ⟨a, b | b⟩
    · exact .inr b
    · exact .inl b
  · rintro (rfl | b)
    · exact ⟨hv, .inr rfl⟩
    · exact ⟨b.1, .inl b⟩
theorem next_line {c : Nat} {E : List (Nat × Nat)} (hE : EOk c E) {pre stand : List Nat} {v : Nat} (hv : v < c) (hs : ∀ b u, b < c → b ∈ pre → adj E b u → u ∉ pre → b ∈ stand) : nextL c E false stand (compN c pre) (standN c E pre v) = compN c (pre ++ [v]) := by
  refine asc_eq (nextL_asc ..) (compN_asc ..) fun x => ?_
  rw [mem_nextL, mem_compN (pre := pre ++ [v])]
  constructor
  · rintro ⟨a, b, d⟩
    rw [mem_standN hE hv] at b
    refine ⟨a, fun hx => ?_⟩
    have hxv : x ≠ v := fun e => b (.inl e)
    have hxp : x ∈ pre := by
      rcases List.mem_append.mp hx with h | h
      · exact h
      · exact absurd (by simpa using h) hxv
    rcases d with d | d
    · exact (mem_compN.mp d).2 hxp
    · have key : ∀ x, Conn E (fun x => x < c ∧ ¬ (x ∈ stand ∧ x ∈ standN c E pre v)) (fun x => (x ∈ compN c pre ∧ (false = true → x ∈ standN c E pre v)) ∧ ¬ (x ∈ stand ∧ x ∈ standN c E pre v)) x → x ∉ pre := fun x h => by
        induction h with
        | base h => exact (mem_compN.mp h.1.1).2
        | @step u w _ a1 b1 ih =>
          intro hw
          exact b1.2 ⟨hs w u b1.1 hw (adj_symm a1) ih, (mem_standN hE hv).mpr (.inr ⟨b1.1, hw, u, adj_symm a1, ih⟩)⟩
      exact key x d hxp
  · rintro ⟨a, b⟩
    have h1 : x ∉ pre := fun h => b (List.mem_append_left _ h)
    have h2 : x ≠ v := fun h => b (by simp [h])
    refine ⟨a, ?_, .inl (mem_compN.mpr ⟨a, h1⟩)⟩
    rw [mem_standN hE hv]
    rintro (h | ⟨_, h, _⟩)
    · exact h2 h
    · exact h1 h
theorem walk_line {c : Nat} {E : List (Nat × Nat)} (hE : EOk c E) : ∀ (suf pre stand : List Nat), (∀ x ∈ suf, x < c) → (∀ b u, b < c → b ∈ pre → adj E b u → u ∉ pre → b ∈ stand) → walkN c E false stand (compN c pre) (planN c E pre suf) = compsN c pre suf
  | [], _, _, _, _ => rfl
  | v :: suf, pre, stand, hl, hs => by
    have hv := hl v (by simp)
    have hn := next_line hE hv hs
    rw [planN, walkN, compsN, hn]
    congr 1
    refine walk_line hE suf (pre ++ [v]) (standN c E pre v) (fun x hx => hl x (by simp [hx])) fun b u hb h1 h2 h3 => ?_
    rw [mem_standN hE hv]
    rcases List.mem_append.mp h1 with h | h
    · exact .inr ⟨hb, h, u, h2, fun z => h3 (List.mem_append_left _ z)⟩
    · exact .inl (by simpa using h)
theorem compN_nil (c : Nat) : compN c [] = List.range c := by
  unfold compN
  rw [List.filter_eq_self]; simp
theorem falls_line {c : Nat} : ∀ (suf pre : List Nat), (∀ x, x < c → x ∈ pre ∨ x ∈ suf) → Falls (compN c pre) (compsN c pre suf) = true
  | [], pre, h => by
    rw [compsN, Falls, decide_eq_true_iff, List.eq_nil_iff_forall_not_mem]
    intro x hx
    obtain ⟨a, b⟩ := mem_compN.mp hx
    rcases h x a with q | q
    · exact b q
    · simp at q
  | v :: suf, pre, h => by
    rw [compsN, Falls, Bool.and_eq_true, decide_eq_true_iff]
    refine ⟨fun x hx => ?_, falls_line suf (pre ++ [v]) fun x hx => ?_⟩
    · obtain ⟨a, b⟩ := mem_compN.mp hx
      exact mem_compN.mpr ⟨a, fun z => b (List.mem_append_left _ z)⟩
    · rcases h x hx with q | q
      · exact .inl (List.mem_append_left _ q)
      · rcases List.mem_cons.mp q with rfl | q
        · exact .inl (by simp)
        · exact .inr q
theorem compsN_get (c : Nat) : ∀ (suf pre : List Nat) (i : Nat) (h : i < suf.length), (compsN c pre suf)[i]? = some (compN c (pre ++ suf.take (i + 1)))
  | v :: suf, pre, 0, _ => by simp [compsN]
  | v :: suf, pre, i + 1, h => by
    have h' : i < suf.length := by simpa using h
    rw [compsN, List.getElem?_cons_succ, compsN_get c suf (pre ++ [v]) i h']
    simp
theorem stand_size {c : Nat} {E : List (Nat × Nat)} {pre : List Nat} {v : Nat} (hv : v < c) (hn : v ∉ pre) : (standN c E pre v).length = 1 + (borderN c (rowsN c E) (maskN pre)).length := by
  have hb : v ∉ borderN c (rowsN c E) (maskN pre) := fun h => hn (by
    have := (mem_bitsN.mp (List.mem_filter.mp h).1).2
    exact test_maskN.mp this)
  have hnd : (v :: borderN c (rowsN c E) (maskN pre)).Nodup := List.nodup_cons.mpr ⟨hb, Asc.nodup ((bits_asc _ _).filter _)⟩
  unfold standN
  rw [len_of_mem (bits_asc _ _).nodup hnd (fun x => ?_), List.length_cons, Nat.add_comm]
  rw [mem_bitsN, Nat.testBit_or, Bool.or_eq_true, test_2pow, test_maskN, List.mem_cons]
  constructor
  · rintro ⟨a, b | b⟩
    · exact .inr b
    · exact .inl b
  · rintro (rfl | b)
    · exact ⟨hv, .inr rfl⟩
    · exact ⟨(mem_bitsN.mp (List.mem_filter.mp b).1).1, .inl b⟩
theorem plan_size {c : Nat} {E : List (Nat × Nat)} : ∀ (suf pre : List Nat), (∀ x ∈ suf, x < c) → (pre ++ suf).Nodup → ∀ s ∈ planN c E pre suf, s.length ≤ costN (wLine c E) (maskN pre) suf
  | [], _, _, _, s, hs => by simp [planN] at hs
  | v :: suf, pre, hl, hn, s, hs => by
    have hvp : v ∉ pre := fun h => by
      have := (List.nodup_append.mp hn).2.2 v h v (by simp)
      exact this rfl
    rw [planN] at hs
    show _ ≤ max (wLine c E _ _) _
    rcases List.mem_cons.mp hs with rfl | hs
    · rw [stand_size (hl v (by simp)) hvp]
      exact Nat.le_max_left _ _
    · have := plan_size suf (pre ++ [v]) (fun x hx => hl x (by simp [hx])) (by simpa using hn) s hs
      rw [maskN_app] at this
      exact Nat.le_trans this (Nat.le_max_right _ _)
end Pv

end
section
namespace Pv
open PySem

/-! ### k12 -/
def k12E (s v g l n p w : D) (y1 y2 y9 : Option (Bool × D)) : Env := [some (false, s), y1, y2, some (false, v), some (false, g), some (false, l), some (false, n), some (false, p), some (false, w), y9]
def LwK (s : D) (rest : List (Int × Nat)) (ρ : Env) : Prop := ∃ (y1 y2 y3 y4 y5 y6 y7 y8 y9 : Option (Bool × D)), ρ = [some (false, s), y1, y2, y3, y4, y5, y6, y7, y8, y9]
theorem cost_pos {c : Nat} {E : List (Nat × Nat)} {l : List Nat} (h : l ≠ []) : 1 ≤ costN (wLine c E) 0 l := by
  cases l with
  | nil => exact absurd rfl h
  | cons v l => show 1 ≤ max (1 + _) _; omega
theorem neT_len {n : Nat} {l : List (List Nat)} : bltop .len [.tuple (l.map natsT)] = some (nD l.length) := by rw [blt_lenT, List.length_map]
theorem k12_run {Φ : Calls} (h1 : SMixed Φ) (h2 : SGraph Φ) (h3 : SOrder Φ) (h4 : SLineNeed Φ) (h5 : SLNeed Φ) (h6 : SPlanL Φ) (h7 : SCatch Φ) (h8 : SWalk Φ) (h9 : SLBorder Φ) (ns : List Int) (hn : ns.length ≤ 63) : runB 1 10 b_law_v30 Φ [scrD ns] = .ok (.bool true) := by
  refine (run_of (by rfl)).trans ?_
  unfold b_law_v30
  have hcut' : slop (scrD ns) none (some 8) = some (.list ((ns.take 8).map PyData.int)) := by
    have : slop (.list (ns.map PyData.int)) none (some ((8 : Nat) : Int)) = some (.list ((ns.take 8).map PyData.int)) := by rw [cut_take, List.map_take]
    exact this
  simp [start1, hcut', -List.map_take]
  rw [enum_map]
  refine for_EI (LwK (scrD ns)) ⟨none, none, none, none, none, none, none, none, none, rfl⟩ ?_ ?_
  · rintro ⟨cell, turn⟩ rest ρ ⟨y1, y2, y3, y4, y5, y6, y7, y8, y9, q⟩
    subst q
    refine ⟨_, rfl, ?_⟩
    obtain ⟨v, e1⟩ := h1 cell turn
    obtain ⟨c, E, e2, c1, c8, g⟩ := h2 (v / 9) 8 (by omega) (by omega)
    obtain ⟨l, e3, lp⟩ := h3 v c (by omega)
    obtain ⟨ll, llen⟩ := perm_lt lp
    have lnd : l.Nodup := lp.nodup_iff.mpr List.nodup_range
    have e4 := h4 c E l c8 g.e ll
    have e5 := h5 c E l c8 g.e g.len ll (by omega)
    have hpos : 1 ≤ costN (wLine c E) 0 l := cost_pos (by intro z; rw [z] at llen; simp at llen; omega)
    have e5' : lineNeed c E l = costN (wLine c E) 0 l := by unfold lineNeed; omega
    rw [e5'] at e5
    have e6 := h6 c E l c8 g.e ll (by omega)
    have hW : walkN c E false [] (List.range c) (planN c E [] l) = compsN c [] l := by
      have := walk_line g.e l [] [] ll (by simp)
      rwa [compN_nil] at this
    have hsz : ∀ s ∈ planN c E [] l, s.length ≤ costN (wLine c E) 0 l := plan_size l [] ll (by simpa using lnd)
    have hsz2 : ∀ s ∈ planN c E [] l, s.length ≤ 1000 := fun s hs => by
      have : ∀ (suf pre : List Nat), ∀ s ∈ planN c E pre suf, s.length ≤ c := by
        intro suf
        induction suf with
        | nil => intro pre s hs; simp [planN] at hs
        | cons w suf ih =>
          intro pre s hs
          rw [planN] at hs
          rcases List.mem_cons.mp hs with rfl | hs
          · exact nodup_len (bits_asc _ _).nodup fun x hx => (mem_bitsN.mp hx).1
          · exact ih _ s hs
      have := this l [] s hs
      omega
    have e7 := h7 c E false (planN c E [] l) (costN (wLine c E) 0 l) c8 g.e hsz2 (by rw [planN_len]; omega)
    have e8 := h8 c E false (planN c E [] l) c8 g.e hsz2 (by rw [planN_len]; omega)
    have hF : Falls (List.range c) (compsN c [] l) = true := by
      have := falls_line (c := c) l [] (fun x hx => .inr (lp.mem_iff.mpr (List.mem_range.mpr hx)))
      rwa [compN_nil] at this
    rw [hW, hF, decide_eq_true hsz] at e7
    rw [hW] at e8
    have e7 : Φ "_law_catches" [grD c E, .tuple ((planN c E [] l).map natsT), .str "unseen", nD (costN (wLine c E) 0 l)] = .ok (.bool true) := e7
    have e8 : Φ "_law_walk" [grD c E, .tuple ((planN c E [] l).map natsT), .str "unseen"] = .ok (.list ((compsN c [] l).map natsT)) := e8
    have hix : ixop (grD c E) (nD 0) = some (nD c) := rfl
    have hlen : (planN c E [] l).length = c := by rw [planN_len, llen]
    have isb : isiop .bool (nD (costN (wLine c E) 0 l)) = false := rfl
    have ist : isiop .tuple (.tuple ((planN c E [] l).map natsT)) = true := rfl
    simp [e1, bin_div, e2, hix, e3, e4, e5, isb, e6, ist, hlen, e7, e8, rng_n (show c ≤ 1000000 by omega)]
    refine for_AI (fun rest ρ => ∃ y9, ρ = k12E (scrD ns) (nD v) (grD c E) (natsT l) (nD (costN (wLine c E) 0 l)) (.tuple ((planN c E [] l).map natsT)) (.list ((compsN c [] l).map natsT)) (some (false, nD turn)) (some (false, .int cell)) y9 ∧ ∀ x ∈ rest, x < c) (l := List.range c) ⟨y9, rfl, fun x hx => List.mem_range.mp hx⟩ ?_ ?_
    · rintro k rest ρ ⟨z9, q, hk⟩
      subst q
      have hkc := hk k (by simp)
      have hkl : k < l.length := by omega
      refine ⟨_, rfl, ?_⟩
      obtain ⟨due, e9, hB⟩ := h9 c E (l.take k) g.len
      have hBl := hB.len
      have hv := ll l[k] (List.getElem_mem hkl)
      have hnp : l[k] ∉ l.take k := fun h => by
        obtain ⟨j, hj, e⟩ := List.getElem_of_mem h
        rw [List.getElem_take] at e
        rw [List.length_take] at hj
        have := (List.getElem_inj lnd).mp e
        omega
      have gl : (l.map nD)[k]? = some (nD l[k]) := by rw [List.getElem?_map, List.getElem?_eq_getElem hkl]; rfl
      have gp : ((planN c E [] l).map natsT)[k]? = some (natsT (standN c E (l.take k) l[k])) := by rw [List.getElem?_map, planN_get c E l [] k hkl]; rfl
      have gw : ((compsN c [] l).map natsT)[k]? = some (natsT (compN c (l.take (k + 1)))) := by rw [List.getElem?_map, compsN_get c l [] k hkl]; rfl
      have hglen := g.len
      have hss : ssR (natsL (due ++ [l[k]])) = .ok (natsL (standN c E (l.take k) l[k])) := by
        refine ssR_n (bits_asc _ _) (fun x => ?_) (by simp at hBl ⊢; omega) ?_
        · rw [mem_standN g.e hv, List.mem_append, List.mem_singleton]
          have := hB.fin g.e (fun x hx => ll x (List.mem_of_mem_take hx)) x
          rw [this, mem_border_mask g.e]
          constructor
          · rintro (h | ⟨a, b⟩)
            · exact .inr h
            · exact .inl ⟨a, b⟩
          · rintro (⟨a, b⟩ | h)
            · exact .inr ⟨a, b⟩
            · exact .inl h
        · have := nodup_len (bits_asc c (maskN (borderN c (rowsN c E) (maskN (l.take k))) ||| 2 ^ l[k])).nodup fun x hx => (mem_bitsN.mp hx).1
          unfold standN
          omega
      have hcat : binop .Add (natsL due) (.list [nD l[k]]) = some (natsL (due ++ [l[k]])) := by
        simp at hBl
        rw [show natsL due = .list (due.map nD) from rfl, cat_l _ _ (by simp; omega)]; simp
      have hsort : ((l.drop (k + 1)).mergeSort fun a b => decide (a ≤ b)) = compN c (l.take (k + 1)) := by
        refine asc_eq (sort_asc (List.Nodup.sublist (List.drop_sublist _ _) lnd)) (compN_asc _ _) fun x => ?_
        rw [List.mem_mergeSort, mem_compN]
        have hap : l.take (k + 1) ++ l.drop (k + 1) = l := List.take_append_drop _ _
        constructor
        · intro hx
          refine ⟨ll x (List.mem_of_mem_drop hx), fun h => ?_⟩
          rw [← hap] at lnd
          exact (List.nodup_append.mp lnd).2.2 x h x hx rfl
        · rintro ⟨a, b⟩
          have : x ∈ l := lp.mem_iff.mpr (List.mem_range.mpr a)
          rw [← hap] at this
          exact (List.mem_append.mp this).resolve_left b
      have c1 := cut_tN l k
      have c2 : slop (natsT l) (some ((k : Int) + 1)) none = some (natsT (l.drop (k + 1))) := by
        have := cut_dN l (k + 1)
        rwa [Int.natCast_add] at this
      simp [k12E, gp, c1, e9, gl, hcat, hss, neN_T, gw, c2, sorted_nT, hsort, -List.getElem?_map, -List.map_take, -List.map_drop]
      exact fun x hx => hk x (by simp [hx])
    · rintro ρ ⟨z9, q, hk⟩
      subst q
      simp [k12E, LwK]
  · rintro ρ ⟨y1, y2, y3, y4, y5, y6, y7, y8, y9, q⟩
    subst q
    simp
end Pv

end
section
namespace Pv
open PySem

/-! ### best_order -/
noncomputable def wOrd (c : Nat) (E : List (Nat × Nat)) (g v : Nat) : Nat := 1 + (bitsN c (beyM c E (bitP g) v)).length
def boE (r : D) (needs lasts : List Nat) (m o n p d : Option (Bool × D)) : Env := [some (false, r), some (true, natsL needs), some (true, natsL lasts), m, o, n, p, d]
def BoI (c : Nat) (E : List (Nat × Nat)) (rest : List Nat) (ρ : Env) : Prop := ∃ (k : Nat) (needs lasts : List Nat) (y3 y4 y5 y6 y7 : Option (Bool × D)), ρ = boE (natsL (rowsN c E)) needs lasts y3 y4 y5 y6 y7
  ∧ rest = List.range' k (2 ^ c - k) ∧ 0 < k ∧ k ≤ 2 ^ c ∧ DpOk (wOrd c E) needs lasts k
def BoJ (c : Nat) (E : List (Nat × Nat)) (needs lasts : List Nat) (m : Nat) (done rest : List Nat) (ρ : Env) : Prop := ∃ (opts : List (Nat × Nat)) (y5 y6 y7 : Option (Bool × D)), ρ = boE (natsL (rowsN c E)) needs lasts (some (false, nD m)) (some (true, .list (opts.map edgeD))) y5 y6 y7
  ∧ bitsN c m = done ++ rest ∧ opts = done.map (optN (wOrd c E) needs m)
theorem needs_run {Φ : Calls} {c : Nat} {E : List (Nat × Nat)} (hE : EOk c E) (h2 : SNodes Φ c) (h3 : SBeyond Φ c E) (h4 : SSize Φ c) (hc : c ≤ 16) :
    ∃ needs lasts : List Nat, runB 1 8 b_needs_by_gone Φ [natsL (rowsN c E)] = .ok (.tuple [natsL needs, natsL lasts]) ∧ DpOk (wOrd c E) needs lasts (2 ^ c) := by
  suffices h : ∃ needs lasts : List Nat, endR (exs b_needs_by_gone Φ (start1 8 [natsL (rowsN c E)])) = .ok (.tuple [natsL needs, natsL lasts]) ∧ DpOk (wOrd c E) needs lasts (2 ^ c) by
    obtain ⟨n, l, e, h⟩ := h
    exact ⟨n, l, (run_of (by rfl)).trans e, h⟩
  unfold b_needs_by_gone
  have hp : 2 ^ c ≤ 2 ^ 16 := Nat.pow_le_pow_right (by decide) hc
  have hp2 : (2 : Nat) ^ 16 = 65536 := by decide
  have hpos := Nat.two_pow_pos c
  have hrl : (rowsN c E).length = c := (rowsN_ok hE).1
  simp [start1, hrl, bin_shl (show c ≤ 1000000 by omega), rng2_n (show 2 ^ c ≤ 1000000 by omega) (show 1 ≤ 1000000 by omega)]
  refine for_gen (fun r => ∃ needs lasts : List Nat, endR r = .ok (.tuple [natsL needs, natsL lasts]) ∧ DpOk (wOrd c E) needs lasts (2 ^ c)) (BoI c E) ?_ ?_ _ _ ⟨1, [0], [0], none, none, none, none, none, rfl, rfl, by omega, by omega, DpOk.one _⟩
  · rintro m rest ρ ⟨k, needs, lasts, y3, y4, y5, y6, y7, q, hrest, k0, k1, d⟩
    obtain ⟨rfl, hk, hrest⟩ := range'_cons hrest.symm
    have hm : m < 2 ^ c := by omega
    subst q
    refine ⟨_, rfl, ?_⟩
    simp [boE, h2 m hm]
    refine for_AI (fun rest ρ => ∃ done, BoJ c E needs lasts m done rest ρ) (l := bitsN c m) ⟨[], [], y5, y6, y7, rfl, by simp, rfl⟩ ?_ ?_
    · rintro v es ρ ⟨done, opts, z5, z6, z7, q, e1, e2⟩
      subst q
      have hv : v ∈ bitsN c m := by rw [e1]; simp
      obtain ⟨v1, v2⟩ := mem_bitsN.mp hv
      have hlt := dif_lt_self v2
      have hdl : dif m (2 ^ v) < 2 ^ c := by omega
      refine ⟨_, rfl, ?_⟩
      have g1 : (needs.map nD)[dif m (2 ^ v)]? = some (nD (needs[dif m (2 ^ v)]?.getD 0)) := get_nD (by rw [d.ln]; exact hlt)
      have hbl : beyM c E (bitP (dif m (2 ^ v))) v < 2 ^ c := maskP_lt
      have happ : ∀ z6, apS 4 (boE (natsL (rowsN c E)) needs lasts (some (false, nD m)) (some (true, .list (opts.map edgeD))) (some (false, nD v)) z6 z7) (.ok (edgeD (optN (wOrd c E) needs m v))) = .nx (boE (natsL (rowsN c E)) needs lasts (some (false, nD m)) (some (true, .list ((opts ++ [optN (wOrd c E) needs m v]).map edgeD))) (some (false, nD v)) z6 z7) := fun z6 => by
        rw [apS_ok (ds := opts.map edgeD) (by rfl) ?_]
        · simp [boE]
        · have := nodup_len (bits_asc c m).nodup fun x hx => (mem_bitsN.mp hx).1
          rw [List.length_map, e2, List.length_map]
          have e3 := congrArg List.length e1
          rw [List.length_append] at e3
          omega
      simp only [boE, edgeD, optN, wOrd] at happ
      simp [boE, bin_shl (show v ≤ 1000000 by omega), h3 _ v hdl v1, h4 _ hbl, g1, happ]
      refine ⟨done ++ [v], opts ++ [optN (wOrd c E) needs m v], _, _, _, by simp [boE, edgeD, optN, wOrd]; exact ⟨rfl, rfl, rfl⟩, by rw [e1]; simp, ?_⟩
      rw [e2]
      simp [optN, wOrd]
    · rintro ρ ⟨done, opts, z5, z6, z7, q, e1, e2⟩
      subst q
      rw [List.append_nil] at e1
      have hne : done ≠ [] := by
        obtain ⟨v, hv⟩ := ne_zero_test (show m ≠ 0 by omega)
        rw [← e1]
        exact List.ne_nil_of_mem (mem_bitsN.mpr ⟨lt_of_test hm hv, hv⟩)
      obtain ⟨a, r, hopts⟩ : ∃ a r, opts = a :: r := by
        cases done with
        | nil => exact absurd rfl hne
        | cons x xs => exact ⟨_, _, e2⟩
      obtain ⟨s1, s2⟩ := minE_spec r a
      rw [← hopts, e2, ← e1] at s1 s2
      have d2 := d.step (c := c) k0 hm s1 s2
      subst hopts
      have hmin : bltop .min [.list ((a :: r).map edgeD)] = some (edgeD (minE a r)) := min_e a r
      have ap2 : ∀ z5 z7, apS 1 (boE (natsL (rowsN c E)) needs lasts (some (false, nD m)) (some (true, .list ((a :: r).map edgeD))) z5 z6 z7) (.ok (nD (minE a r).1)) = .nx (boE (natsL (rowsN c E)) (needs ++ [(minE a r).1]) lasts (some (false, nD m)) (some (true, .list ((a :: r).map edgeD))) z5 z6 z7) := fun z5 z7 => by
        rw [apS_ok (ds := needs.map nD) (by rfl) (by rw [List.length_map, d.ln]; omega)]
        simp [boE]
      have ap3 : ∀ needs z5 z7, apS 2 (boE (natsL (rowsN c E)) needs lasts (some (false, nD m)) (some (true, .list ((a :: r).map edgeD))) z5 z6 z7) (.ok (nD (minE a r).2)) = .nx (boE (natsL (rowsN c E)) needs (lasts ++ [(minE a r).2]) (some (false, nD m)) (some (true, .list ((a :: r).map edgeD))) z5 z6 z7) := fun needs z5 z7 => by
        rw [apS_ok (ds := lasts.map nD) (by rfl) (by rw [List.length_map, d.ll]; omega)]
        simp [boE]
      simp only [boE] at ap2 ap3
      have hmin2 : bltop .min [.list (edgeD a :: r.map edgeD)] = some (.tuple [nD (minE a r).1, nD (minE a r).2]) := hmin
      simp at ap2 ap3
      simp [boE, hmin2, asgS]
      rw [ap2]
      simp
      rw [ap3]
      simp
      exact ⟨m + 1, _, _, _, _, _, _, _, rfl, by rw [hrest]; congr 1, by omega, by omega, d2⟩
  · rintro ρ ⟨k, needs, lasts, y3, y4, y5, y6, y7, q, hrest, k0, k1, d⟩
    have hk : k = 2 ^ c := by
      have := congrArg List.length hrest
      simp at this
      omega
    subst hk
    subst q
    exact ⟨needs, lasts, by simp [boE], d⟩
def SNeeds (Φ : Calls) (c : Nat) (E : List (Nat × Nat)) : Prop := ∃ needs lasts : List Nat, Φ "needs_by_gone" [natsL (rowsN c E)] = .ok (.tuple [natsL needs, natsL lasts]) ∧ DpOk (wOrd c E) needs lasts (2 ^ c)
def bkE (g : D) (lasts : List Nat) (m : Nat) (L : List Nat) : Env := [some (false, g), some (false, natsL lasts), some (false, nD m), some (true, natsL L)]
theorem best_order_run {Φ : Calls} {c : Nat} {E : List (Nat × Nat)} (h1 : SRows Φ c E) (h2 : SNeeds Φ c E) (h5 : SAll Φ c E) (hc : c ≤ 16) :
    ∃ l : List Nat, runB 1 4 b_best_order Φ [grD c E] = .ok (natsT l) ∧ l.Perm (List.range c) ∧ ∀ o : List Nat, o.Perm (List.range c) → costN (wOrd c E) 0 l ≤ costN (wOrd c E) 0 o := by
  suffices h : ∃ l : List Nat, endR (exs b_best_order Φ (start1 4 [grD c E])) = .ok (natsT l) ∧ l.Perm (List.range c) ∧ ∀ o : List Nat, o.Perm (List.range c) → costN (wOrd c E) 0 l ≤ costN (wOrd c E) 0 o by
    obtain ⟨l, e, h⟩ := h
    exact ⟨l, (run_of (by rfl)).trans e, h⟩
  unfold b_best_order
  have hR : Φ "neighbour_masks" [grD c E] = .ok (natsL (rowsN c E)) := h1
  have hA : Φ "all_nodes" [grD c E] = .ok (nD (2 ^ c - 1)) := h5
  have hp : 2 ^ c ≤ 2 ^ 16 := Nat.pow_le_pow_right (by decide) hc
  have hp2 : (2 : Nat) ^ 16 = 65536 := by decide
  obtain ⟨needs, lasts, hN, d⟩ := h2
  simp [start1, hR, hA, hN]
  refine while_gen (fun r => ∃ l : List Nat, endR r = .ok (natsT l) ∧ l.Perm (List.range c) ∧ ∀ o : List Nat, o.Perm (List.range c) → costN (wOrd c E) 0 l ≤ costN (wOrd c E) 0 o) (fun n ρ => ∃ m L, ρ = bkE (grD c E) lasts m L ∧ BackOk (wOrd c E) needs c m L ∧ m ≤ n) ?_ FUEL (2 ^ c - 1) _ (by show _ < 1000000; omega) ⟨_, [], rfl, BackOk.start, Nat.le_refl _⟩
  rintro n ρ ⟨m, L, q, hB, hn⟩
  subst q
  refine ⟨!(m == 0), by simp [bkE], fun hb => ?_, fun hb => ?_⟩
  · have hm0 : m ≠ 0 := by simpa using hb
    have hlt : m < 2 ^ c := hB.lt
    have st := hB.step d hm0
    obtain ⟨a1, _⟩ := d.at_ m (by omega) hlt
    have hv := lt_of_test hlt a1
    have g1 : (lasts.map nD)[m]? = some (nD (lasts[m]?.getD 0)) := get_nD (by rw [d.ll]; exact hlt)
    have hll := nodup_len st.nd fun x hx => (st.al x).mpr (.inr hx)
    rw [List.length_append] at hll
    refine ⟨by omega, ?_⟩
    have happ : apS 3 (bkE (grD c E) lasts m L) (.ok (nD (lasts[m]?.getD 0))) = .nx (bkE (grD c E) lasts m (L ++ [lasts[m]?.getD 0])) := by
      rw [apS_ok (ds := L.map nD) (by rfl) (by rw [List.length_map]; omega)]
      simp [bkE]
    simp only [bkE] at happ
    have hlt2 := dif_lt_self a1
    simp [bkE, g1, -List.getElem?_map, happ, bin_shl (show lasts[m]?.getD 0 ≤ 1000000 by omega)]
    exact ⟨_, L ++ [lasts[m]?.getD 0], ⟨rfl, by simp⟩, by simpa using st, by omega⟩
  · have hm0 : m = 0 := by simpa using hb
    subst hm0
    obtain ⟨f1, f2⟩ := hB.fin d
    exact ⟨L.reverse, by simp [bkE], f1, f2⟩

/-! ### the need of an order, by hand -/
theorem cost_le {w : Nat → Nat → Nat} {B : Nat} : ∀ (suf pre : List Nat), costN w (maskN pre) suf ≤ B ↔ ∀ k (h : k < suf.length), w (maskN (pre ++ suf.take k)) suf[k] ≤ B
  | [], pre => by simp [costN]
  | v :: suf, pre => by
    have ih := cost_le (w := w) (B := B) suf (pre ++ [v])
    rw [maskN_app] at ih
    show max (w (maskN pre) v) (costN w (maskN pre ||| 2 ^ v) suf) ≤ B ↔ _
    rw [Nat.max_le, ih]
    constructor
    · rintro ⟨h1, h2⟩ k hk
      cases k with
      | zero => simpa using h1
      | succ k =>
        have := h2 k (by simpa using hk)
        simpa using this
    · intro h
      have h00 := h 0 (by simp)
      refine ⟨by simpa only [List.take_zero, List.append_nil, List.getElem_cons_zero] using h00, fun k hk => ?_⟩
      have := h (k + 1) (by simpa using hk)
      simpa using this
theorem cost_le0 {w : Nat → Nat → Nat} {B : Nat} {l : List Nat} : costN w 0 l ≤ B ↔ ∀ k (h : k < l.length), w (maskN (l.take k)) l[k] ≤ B := by
  have := cost_le (w := w) (B := B) l []
  simpa [maskN] using this
theorem foldl_max_le {B : Nat} : ∀ (l : List Nat) (a : Nat), l.foldl max a ≤ B ↔ a ≤ B ∧ ∀ x ∈ l, x ≤ B
  | [], a => by simp
  | b :: l, a => by
    rw [List.foldl_cons, foldl_max_le l]
    simp [Nat.max_le, and_assoc]
theorem max_nL (a : Nat) (l : List Nat) : bltop .max [.list (nD a :: l.map nD)] = some (nD (l.foldl max a)) := by
  have h1 : alikeB ((a :: l).map nD) = true := all_imp fun x hx => all_imp fun y hy => by
    obtain ⟨p, _, rfl⟩ := List.mem_map.mp hx
    obtain ⟨q, _, rfl⟩ := List.mem_map.mp hy
    rfl
  have h2 : plainB ((a :: l).map nD) = true := all_imp fun x hx => by
    obtain ⟨p, _, rfl⟩ := List.mem_map.mp hx; rfl
  have h3 : noNone ((a :: l).map nD) = true := all_imp fun x hx => by
    obtain ⟨p, _, rfl⟩ := List.mem_map.mp hx; rfl
  rw [List.map_cons] at h1 h2 h3
  show (if alikeB (nD a :: l.map nD) && plainB (nD a :: l.map nD) && noNone (nD a :: l.map nD) then some (PySem.W.maxD (nD a) (l.map nD)) else none) = _
  rw [h1, h2, h3]
  show some (PySem.W.maxD (.int a) (l.map nD)) = _
  have e : l.map nD = (l.map fun n : Nat => (n : Int)).map PyData.int := by rw [List.map_map]; rfl
  rw [e, PySem.W.maxD_ints]
  congr 2
  clear h1 h2 h3 e
  induction l generalizing a with
  | nil => rfl
  | cons b l ih =>
    rw [List.map_cons, List.foldl_cons, List.foldl_cons, ← ih]
    congr 1
    omega
noncomputable def beyL (c : Nat) (E : List (Nat × Nat)) (o : List Nat) (k : Nat) : List Nat := bitsN c (beyM c E (bitP (maskN (o.take k))) (o[k]?.getD 0))
structure ByL (E : List (Nat × Nat)) (rch beh : List Nat) (rest : List (Nat × Nat)) (fnd : List Nat) : Prop where
  sub : ∀ e ∈ rest, e ∈ E
  ok : ∀ x ∈ fnd, x ∈ beh ∧ ∃ u, adj E u x ∧ u ∈ rch
  al : ∀ e ∈ E, e ∈ rest ∨ ((e.1 ∈ rch → e.2 ∈ beh → e.2 ∈ fnd) ∧ (e.2 ∈ rch → e.1 ∈ beh → e.1 ∈ fnd))
  len : fnd.length + 2 * rest.length ≤ 2 * E.length
theorem ByL.start {E : List (Nat × Nat)} {rch beh : List Nat} : ByL E rch beh E [] := ⟨fun _ h => h, by simp, fun e he => .inl he, by simp⟩
theorem ByL.step {E : List (Nat × Nat)} {rch beh fnd fnd2 : List Nat} {a b : Nat} {es : List (Nat × Nat)} (h : ByL E rch beh ((a, b) :: es) fnd) (k1 : ∀ x ∈ fnd, x ∈ fnd2) (k2 : ∀ x ∈ fnd2, x ∈ fnd ∨ (x = b ∧ a ∈ rch ∧ b ∈ beh) ∨ (x = a ∧ b ∈ rch ∧ a ∈ beh))
    (k3 : a ∈ rch → b ∈ beh → b ∈ fnd2) (k4 : b ∈ rch → a ∈ beh → a ∈ fnd2) (k5 : fnd2.length ≤ fnd.length + 2) : ByL E rch beh es fnd2 := by
  have hab := h.sub (a, b) (by simp)
  refine ⟨fun e he => h.sub e (by simp [he]), fun x hx => ?_, fun e he => ?_, ?_⟩
  · rcases k2 x hx with q | ⟨rfl, q1, q2⟩ | ⟨rfl, q1, q2⟩
    · exact h.ok x q
    · exact ⟨q2, a, .inl hab, q1⟩
    · exact ⟨q2, b, .inr hab, q1⟩
  · rcases h.al e he with q | q
    · rcases List.mem_cons.mp q with rfl | q
      · exact .inr ⟨k3, k4⟩
      · exact .inl q
    · exact .inr ⟨fun x y => k1 _ (q.1 x y), fun x y => k1 _ (q.2 x y)⟩
  · have := h.len
    rw [List.length_cons] at this
    omega
theorem bey_eq {c : Nat} {E : List (Nat × Nat)} {o : List Nat} (hE : EOk c E) (ho : o.Perm (List.range c)) {k : Nat} (hk : k < o.length) {fnd : List Nat} (h : ByL E (reachL c E (o.drop (k + 1)) [o[k]]) (o.drop (k + 1)) [] fnd) (x : Nat) : x ∈ fnd ↔ x ∈ beyL c E o k := by
  have ond : o.Nodup := ho.nodup_iff.mpr List.nodup_range
  obtain ⟨ol, olen⟩ := perm_lt ho
  have hap : o.take k ++ o[k] :: o.drop (k + 1) = o := by
    rw [← List.drop_eq_getElem_cons hk, List.take_append_drop]
  have nd := ond
  rw [← hap, List.nodup_append] at nd
  obtain ⟨n1, n2, n3⟩ := nd
  obtain ⟨n4, n5⟩ := List.nodup_cons.mp n2
  have hget : o[k]?.getD 0 = o[k] := by rw [List.getElem?_eq_getElem hk]; rfl
  have hgone : ∀ v, bitP (maskN (o.take k)) v ↔ v ∈ o.take k := fun v => test_maskN
  have hmem : ∀ v, v < c → (v ∈ o.take k ∨ v = o[k]) ∨ v ∈ o.drop (k + 1) := fun v hv => by
    have : v ∈ o := ho.mem_iff.mpr (List.mem_range.mpr hv)
    rw [← hap] at this
    rcases List.mem_append.mp this with q | q
    · exact .inl (.inl q)
    · rcases List.mem_cons.mp q with q | q
      · exact .inl (.inr q)
      · exact .inr q
  have hbeh : ∀ v, v ∈ o.drop (k + 1) → v < c ∧ v ∉ o.take k ∧ v ≠ o[k] := fun v hv => ⟨ol v (List.mem_of_mem_drop hv), fun q => n3 v q v (List.mem_cons_of_mem _ hv) rfl, fun q => n4 (q ▸ hv)⟩
  have hfr : frB c (o.drop (k + 1)) = fun v => v < c ∧ (bitP (maskN (o.take k)) v ∨ v = o[k]) := by
    funext v; apply propext
    rw [hgone]
    constructor
    · rintro ⟨a, b⟩
      rcases hmem v a with q | q
      · exact ⟨a, q⟩
      · exact absurd q b
    · rintro ⟨a, b⟩
      refine ⟨a, fun q => ?_⟩
      obtain ⟨_, q1, q2⟩ := hbeh v q
      rcases b with b | b
      · exact q1 b
      · exact q2 b
  have hreach : ∀ w, w ∈ reachL c E (o.drop (k + 1)) [o[k]] ↔ w < c ∧ InC E (bitP (maskN (o.take k))) o[k] w := fun w => by
    rw [mem_reachL, hfr]
    have hst : StB [o[k]] (o.drop (k + 1)) = fun y => y = o[k] := by
      funext y; apply propext
      unfold StB
      constructor
      · rintro ⟨a, _⟩; simpa using a
      · rintro rfl; exact ⟨by simp, n4⟩
    rw [hst]
    refine and_congr_right fun hw => ?_
    constructor
    · intro q
      refine inc_self.mp ?_
      exact InC.mono (g := fun v => v < c ∧ (bitP (maskN (o.take k)) v ∨ v = o[k])) (fun x hx => hx.2) q
    · intro q
      have q2 := inc_self.mpr q
      have key : ∀ w, InC E (fun y => bitP (maskN (o.take k)) y ∨ y = o[k]) o[k] w → Conn E (fun v => v < c ∧ (bitP (maskN (o.take k)) v ∨ v = o[k])) (fun y => y = o[k]) w := fun w h => by
        induction h with
        | base e => exact .base e
        | @step u w _ a b ih =>
          refine .step ih a ⟨?_, b⟩
          rcases a with a | a
          · exact (hE _ a).2
          · exact (hE _ a).1
      exact key w q2
  unfold beyL beyM
  rw [mem_bitsN, test_maskP, hget]
  constructor
  · intro hx
    obtain ⟨a, u, hu, hr⟩ := h.ok x hx
    obtain ⟨b1, b2, b3⟩ := hbeh x a
    exact ⟨b1, b1, ⟨u, ((hreach u).mp hr).2, hu⟩, fun q => b2 ((hgone x).mp q), b3⟩
  · rintro ⟨hx, _, ⟨w, q1, q2⟩, q3, q4⟩
    have hxb : x ∈ o.drop (k + 1) := by
      rcases hmem x hx with (q | q) | q
      · exact absurd ((hgone x).mpr q) q3
      · exact absurd q q4
      · exact q
    have hwc : w < c := by
      rcases q2 with q | q
      · exact (hE _ q).1
      · exact (hE _ q).2
    have hwr := (hreach w).mpr ⟨hwc, q1⟩
    rcases q2 with q | q
    · exact ((h.al _ q).resolve_left (by simp)).1 hwr hxb
    · exact ((h.al _ q).resolve_left (by simp)).2 hwr hxb
def byE (g o k n b r : D) (fnd : List Nat) (y7 y8 : Option (Bool × D)) : Env := [some (false, g), some (false, o), some (false, k), some (false, n), some (false, b), some (false, r), some (true, natsL fnd), y7, y8]
theorem law_beyond_run {Φ : Calls} (hr : SReachG Φ) {c : Nat} {E : List (Nat × Nat)} {o : List Nat} {k : Nat} (hc : c ≤ 8) (hE : EOk c E) (hlen : E.length ≤ 64) (ho : o.Perm (List.range c)) (hk : k < c) :
    runB 3 9 b__law_beyond Φ [grD c E, natsT o, nD k] = .ok (natsT (beyL c E o k)) := by
  refine (run_of (by rfl)).trans ?_
  unfold b__law_beyond
  obtain ⟨ol, olen⟩ := perm_lt ho
  have hko : k < o.length := by omega
  have hix1 : ixop (grD c E) (nD 1) = some (.tuple (E.map edgeD)) := rfl
  have gl : (o.map nD)[k]? = some (nD o[k]) := by rw [List.getElem?_map, List.getElem?_eq_getElem hko]; rfl
  have c2 : slop (natsT o) (some ((k : Int) + 1)) none = some (natsT (o.drop (k + 1))) := by
    have := cut_dN o (k + 1)
    rwa [Int.natCast_add] at this
  have hR := hr c E false true [o[k]] (o.drop (k + 1)) hc hE (by simp) (by simpa using ol o[k] (List.getElem_mem hko))
  have hR : Φ "_law_reach" [grD c E, .list [nD o[k]], natsT (o.drop (k + 1))] = .ok (natsL (reachL c E (o.drop (k + 1)) [o[k]])) := hR
  simp [start1, gl, c2, hR, hix1, -List.getElem?_map, -List.map_drop]
  refine for_EI (fun rest ρ => ∃ fnd y7 y8, ρ = byE (grD c E) (natsT o) (nD k) (nD o[k]) (natsT (o.drop (k + 1))) (natsL (reachL c E (o.drop (k + 1)) [o[k]])) fnd y7 y8 ∧ ByL E (reachL c E (o.drop (k + 1)) [o[k]]) (o.drop (k + 1)) rest fnd) (l := E) ⟨[], none, none, rfl, ByL.start⟩ ?_ ?_
  · rintro ⟨x, y⟩ es ρ ⟨fnd, z7, z8, q, hB⟩
    subst q
    have hBl := hB.len
    rw [List.length_cons] at hBl
    refine ⟨_, rfl, ?_⟩
    obtain ⟨beh, hbeh⟩ : ∃ b, b = o.drop (k + 1) := ⟨_, rfl⟩
    rw [← hbeh] at hB ⊢
    obtain ⟨rch, hrch⟩ : ∃ r, r = reachL c E beh [o[k]] := ⟨_, rfl⟩
    rw [← hrch] at hB ⊢
    have happ : ∀ z (fnd : List Nat), fnd.length ≤ 1000 → apS 6 (byE (grD c E) (natsT o) (nD k) (nD o[k]) (natsT beh) (natsL rch) fnd (some (false, nD x)) (some (false, nD y))) (.ok (nD z)) = .nx (byE (grD c E) (natsT o) (nD k) (nD o[k]) (natsT beh) (natsL rch) (fnd ++ [z]) (some (false, nD x)) (some (false, nD y))) := fun z fnd hd => by
      rw [apS_ok (ds := fnd.map nD) (by rfl) (by rw [List.length_map]; omega)]
      simp [byE]
    have fin : ∀ fnd2 : List Nat, ByL E rch beh es fnd2 → ∃ fnd y7 y8, byE (grD c E) (natsT o) (nD k) (nD o[k]) (natsT beh) (natsL rch) fnd2 (some (false, nD x)) (some (false, nD y)) = byE (grD c E) (natsT o) (nD k) (nD o[k]) (natsT beh) (natsL rch) fnd y7 y8 ∧ ByL E rch beh es fnd := fun fnd2 h => ⟨fnd2, _, _, rfl, h⟩
    simp only [byE] at happ fin
    by_cases p1 : x ∈ rch
    · by_cases p2 : y ∈ beh
      · by_cases p3 : y ∈ rch
        · by_cases p4 : x ∈ beh
          · have := fin (fnd ++ [y] ++ [x]) (hB.step (fun _ h => List.mem_append_left _ (List.mem_append_left _ h)) (fun z h => by
              rcases List.mem_append.mp h with h | h
              · rcases List.mem_append.mp h with h | h
                · exact .inl h
                · exact .inr (.inl ⟨by simpa using h, p1, p2⟩)
              · exact .inr (.inr ⟨by simpa using h, p3, p4⟩)) (fun _ _ => by simp) (fun _ _ => by simp) (by simp))
            simp [byE, p1, p2, happ y fnd (by omega)]
            have h2 := happ x (fnd ++ [y]) (by simp; omega)
            simp at h2
            simp [p3, p4, h2]
            simpa using this
          · have := fin (fnd ++ [y]) (hB.step (fun _ h => List.mem_append_left _ h) (fun z h => by
              rcases List.mem_append.mp h with h | h
              · exact .inl h
              · exact .inr (.inl ⟨by simpa using h, p1, p2⟩)) (fun _ _ => by simp) (fun _ h => absurd h p4) (by simp))
            simp [byE, p1, p2, p3, p4, happ y fnd (by omega)]
            simpa using this
        · have := fin (fnd ++ [y]) (hB.step (fun _ h => List.mem_append_left _ h) (fun z h => by
            rcases List.mem_append.mp h with h | h
            · exact .inl h
            · exact .inr (.inl ⟨by simpa using h, p1, p2⟩)) (fun _ _ => by simp) (fun h => absurd h p3) (by simp))
          simp [byE, p1, p2, p3, happ y fnd (by omega)]
          simpa using this
      · by_cases p3 : y ∈ rch
        · by_cases p4 : x ∈ beh
          · have := fin (fnd ++ [x]) (hB.step (fun _ h => List.mem_append_left _ h) (fun z h => by
              rcases List.mem_append.mp h with h | h
              · exact .inl h
              · exact .inr (.inr ⟨by simpa using h, p3, p4⟩)) (fun _ h => absurd h p2) (fun _ _ => by simp) (by simp))
            simp [byE, p1, p2, p3, p4, happ x fnd (by omega)]
            simpa using this
          · have := fin fnd (hB.step (fun _ h => h) (fun _ h => .inl h) (fun _ h => absurd h p2) (fun _ h => absurd h p4) (by omega))
            simp [byE, p1, p2, p3, p4]
            simpa using this
        · have := fin fnd (hB.step (fun _ h => h) (fun _ h => .inl h) (fun _ h => absurd h p2) (fun h => absurd h p3) (by omega))
          simp [byE, p1, p2, p3]
          simpa using this
    · by_cases p3 : y ∈ rch
      · by_cases p4 : x ∈ beh
        · have := fin (fnd ++ [x]) (hB.step (fun _ h => List.mem_append_left _ h) (fun z h => by
            rcases List.mem_append.mp h with h | h
            · exact .inl h
            · exact .inr (.inr ⟨by simpa using h, p3, p4⟩)) (fun h => absurd h p1) (fun _ _ => by simp) (by simp))
          simp [byE, p1, p3, p4, happ x fnd (by omega)]
          simpa using this
        · have := fin fnd (hB.step (fun _ h => h) (fun _ h => .inl h) (fun h => absurd h p1) (fun _ h => absurd h p4) (by omega))
          simp [byE, p1, p3, p4]
          simpa using this
      · have := fin fnd (hB.step (fun _ h => h) (fun _ h => .inl h) (fun h => absurd h p1) (fun h => absurd h p3) (by omega))
        simp [byE, p1, p3]
        simpa using this
  · rintro ρ ⟨fnd, z7, z8, q, hB⟩
    subst q
    have hBl := hB.len
    have hss : ssR (natsL fnd) = .ok (natsL (beyL c E o k)) := by
      refine ssR_n (bits_asc _ _) (fun x => (bey_eq hE ho hko hB x).symm) (by simp at hBl ⊢; omega) ?_
      have := nodup_len (bits_asc c (beyM c E (bitP (maskN (o.take k))) (o[k]?.getD 0))).nodup fun x hx => (mem_bitsN.mp hx).1
      unfold beyL
      omega
    simp [byE, hss]
def SLBey (Φ : Calls) : Prop := ∀ c E o k, c ≤ 8 → EOk c E → E.length ≤ 64 → o.Perm (List.range c) → k < c → Φ "_law_beyond" [grD c E, natsT o, nD k] = .ok (natsT (beyL c E o k))
theorem law_order_need_run {Φ : Calls} (hb : SLBey Φ) {c : Nat} {E : List (Nat × Nat)} {o : List Nat} (hc : c ≤ 8) (hc1 : 1 ≤ c) (hE : EOk c E) (hlen : E.length ≤ 64) (ho : o.Perm (List.range c)) :
    runB 2 3 b__law_order_need Φ [grD c E, natsT o] = .ok (nD (costN (wOrd c E) 0 o)) := by
  refine (run_of (by rfl)).trans ?_
  unfold b__law_order_need
  obtain ⟨ol, olen⟩ := perm_lt ho
  simp [start1, olen]
  rw [lc_all (List.range c) nD (fun k => nD (beyL c E o k).length)]
  · obtain ⟨m, rfl⟩ : ∃ m, c = m + 1 := ⟨c - 1, by omega⟩
    have hl : (List.range (m + 1)).map (fun k => nD (beyL (m + 1) E o k).length) = nD (beyL (m + 1) E o 0).length :: (((List.range m).map fun k => (beyL (m + 1) E o (k + 1)).length).map nD) := by
      rw [List.range_succ_eq_map, List.map_cons, List.map_map, List.map_map]; rfl
    rw [Res.ok_bind, hl]
    simp only [Res.ok_bind, max_nL, Res.ofO_some, bin_add, onE_ok, SR.seq_rt, endR_rt]
    congr 2
    have key : ∀ B, 1 + (((List.range m).map fun k => (beyL (m + 1) E o (k + 1)).length).foldl max (beyL (m + 1) E o 0).length) ≤ B ↔ costN (wOrd (m + 1) E) 0 o ≤ B := fun B => by
      rw [cost_le0]
      have hterm : ∀ k (h : k < o.length), wOrd (m + 1) E (maskN (o.take k)) o[k] = 1 + (beyL (m + 1) E o k).length := fun k h => by
        unfold wOrd beyL
        rw [List.getElem?_eq_getElem h]; rfl
      constructor
      · intro q k h
        have q' : (((List.range m).map fun k => (beyL (m + 1) E o (k + 1)).length).foldl max (beyL (m + 1) E o 0).length) ≤ B - 1 := by omega
        obtain ⟨a, b⟩ := (foldl_max_le _ _).mp q'
        rw [hterm k h]
        cases k with
        | zero => omega
        | succ k =>
          have := b _ (List.mem_map.mpr ⟨k, List.mem_range.mpr (by omega), rfl⟩)
          omega
      · intro q
        have hB : 1 ≤ B := by
          have := q 0 (by omega)
          rw [hterm 0 (by omega)] at this
          omega
        have : (((List.range m).map fun k => (beyL (m + 1) E o (k + 1)).length).foldl max (beyL (m + 1) E o 0).length) ≤ B - 1 := by
          rw [foldl_max_le]
          refine ⟨?_, fun x hx => ?_⟩
          · have := q 0 (by omega)
            rw [hterm 0 (by omega)] at this
            omega
          · obtain ⟨k, hk, rfl⟩ := List.mem_map.mp hx
            have hk := List.mem_range.mp hk
            have := q (k + 1) (by omega)
            rw [hterm (k + 1) (by omega)] at this
            omega
        omega
    exact Nat.le_antisymm ((key _).mpr (Nat.le_refl _)) ((key _).mp (Nat.le_refl _))
  · simp [rng_n (show c ≤ 1000000 by omega), olen]
  · simp; omega
  · intro k hk
    have := hb c E o k hc hE hlen ho (List.mem_range.mp hk)
    refine ⟨_, rfl, ?_⟩
    simp [wipeE, this]
def SLONeed (Φ : Calls) : Prop := ∀ c E o, 1 ≤ c → c ≤ 8 → EOk c E → E.length ≤ 64 → o.Perm (List.range c) → Φ "_law_order_need" [grD c E, natsT o] = .ok (nD (costN (wOrd c E) 0 o))
def SBestO (Φ : Calls) : Prop := ∀ c E, c ≤ 8 → EOk c E → ∃ l : List Nat, Φ "best_order" [grD c E] = .ok (natsT l) ∧ l.Perm (List.range c) ∧ ∀ o : List Nat, o.Perm (List.range c) → costN (wOrd c E) 0 l ≤ costN (wOrd c E) 0 o
def k07E (s v g o l n : D) (b : Bool) (y6 y7 : Option (Bool × D)) : Env := [some (false, s), some (false, v), some (false, g), some (b, o), some (false, l), some (false, n), y6, y7]
theorem k07_run {Φ : Calls} (h1 : SCell Φ) (h2 : SGraph Φ) (h3 : SAllP Φ) (h4 : SOrder Φ) (h5 : SBestO Φ) (h6 : SLONeed Φ) (ns : List Int) (hn : ns.length ≤ 63) : runB 1 8 b_law_v26 Φ [scrD ns] = .ok (.bool true) := by
  refine (run_of (by rfl)).trans ?_
  unfold b_law_v26
  obtain ⟨v, e1⟩ := h1 ns 0
  have tail : ∀ (c : Nat) (E : List (Nat × Nat)) (others : List (List Nat)) (b : Bool) (y4 y5 y6 y7 : Option (Bool × D)), 1 ≤ c → c ≤ 8 → GOk c E → (∀ o ∈ others, o.Perm (List.range c)) →
      endR (exs (.cons (.set 4 [] (.call "best_order" (.cons (.var 2) .nil))) (.cons (.ifs (.or (.not (.isi .tuple (.varB 4))) (.one (.cmp .NotEq (.blt .sorted (.cons (.varB 4) .nil)) (.rg1 false (.ix (.varB 2) (.cst (.int 0))))))) (.cons (.ret (.cst (.bool false))) .nil) .nil) (.cons (.set 5 [] (.call "_law_order_need" (.cons (.var 2) (.cons (.var 4) .nil)))) (.cons (.fors [3] (.var 6) (.val (.var 3)) (.cons (.ifs (.cmp .Lt (.call "_law_order_need" (.cons (.var 2) (.cons (.var 6) .nil))) (.varB 5)) (.cons (.ret (.cst (.bool false))) .nil) .nil) .nil)) (.cons (.ret (.cst (.bool true))) .nil))))) Φ
        [some (false, scrD ns), some (false, nD v), some (false, grD c E), some (b, .list (others.map natsT)), y4, y5, y6, y7]) = .ok (.bool true) := by
    intro c E others b y4 y5 y6 y7 hc1 hc hg ho
    obtain ⟨l, e5, lp, lm⟩ := h5 c E hc hg.e
    obtain ⟨ll, llen⟩ := perm_lt lp
    have e6 := h6 c E l hc1 hc hg.e hg.len lp
    have hix : ixop (grD c E) (nD 0) = some (nD c) := rfl
    simp [e5, isiop, sorted_nT, sort_perm lp, hix, rg_n (show c ≤ 1000000 by omega), ne_lst (okN_natsL 59 (List.range c)), e6]
    refine for_EI (fun rest ρ => ∃ y6, ρ = k07E (scrD ns) (nD v) (grD c E) (.list (others.map natsT)) (natsT l) (nD (costN (wOrd c E) 0 l)) false y6 y7 ∧ ∀ o ∈ rest, o ∈ others) (l := others) ⟨y6, rfl, fun _ h => h⟩ ?_ ?_
    · rintro o rest ρ ⟨z6, q, hm⟩
      subst q
      obtain ⟨ol, olen⟩ := perm_lt (ho o (hm o (by simp)))
      have e7 := h6 c E o hc1 hc hg.e hg.len (ho o (hm o (by simp)))
      have hle := lm o (ho o (hm o (by simp)))
      have hnot : ¬ costN (wOrd c E) 0 o < costN (wOrd c E) 0 l := by omega
      refine ⟨_, rfl, ?_⟩
      simp [k07E, e7, hnot]
      exact fun o ho => hm o (by simp [ho])
    · rintro ρ ⟨z6, q, hm⟩
      subst q
      simp [k07E]
  obtain ⟨c, E, e2, c1, c5, g⟩ := h2 (v / 2) 5 (by omega) (by omega)
  obtain ⟨rows, e3, rp, rl⟩ := h3 c c5
  have hix : ixop (grD c E) (nD 0) = some (nD c) := rfl
  by_cases hv : v % 2 = 1
  · obtain ⟨c', E', e2', c1', c7, g'⟩ := h2 (v / 2) 7 (by omega) (by omega)
    have hix' : ixop (grD c' E') (nD 0) = some (nD c') := rfl
    have hch : ∀ k : Nat, ∃ o : List Nat, o.Perm (List.range c') ∧ ∃ w, Φ "_law_cell" [scrD ns, nD (1 + k)] = .ok (nD w) ∧ Φ "_law_order" [nD w, nD c'] = .ok (natsT o) := fun k => by
      obtain ⟨w, q1⟩ := h1 ns (1 + k)
      obtain ⟨o, q2, q3⟩ := h4 w c' (by omega)
      exact ⟨o, q3, w, q1, q2⟩
    obtain ⟨f, hf⟩ := Classical.axiomOfChoice hch
    have t := tail c' E' ((List.range 40).map f) true none none none none c1' (by omega) g' fun o ho => by
      obtain ⟨k, _, rfl⟩ := List.mem_map.mp ho
      exact (hf k).1
    simp [start1, e1, bin_div, bin_mod, e2, hix, e3, hv, e2'] at t ⊢
    rw [lc_all (List.range 40) nD (fun k => natsT (f k))]
    · simp
      exact t
    · exact rng_n (by omega)
    · simp
    · intro k _
      obtain ⟨_, w, q1, q2⟩ := hf k
      refine ⟨_, rfl, ?_⟩
      simp [wipeE, q1, q2, hix']
  · have t := tail c E rows false none none none none c1 (by omega) g rp
    simp only [exs_cons, exs_nil] at t
    simp [start1, e1, bin_div, bin_mod, e2, hix, e3, hv] at t ⊢
    exact t
end Pv

end
section
namespace Pv
open PySem

/-! ### dicts over nodes -/
def natDict (l : List Nat) (f : Nat → D) : List (D × D) := l.map fun x => (nD x, f x)
theorem keyO_n (x : Nat) : keyO (nD x) = some (.inl (x : Int)) := id rfl
theorem get_nd {f : Nat → D} {x : Nat} : ∀ {l : List Nat}, x ∈ l → getE (natDict l f) (.inl (x : Int)) = some (f x)
  | [], h => by cases h
  | y :: l, h => by
    unfold getE natDict
    rw [List.map_cons, List.find?_cons]
    by_cases e : y = x
    · subst e
      simp [keyO_n]
    · have e2 : decide (keyO (nD y, f y).1 = some (.inl (x : Int))) = false := decide_eq_false fun q => by
        rw [keyO_n] at q
        have := Sum.inl.inj (Option.some.inj q)
        omega
      rw [e2]
      exact get_nd (l := l) ((List.mem_cons.mp h).resolve_left fun q => e q.symm)
theorem any_nd {f : Nat → D} {x : Nat} {l : List Nat} : (natDict l f).any (fun p => decide (keyO p.1 = some (.inl (x : Int)))) = decide (x ∈ l) := by
  unfold natDict
  rw [List.any_map, Bool.eq_iff_iff]
  simp only [List.any_eq_true, Function.comp, decide_eq_true_eq]
  constructor
  · rintro ⟨y, hy, q⟩
    rw [keyO_n] at q
    have := Sum.inl.inj (Option.some.inj q)
    have : y = x := by omega
    exact this ▸ hy
  · exact fun h => ⟨x, h, keyO_n x⟩
theorem put_nd {f : Nat → D} {x : Nat} {l : List Nat} {d : D} (h : x ∉ l) : putE (natDict l f) (.inl (x : Int)) d = natDict l f ++ [(nD x, d)] := by
  unfold putE
  rw [any_nd, decide_eq_false h]
  rfl
theorem put_nd2 {f : Nat → D} {x : Nat} {l : List Nat} (h : x ∉ l) : putE (natDict l f) (.inl (x : Int)) (f x) = natDict (l ++ [x]) f := by
  rw [put_nd h]
  unfold natDict
  rw [List.map_append]; rfl
theorem dcM {α : Type} {asg : D → Res Env} {cond key val : Env → Res D} {g : α → D} {kf : α → Nat} {f : Nat → D} : ∀ (l : List α) (done : List Nat), (∀ a ∈ l, ∃ ρ', asg (g a) = .ok ρ' ∧ cond ρ' = .ok (.bool true) ∧ key ρ' = .ok (nD (kf a)) ∧ val ρ' = .ok (f (kf a))) → (done ++ l.map kf).Nodup →
    dcL asg cond key val (l.map g) (natDict done f) = .ok (natDict (done ++ l.map kf) f)
  | [], done, _, _ => by rw [List.map_nil, List.map_nil, List.append_nil]; rfl
  | a :: l, done, h, nd => by
    obtain ⟨ρ', e1, e2, e3, e4⟩ := h a (by simp)
    have hn : kf a ∉ done := fun q => by
      rw [List.map_cons, List.nodup_append] at nd
      exact nd.2.2 _ q _ (by simp) rfl
    rw [List.map_cons, List.map_cons]
    unfold dcL
    rw [e1]
    simp only [noex_ok, Res.ok_bind, e2, e3, e4, keyO_n, Res.ofO_some]
    rw [put_nd2 hn, dcM l (done ++ [kf a]) (fun b hb => h b (by simp [hb])) (by simpa using nd)]
    simp
theorem dc_ok {α : Type} {own : List Nat} {t : Tg} {fi : EvL} {fc fk fv : EvE} {Φ : Calls} {ρ : Env} (l : List α) (g : α → D) (kf : α → Nat) (f : Nat → D) (h1 : fi Φ ρ = .ok (l.map g)) (h2 : l.length ≤ 1000000)
    (h3 : ∀ a ∈ l, ∃ ρ', asgT t (g a) (wipeE ρ own) = .ok ρ' ∧ fc Φ ρ' = .ok (.bool true) ∧ fk Φ ρ' = .ok (nD (kf a)) ∧ fv Φ ρ' = .ok (f (kf a))) (h4 : (l.map kf).Nodup) : dcE own t fi fc fk fv Φ ρ = .ok (.dict (natDict (l.map kf) f)) := by
  unfold dcE
  rw [h1, Res.ok_bind]
  unfold sm
  rw [if_pos (by rw [List.length_map]; exact decide_eq_true h2)]
  have := dcM (asg := fun d => asgT t d (wipeE ρ own)) (cond := fc Φ) (key := fk Φ) (val := fv Φ) l [] h3 (by simpa using h4)
  rw [show ([] : List (D × D)) = natDict [] f from rfl, this]
  simp
theorem ix_nd {f : Nat → D} {x : Nat} {l : List Nat} (h : x ∈ l) : ixop (.dict (natDict l f)) (nD x) = some (f x) := by
  show (keyO (nD x)).bind (getE (natDict l f)) = _
  rw [keyO_n]
  exact get_nd h

/-! ### the greatest of numbers -/
theorem foldI_le {B : Int} : ∀ (l : List Int) (a : Int), l.foldl max a ≤ B ↔ a ≤ B ∧ ∀ x ∈ l, x ≤ B
  | [], a => by simp
  | b :: l, a => by
    rw [List.foldl_cons, foldI_le l]
    simp [Int.max_le, and_assoc]
theorem foldI_mem : ∀ (l : List Int) (a : Int), l.foldl max a = a ∨ l.foldl max a ∈ l
  | [], a => .inl rfl
  | b :: l, a => by
    rw [List.foldl_cons]
    rcases foldI_mem l (max a b) with h | h
    · rw [h]
      by_cases q : a ≤ b
      · rw [Int.max_eq_right q]; exact .inr (by simp)
      · rw [Int.max_eq_left (by omega)]; exact .inl rfl
    · exact .inr (by simp [h])
theorem max_I (a : Int) (l : List Int) : bltop .max [.list (PyData.int a :: l.map PyData.int)] = some (.int (l.foldl max a)) := by
  have h1 : alikeB ((a :: l).map PyData.int) = true := all_imp fun x hx => all_imp fun y hy => by
    obtain ⟨p, _, rfl⟩ := List.mem_map.mp hx
    obtain ⟨q, _, rfl⟩ := List.mem_map.mp hy
    rfl
  have h2 : plainB ((a :: l).map PyData.int) = true := all_imp fun x hx => by
    obtain ⟨p, _, rfl⟩ := List.mem_map.mp hx; rfl
  have h3 : noNone ((a :: l).map PyData.int) = true := all_imp fun x hx => by
    obtain ⟨p, _, rfl⟩ := List.mem_map.mp hx; rfl
  rw [List.map_cons] at h1 h2 h3
  show (if alikeB (PyData.int a :: l.map PyData.int) && plainB (PyData.int a :: l.map PyData.int) && noNone (PyData.int a :: l.map PyData.int) then some (PySem.W.maxD (.int a) (l.map PyData.int)) else none) = _
  rw [h1, h2, h3, PySem.W.maxD_ints]
  rfl
theorem max_Iend (l : List Int) (s : Int) : bltop .max [.list ((l ++ [s]).map PyData.int)] = some (.int (l.foldl max s)) := by
  have key : ∀ (l : List Int) (a s : Int), (l ++ [s]).foldl max a = l.foldl max (max a s) := fun l => by
    induction l with
    | nil => intro a s; rfl
    | cons b l ih =>
      intro a s
      rw [List.cons_append, List.foldl_cons, ih, List.foldl_cons]
      congr 1
      omega
  cases l with
  | nil => exact max_I s []
  | cons a l =>
    rw [List.cons_append, List.map_cons, max_I, key, List.foldl_cons]
    congr 3
    omega

/-! ### the rooms of an order -/
def plc (o : List Nat) (x : Nat) : Nat := o.length - 1 - o.idxOf x
noncomputable def abv (c : Nat) (E : List (Nat × Nat)) (o : List Nat) (k : Nat) : Int := ((beyL c E o (c - 1 - k)).map fun x => (plc o x : Int)).foldl max (min 0 ((k : Int) - 1))
noncomputable def roomK (c : Nat) (E : List (Nat × Nat)) (o : List Nat) (k : Nat) : List Nat := bitsN c (maskN (beyL c E o (c - 1 - k)) ||| 2 ^ (o[c - 1 - k]?.getD 0))
def roomD (r : List Nat × Int) : D := .tuple [natsT r.1, .int r.2]
noncomputable def roomsN (c : Nat) (E : List (Nat × Nat)) (o : List Nat) : List (List Nat × Int) := (List.range c).map fun k => (roomK c E o k, abv c E o k)
theorem idx_get {o : List Nat} (nd : o.Nodup) {k : Nat} (h : k < o.length) : o.idxOf o[k] = k := nd.idxOf_getElem k h
theorem mem_beyL {c : Nat} {E : List (Nat × Nat)} {o : List Nat} {k : Nat} (hk : k < o.length) {x : Nat} : x ∈ beyL c E o k ↔ x < c ∧ Lk E (fun y => y ∈ o.take k) o[k] x ∧ x ∉ o.take k ∧ x ≠ o[k] := by
  unfold beyL beyM
  have hg : bitP (maskN (o.take k)) = fun y => y ∈ o.take k := by
    funext v; exact propext test_maskN
  rw [mem_bitsN, test_maskP, hg, List.getElem?_eq_getElem hk]
  show x < c ∧ x < c ∧ _ ↔ _
  constructor
  · rintro ⟨a, _, b⟩; exact ⟨a, b⟩
  · rintro ⟨a, b⟩; exact ⟨a, a, b⟩
theorem mem_beyL_drop {c : Nat} {E : List (Nat × Nat)} {o : List Nat} (ho : o.Perm (List.range c)) {k : Nat} (hk : k < o.length) {x : Nat} (h : x ∈ beyL c E o k) : x ∈ o.drop (k + 1) := by
  obtain ⟨h1, _, h2, h3⟩ := (mem_beyL hk).mp h
  have hx : x ∈ o := ho.mem_iff.mpr (List.mem_range.mpr h1)
  have hap : o.take k ++ o[k] :: o.drop (k + 1) = o := by
    rw [← List.drop_eq_getElem_cons hk, List.take_append_drop]
  rw [← hap] at hx
  rcases List.mem_append.mp hx with q | q
  · exact absurd q h2
  · exact (List.mem_cons.mp q).resolve_left h3
theorem sort_room {c : Nat} {E : List (Nat × Nat)} {o : List Nat} (ho : o.Perm (List.range c)) {k : Nat} (hk : k < c) : ((beyL c E o (c - 1 - k) ++ [o[c - 1 - k]?.getD 0]).mergeSort fun a b => decide (a ≤ b)) = roomK c E o k := by
  obtain ⟨ol, olen⟩ := perm_lt ho
  have hg : c - 1 - k < o.length := by omega
  have hget : o[c - 1 - k]?.getD 0 = o[c - 1 - k] := by rw [List.getElem?_eq_getElem hg]; rfl
  have hnot : o[c - 1 - k] ∉ beyL c E o (c - 1 - k) := fun q => ((mem_beyL hg).mp q).2.2.2 rfl
  refine asc_eq (sort_asc ?_) (bits_asc _ _) fun x => ?_
  · rw [hget, List.nodup_append]
    refine ⟨(bits_asc _ _).nodup, by simp, fun a ha b hb => ?_⟩
    have : b = o[c - 1 - k] := by simpa using hb
    subst this
    exact fun q => hnot (q ▸ ha)
  · unfold roomK
    rw [List.mem_mergeSort, mem_bitsN, Nat.testBit_or, Bool.or_eq_true, test_maskN, Nat.testBit_two_pow, hget]
    simp only [List.mem_append, List.mem_singleton, decide_eq_true_eq]
    constructor
    · rintro (q | q)
      · exact ⟨((mem_beyL hg).mp q).1, .inl q⟩
      · exact ⟨by rw [q]; exact ol _ (List.getElem_mem hg), .inr q.symm⟩
    · rintro ⟨_, q | q⟩
      · exact .inl q
      · exact .inr q.symm
theorem mem_roomK {c : Nat} {E : List (Nat × Nat)} {o : List Nat} (ho : o.Perm (List.range c)) {k : Nat} (hk : k < c) {x : Nat} : x ∈ roomK c E o k ↔ x ∈ beyL c E o (c - 1 - k) ∨ x = o[c - 1 - k]?.getD 0 := by
  rw [← sort_room ho hk, List.mem_mergeSort]
  simp
end Pv

end
section
namespace Pv
open PySem

theorem stD_ok {i : Nat} {es : List (D × D)} {ρ : Env} (h : i < ρ.length) : stD i (.ok (.dict es)) ρ = .nx (ρ.set i (some (true, .dict es))) := by
  show (if i < ρ.length then SR.nx (ρ.set i (some (true, .dict es))) else .st) = _
  rw [if_pos h]
theorem setSD_ok {i : Nat} {ρ : Env} {es : List (D × D)} {d : D} {k : Nat} (h : ρ[i]? = some (some (true, .dict es))) (hs : es.length ≤ 1000000) : setSD i ρ (.ok d) (.ok (nD k)) = .nx (ρ.set i (some (true, .dict (putE es (.inl (k : Int)) d)))) := by
  unfold setSD ownDD
  rw [h]
  show (if sm es.length then _ else _) = _
  unfold sm
  rw [if_pos (decide_eq_true hs)]
theorem drop_get {α : Type} {l : List α} {k : Nat} {a : α} {r : List α} (h : l.drop k = a :: r) : k < l.length ∧ l[k]? = some a ∧ r = l.drop (k + 1) := by
  by_cases hk : k < l.length
  · rw [List.drop_eq_getElem_cons hk] at h
    have h1 := List.cons.inj h
    exact ⟨hk, by rw [List.getElem?_eq_getElem hk, h1.1], h1.2.symm⟩
  · rw [List.drop_eq_nil_of_le (by omega)] at h
    cases h
theorem rev_at {o : List Nat} {k : Nat} (h : k < o.length) : o.reverse[k]? = some (o[o.length - 1 - k]?.getD 0) := by
  rw [List.getElem?_reverse h, List.getElem?_eq_getElem (by omega)]; rfl
theorem take_rev {o : List Nat} {k : Nat} (h : k < o.length) : o.take (o.length - k) = o.take (o.length - 1 - k) ++ [o[o.length - 1 - k]?.getD 0] := by
  rw [show o.length - k = o.length - 1 - k + 1 by omega, List.take_add_one, List.getElem?_eq_getElem (by omega)]
  rfl
theorem dif_take {o : List Nat} (nd : o.Nodup) {k : Nat} (h : k < o.length) : dif (maskN (o.take (o.length - k))) (2 ^ (o[o.length - 1 - k]?.getD 0)) = maskN (o.take (o.length - 1 - k)) := by
  refine mask_ext fun v => ?_
  rw [test_dif, test_maskN, Bool.and_eq_true, test_maskN, take_rev h, Nat.testBit_two_pow]
  have hk : o.length - 1 - k < o.length := by omega
  have hap : o.take (o.length - 1 - k) ++ o[o.length - 1 - k] :: o.drop (o.length - 1 - k + 1) = o := by
    rw [← List.drop_eq_getElem_cons hk, List.take_append_drop]
  have nd2 := nd
  rw [← hap, List.nodup_append] at nd2
  have hn : o[o.length - 1 - k] ∉ o.take (o.length - 1 - k) := fun q => nd2.2.2 _ q _ List.mem_cons_self rfl
  rw [List.getElem?_eq_getElem hk]
  simp only [List.mem_append, List.mem_singleton, Option.getD_some]
  constructor
  · rintro ⟨q | q, r⟩
    · exact q
    · rw [q] at r; simp at r
  · intro q
    refine ⟨.inl q, ?_⟩
    have : o[o.length - 1 - k] ≠ v := fun z => hn (z ▸ q)
    simp [this]
theorem plc_lt {c : Nat} {o : List Nat} (ho : o.Perm (List.range c)) {k : Nat} (hk : k < c) {x : Nat} (h : x ∈ o.reverse.take k) : plc o x < k := by
  obtain ⟨ol, olen⟩ := perm_lt ho
  obtain ⟨i, hi, e⟩ := List.mem_iff_getElem.mp h
  rw [List.getElem_take, List.getElem_reverse] at e
  have hi' : i < k := by simpa [olen] using (show i < min k o.reverse.length by simpa using hi) |> Nat.lt_min.mp |>.1
  unfold plc
  rw [← e, idx_get (ho.nodup_iff.mpr List.nodup_range)]
  omega
theorem bey_rev {c : Nat} {E : List (Nat × Nat)} {o : List Nat} (ho : o.Perm (List.range c)) {k : Nat} (hk : k < c) {x : Nat} (h : x ∈ beyL c E o (c - 1 - k)) : x ∈ o.reverse.take k := by
  obtain ⟨ol, olen⟩ := perm_lt ho
  have := mem_beyL_drop ho (by omega) h
  rw [List.take_reverse, List.mem_reverse]
  rwa [olen, show c - k = c - 1 - k + 1 by omega]
def roE (g o r p : D) (gone : Nat) (f : D) (y6 y7 y8 y9 y10 : Option (Bool × D)) : Env := [some (false, g), some (false, o), some (false, r), some (true, p), some (false, nD gone), some (true, f), y6, y7, y8, y9, y10]
def RoI (c : Nat) (E : List (Nat × Nat)) (o : List Nat) (rest : List Nat) (ρ : Env) : Prop := ∃ (k : Nat) (y6 y7 y8 y9 y10 : Option (Bool × D)), o.reverse.drop k = rest ∧ k ≤ c ∧
  ρ = roE (grD c E) (natsT o) (natsL (rowsN c E)) (.dict (natDict o fun x => nD (plc o x))) (maskN (o.take (c - k))) (.list (((roomsN c E o).take k).map roomD)) y6 y7 y8 y9 y10
theorem roomsN_len (c : Nat) (E : List (Nat × Nat)) (o : List Nat) : (roomsN c E o).length = c := by unfold roomsN; simp
theorem roomsN_at {c : Nat} {E : List (Nat × Nat)} {o : List Nat} {k : Nat} (h : k < c) : (roomsN c E o)[k]? = some (roomK c E o k, abv c E o k) := by
  unfold roomsN
  rw [List.getElem?_map, List.getElem?_eq_getElem (by simpa using h)]
  simp
theorem rooms_step {c : Nat} {E : List (Nat × Nat)} {o : List Nat} {k : Nat} (h : k < c) : ((roomsN c E o).take k).map roomD ++ [.tuple [natsT (roomK c E o k), .int (abv c E o k)]] = ((roomsN c E o).take (k + 1)).map roomD := by
  rw [List.take_add_one, roomsN_at h, List.map_append]
  rfl
theorem rooms_of_run {Φ : Calls} {c : Nat} {E : List (Nat × Nat)} {o : List Nat} (h1 : SRows Φ c E) (h2 : SAll Φ c E) (h3 : SBeyond Φ c E) (h4 : SNodes Φ c) (h5 : SMask Φ) (hc : c ≤ 1000) (ho : o.Perm (List.range c)) :
    runB 2 11 b_rooms_of Φ [grD c E, natsT o] = .ok (.tuple ((roomsN c E o).map roomD)) := by
  refine (run_of (by rfl)).trans ?_
  unfold b_rooms_of
  obtain ⟨ol, olen⟩ := perm_lt ho
  have nd : o.Nodup := ho.nodup_iff.mpr List.nodup_range
  have hE : Φ "all_nodes" [grD c E] = .ok (nD (2 ^ c - 1)) := h2
  have hR : Φ "neighbour_masks" [grD c E] = .ok (natsL (rowsN c E)) := h1
  have hfull : 2 ^ c - 1 = maskN (o.take (c - 0)) := mask_ext fun v => by
    rw [test_maskN, List.take_of_length_le (by omega), ho.mem_iff, List.mem_range, Nat.testBit_two_pow_sub_one, decide_eq_true_eq]
  simp [start1, hR, hE]
  rw [dc_ok o.zipIdx (fun p => .tuple [nD p.2, nD p.1]) (fun p => p.1) (fun x => nD (plc o x))]
  · rw [stD_ok (by simp)]
    simp [hE]
    rw [← List.map_reverse]
    refine for_EI (RoI c E o) (l := o.reverse) ⟨0, none, none, none, none, none, rfl, Nat.zero_le _, by rw [hfull]; simp [roE]⟩ ?_ ?_
    · rintro a rest ρ ⟨k, y6, y7, y8, y9, y10, hd, hk, q⟩
      subst q
      obtain ⟨hk1, ha, hrest⟩ := drop_get hd
      rw [List.length_reverse, olen] at hk1
      rw [rev_at (by omega), olen] at ha
      have ha := Option.some.inj ha
      have hget : o[c - 1 - k]? = some a := by rw [← ha, List.getElem?_eq_getElem (by omega)]; rfl
      have hac : a < c := by
        rw [List.getElem?_eq_getElem (by omega)] at hget
        exact Option.some.inj hget ▸ ol _ (List.getElem_mem _)
      have hg := dif_take nd (k := k) (by omega)
      rw [olen, ha] at hg
      have hgl : maskN (o.take (c - 1 - k)) < 2 ^ c := maskN_lt fun x hx => ol x (List.mem_of_mem_take hx)
      have hb := h3 _ a hgl hac
      have hbl : beyM c E (bitP (maskN (o.take (c - 1 - k)))) a < 2 ^ c := maskP_lt
      have hn := h4 _ hbl
      have hbe : bitsN c (beyM c E (bitP (maskN (o.take (c - 1 - k)))) a) = beyL c E o (c - 1 - k) := by unfold beyL; rw [ha]
      rw [hbe] at hn
      have hm := h5 (beyL c E o (c - 1 - k)) fun x hx => by have := ((mem_beyL (by omega)).mp hx).1; omega
      have hml : maskN (beyL c E o (c - 1 - k)) ||| 2 ^ a < 2 ^ c := Nat.or_lt_two_pow (maskN_lt fun x hx => ((mem_beyL (by omega)).mp hx).1) (Nat.pow_lt_pow_right (by decide) hac)
      have hr := h4 _ hml
      have hrk : bitsN c (maskN (beyL c E o (c - 1 - k)) ||| 2 ^ a) = roomK c E o k := by unfold roomK; rw [ha]
      rw [hrk] at hr
      have hbylen : (beyL c E o (c - 1 - k)).length ≤ c := nodup_len (bits_asc _ _).nodup fun x hx => (mem_bitsN.mp hx).1
      have hsub : binop .Sub (nD (min k (roomsN c E o).length)) (nD 1) = some (.int ((k : Int) - 1)) := by
        rw [roomsN_len, Nat.min_eq_left hk]; rfl
      have hmin : bltop .min [nD 0, .int ((k : Int) - 1)] = some (.int (min 0 ((k : Int) - 1))) := by
        show some (PyData.int (if (k : Int) - 1 < 0 then (k : Int) - 1 else 0)) = _
        congr 2
        split <;> omega
      have hmx := max_Iend ((beyL c E o (c - 1 - k)).map fun x => (plc o x : Int)) (min 0 ((k : Int) - 1))
      rw [show (((beyL c E o (c - 1 - k)).map fun x => (plc o x : Int)).foldl max (min 0 ((k : Int) - 1))) = abv c E o k from rfl, List.map_append, List.map_map] at hmx
      refine ⟨_, rfl, ?_⟩
      simp [roE, bin_shl (show a ≤ 1000000 by omega), and_not, hg, hb, hn]
      rw [lc_all (beyL c E o (c - 1 - k)) nD (fun x => nD (plc o x))]
      · have hadd : binop .Add (.list ((beyL c E o (c - 1 - k)).map fun x => nD (plc o x))) (.list [.int (min 0 ((k : Int) - 1))]) = some (.list ((beyL c E o (c - 1 - k)).map (PyData.int ∘ fun x => (plc o x : Int)) ++ [PyData.int (min 0 ((k : Int) - 1))])) := by
          show (if sm _ then some _ else none) = _
          unfold sm
          rw [if_pos (decide_eq_true (by rw [List.length_map]; simp; omega))]
          rfl
        simp only [List.map_cons, List.map_nil] at hmx
        simp [hsub, hmin, hadd, hmx, hm, bin_shl (show a ≤ 1000000 by omega), bin_or, hr]
        rw [← List.map_take, apS_ok (ds := ((roomsN c E o).take k).map roomD) (by rfl) (by rw [List.length_map, List.length_take, roomsN_len]; omega), rooms_step hk1]
        refine ⟨k + 1, some (false, nD a), some (false, natsT (beyL c E o (c - 1 - k))), some (false, .int (abv c E o k)), y9, y10, hrest.symm, hk1, ?_⟩
        rw [show c - (k + 1) = c - 1 - k by omega]
        rfl
      · simp
      · omega
      · intro x hx
        refine ⟨_, rfl, ?_⟩
        have hxo : x ∈ o := ho.mem_iff.mpr (List.mem_range.mpr ((mem_beyL (by omega)).mp hx).1)
        simp [wipeE, ix_nd (f := fun x => nD (plc o x)) hxo]
    · rintro ρ ⟨k, y6, y7, y8, y9, y10, hd, hk, q⟩
      subst q
      have : k = c := by
        have := congrArg List.length hd
        simp [olen] at this
        omega
      subst this
      simp [roE, List.take_of_length_le (Nat.le_of_eq (roomsN_len k E o))]
  · simp
    rw [enum_map]
  · simp; omega
  · rintro ⟨x, i⟩ hx
    have := List.mem_zipIdx hx
    obtain ⟨_, hi, hxi⟩ := this
    refine ⟨_, rfl, ?_⟩
    simp [wipeE]
    have hi2 : i < o.length := by omega
    have hxi : x = o[i] := by simpa using hxi
    have hpl : plc o x = o.length - 1 - i := by
      unfold plc
      rw [hxi, idx_get nd hi2]
    rw [bin_sub (show 1 ≤ o.length by omega)]
    simp [bin_sub (show i ≤ o.length - 1 by omega), hpl]
  · rw [List.zipIdx_map_fst]; exact nd
def SRooms (Φ : Calls) : Prop := ∀ c E o, c ≤ 8 → EOk c E → o.Perm (List.range c) → Φ "rooms_of" [grD c E, natsT o] = .ok (.tuple ((roomsN c E o).map roomD))
def lrE (g o p f : D) (y4 y5 y6 y7 y8 : Option (Bool × D)) : Env := [some (false, g), some (false, o), some (true, p), some (true, f), y4, y5, y6, y7, y8]
def LrI (c : Nat) (E : List (Nat × Nat)) (o : List Nat) (rest : List Nat) (ρ : Env) : Prop := ∃ (k : Nat) (y4 y5 y6 y7 y8 : Option (Bool × D)), rest = (List.range c).drop k ∧ k ≤ c ∧
  ρ = lrE (grD c E) (natsT o) (.dict (natDict (o.reverse.take k) fun x => nD (plc o x))) (.list (((roomsN c E o).take k).map roomD)) y4 y5 y6 y7 y8
theorem law_rooms_run {Φ : Calls} (hb : SLBey Φ) {c : Nat} {E : List (Nat × Nat)} {o : List Nat} (hc : c ≤ 8) (hE : EOk c E) (hlen : E.length ≤ 64) (ho : o.Perm (List.range c)) :
    runB 2 9 b__law_rooms Φ [grD c E, natsT o] = .ok (.tuple ((roomsN c E o).map roomD)) := by
  refine (run_of (by rfl)).trans ?_
  unfold b__law_rooms
  obtain ⟨ol, olen⟩ := perm_lt ho
  have nd : o.Nodup := ho.nodup_iff.mpr List.nodup_range
  simp [start1, olen, rng_n (show c ≤ 1000000 by omega)]
  rw [stD_ok (by simp)]
  simp [olen, rng_n (show c ≤ 1000000 by omega)]
  refine for_EI (LrI c E o) (l := List.range c) ⟨0, none, none, none, none, none, rfl, Nat.zero_le _, by simp [lrE, natDict]⟩ ?_ ?_
  · rintro k rest ρ ⟨k', y4, y5, y6, y7, y8, hd, hk', q⟩
    subst q
    obtain ⟨rfl, hk, hrest⟩ := drop_range hd.symm
    refine ⟨_, rfl, ?_⟩
    have hat : c - 1 - k < o.length := by omega
    have gl : (o.map nD)[c - 1 - k]? = some (nD (o[c - 1 - k]?.getD 0)) := by rw [List.getElem?_map, List.getElem?_eq_getElem hat]; rfl
    have hB := hb c E o (c - 1 - k) hc hE hlen ho (by omega)
    have hsub : binop .Sub (nD k) (nD 1) = some (.int ((k : Int) - 1)) := rfl
    have hmin : bltop .min [nD 0, .int ((k : Int) - 1)] = some (.int (min 0 ((k : Int) - 1))) := by
      show some (PyData.int (if (k : Int) - 1 < 0 then (k : Int) - 1 else 0)) = _
      congr 2
      split <;> omega
    have hbylen : (beyL c E o (c - 1 - k)).length ≤ c := nodup_len (bits_asc _ _).nodup fun x hx => (mem_bitsN.mp hx).1
    simp [lrE, olen, bin_sub (show 1 ≤ c by omega), bin_sub (show k ≤ c - 1 by omega), hB, hsub, hmin, gl, -List.getElem?_map]
    refine for_A (fun (m : Int) ρ => ∃ y8, ρ = lrE (grD c E) (natsT o) (.dict (natDict (o.reverse.take k) fun x => nD (plc o x))) (.list (((roomsN c E o).take k).map roomD)) (some (false, nD k)) (some (false, nD (c - 1 - k))) (some (false, natsT (beyL c E o (c - 1 - k)))) (some (false, .int m)) y8) (fun m x => max m (plc o x : Int)) (l := beyL c E o (c - 1 - k)) (s := min 0 ((k : Int) - 1)) ⟨y8, by simp [lrE]⟩ ?_ ?_
    · rintro m x ρ hx ⟨z8, q⟩
      subst q
      refine ⟨_, rfl, ?_⟩
      have hmx : bltop .max [.int m, nD (plc o x)] = some (.int (max m (plc o x : Int))) := by
        show some (PyData.int (if (plc o x : Int) > m then (plc o x : Int) else m)) = _
        congr 2
        split <;> omega
      simp [lrE, ix_nd (f := fun x => nD (plc o x)) (bey_rev ho hk hx), hmx]
    · rintro ρ ⟨z8, q⟩
      subst q
      have habv : (beyL c E o (c - 1 - k)).foldl (fun (m : Int) x => max m (plc o x : Int)) (min 0 ((k : Int) - 1)) = abv c E o k := by
        unfold abv
        rw [List.foldl_map]
      rw [habv]
      obtain ⟨node, hnode⟩ : ∃ x, x = o[c - 1 - k]?.getD 0 := ⟨_, rfl⟩
      have hnode2 : node = o[c - 1 - k] := by rw [hnode, List.getElem?_eq_getElem hat]; rfl
      have hpl : plc o node = k := by
        unfold plc
        rw [hnode2, idx_get nd hat]
        omega
      have hrt : o.reverse.take (k + 1) = o.reverse.take k ++ [node] := by
        rw [List.take_add_one, rev_at (by omega), olen, ← hnode]; rfl
      have hnot : node ∉ o.reverse.take k := fun q => by
        have nd2 : (o.reverse.take (k + 1)).Nodup := ((List.reverse_perm o).nodup_iff.mpr nd).sublist (List.take_sublist _ _)
        rw [hrt, List.nodup_append] at nd2
        exact nd2.2.2 _ q _ (by simp) rfl
      have hput := put_nd2 (f := fun x => nD (plc o x)) hnot
      rw [hpl, ← hrt] at hput
      have hset : setSD 2 (lrE (grD c E) (natsT o) (.dict (natDict (o.reverse.take k) fun x => nD (plc o x))) (.list (((roomsN c E o).take k).map roomD)) (some (false, nD k)) (some (false, nD (c - 1 - k))) (some (false, natsT (beyL c E o (c - 1 - k)))) (some (false, .int (abv c E o k))) z8) (.ok (nD k)) (.ok (nD node))
          = .nx (lrE (grD c E) (natsT o) (.dict (natDict (o.reverse.take (k + 1)) fun x => nD (plc o x))) (.list (((roomsN c E o).take k).map roomD)) (some (false, nD k)) (some (false, nD (c - 1 - k))) (some (false, natsT (beyL c E o (c - 1 - k)))) (some (false, .int (abv c E o k))) z8) := by
        rw [setSD_ok (es := natDict (o.reverse.take k) fun x => nD (plc o x)) (by rfl) (by unfold natDict; rw [List.length_map, List.length_take]; omega), hput]
        rfl
      have hadd : binop .Add (natsT (beyL c E o (c - 1 - k))) (.tuple [nD node]) = some (natsT (beyL c E o (c - 1 - k) ++ [node])) := by
        show (if sm _ then some _ else none) = _
        unfold sm
        rw [if_pos (decide_eq_true (by rw [List.length_map]; simp; omega))]
        simp
      have hsrt := sorted_nT (beyL c E o (c - 1 - k) ++ [node])
      rw [hnode, sort_room ho hk, ← hnode] at hsrt
      rw [← hnode] at gl
      have happ : apS 3 (lrE (grD c E) (natsT o) (.dict (natDict (o.reverse.take (k + 1)) fun x => nD (plc o x))) (.list (((roomsN c E o).take k).map roomD)) (some (false, nD k)) (some (false, nD (c - 1 - k))) (some (false, natsT (beyL c E o (c - 1 - k)))) (some (false, .int (abv c E o k))) z8) (.ok (.tuple [natsT (roomK c E o k), .int (abv c E o k)]))
          = .nx (lrE (grD c E) (natsT o) (.dict (natDict (o.reverse.take (k + 1)) fun x => nD (plc o x))) (.list (((roomsN c E o).take (k + 1)).map roomD)) (some (false, nD k)) (some (false, nD (c - 1 - k))) (some (false, natsT (beyL c E o (c - 1 - k)))) (some (false, .int (abv c E o k))) z8) := by
        rw [apS_ok (ds := ((roomsN c E o).take k).map roomD) (by rfl) (by rw [List.length_map, List.length_take, roomsN_len]; omega), rooms_step hk]
        rfl
      have hr1 : rdV 4 (lrE (grD c E) (natsT o) (.dict (natDict (o.reverse.take k) fun x => nD (plc o x))) (.list (((roomsN c E o).take k).map roomD)) (some (false, nD k)) (some (false, nD (c - 1 - k))) (some (false, natsT (beyL c E o (c - 1 - k)))) (some (false, .int (abv c E o k))) z8) = .ok (nD k) := rfl
      have hr2 : ∀ p f, rdB 1 (lrE (grD c E) (natsT o) p f (some (false, nD k)) (some (false, nD (c - 1 - k))) (some (false, natsT (beyL c E o (c - 1 - k)))) (some (false, .int (abv c E o k))) z8) = .ok (natsT o) := fun _ _ => rfl
      have hr3 : ∀ p f, rdB 5 (lrE (grD c E) (natsT o) p f (some (false, nD k)) (some (false, nD (c - 1 - k))) (some (false, natsT (beyL c E o (c - 1 - k)))) (some (false, .int (abv c E o k))) z8) = .ok (nD (c - 1 - k)) := fun _ _ => rfl
      have hr4 : ∀ p f, rdB 6 (lrE (grD c E) (natsT o) p f (some (false, nD k)) (some (false, nD (c - 1 - k))) (some (false, natsT (beyL c E o (c - 1 - k)))) (some (false, .int (abv c E o k))) z8) = .ok (natsT (beyL c E o (c - 1 - k))) := fun _ _ => rfl
      have hr5 : ∀ p f, rdV 7 (lrE (grD c E) (natsT o) p f (some (false, nD k)) (some (false, nD (c - 1 - k))) (some (false, natsT (beyL c E o (c - 1 - k)))) (some (false, .int (abv c E o k))) z8) = .ok (.int (abv c E o k)) := fun _ _ => rfl
      have hixo : ixop (natsT o) (nD (c - 1 - k)) = some (nD node) := (atI_nn (o.map nD) (c - 1 - k)).trans gl
      have hsrt' : bltop .sorted [natsT (beyL c E o (c - 1 - k) ++ [node])] = some (natsL (roomK c E o k)) := hsrt
      simp only [hr1, hr2, hr3, hixo, Res.ok_bind, Res.ofO_some, hset, SR.seq_nx, hr4, smL_ok _ _ (show ([nD node] : List D).length ≤ 1000000 by simp), hadd, hsrt', hr5, show bltop .tuple [natsL (roomK c E o k)] = some (natsT (roomK c E o k)) from rfl, smL_ok _ _ (show ([natsT (roomK c E o k), PyData.int (abv c E o k)] : List D).length ≤ 1000000 by simp), happ, SR.seq_nx]
      exact ⟨k + 1, _, _, _, _, _, hrest, by omega, rfl⟩
  · rintro ρ ⟨k, y6, y7, y8, y9, y10, hd, hk, q⟩
    subst q
    have : k = c := by
      have := congrArg List.length hd
      simp at this
      omega
    subst this
    simp [lrE, List.take_of_length_le (Nat.le_of_eq (roomsN_len k E o))]
end Pv

end
section
namespace Pv
open PySem

/-! ### is_tree -/
def okAt (k : Nat) (a : Int) : Prop := (k = 0 → a = -1) ∧ (0 < k → 0 ≤ a ∧ a < k)
def TreeR (rs : List (List Nat × Int)) : Prop := 0 < rs.length ∧ ∀ k r, rs[k]? = some r → okAt k r.2
theorem zdrop {α : Type} {rs : List α} {k i : Nat} {a : α} {rest : List (α × Nat)} (h : rs.zipIdx.drop k = (a, i) :: rest) : k < rs.length ∧ rs[k]? = some a ∧ i = k ∧ rest = rs.zipIdx.drop (k + 1) := by
  obtain ⟨h1, h2, h3⟩ := drop_get h
  rw [List.length_zipIdx] at h1
  rw [List.getElem?_zipIdx, List.getElem?_eq_getElem h1] at h2
  simp at h2
  exact ⟨h1, by rw [List.getElem?_eq_getElem h1, h2.1], h2.2.symm, h3⟩
/-- a def that answers whether P -/
def RetB (P : Prop) (r : SR) : Prop := ∃ b : Bool, endR r = .ok (.bool b) ∧ (b = true ↔ P)
theorem retB_rt {P : Prop} {b : Bool} (h : b = true ↔ P) : RetB P (.rt (.bool b)) := ⟨b, rfl, h⟩
theorem retB_f {P : Prop} (h : ¬ P) : RetB P (.rt (.bool false)) := ⟨false, rfl, by simp [h]⟩
theorem retB_t {P : Prop} (h : P) : RetB P (.rt (.bool true)) := ⟨true, rfl, by simp [h]⟩
theorem retB_run {P : Prop} {np nN : Nat} {b : Ss} {Φ : Calls} {ds : List D} (hl : ds.length = np) (h : RetB P (exs b Φ (start1 nN ds))) : ∃ k : Bool, runB np nN b Φ ds = .ok (.bool k) ∧ (k = true ↔ P) := by
  obtain ⟨k, e, h⟩ := h
  exact ⟨k, (run_of hl).trans e, h⟩
def ItI (rs : List (List Nat × Int)) (rest : List ((List Nat × Int) × Nat)) (ρ : Env) : Prop := ∃ (k : Nat) (y1 y2 y3 : Option (Bool × D)), rs.zipIdx.drop k = rest ∧ k ≤ rs.length ∧ ρ = [some (false, .tuple (rs.map roomD)), y1, y2, y3] ∧ ∀ j r, j < k → rs[j]? = some r → okAt j r.2
theorem ltI (i j : Int) : cmpR .Lt (.int i) (.int j) = .ok (.bool (decide (i < j))) := id rfl
theorem is_tree_run (Φ : Calls) (rs : List (List Nat × Int)) : ∃ b : Bool, runB 1 4 b_is_tree Φ [.tuple (rs.map roomD)] = .ok (.bool b) ∧ (b = true ↔ TreeR rs) := by
  refine retB_run (by rfl) ?_
  unfold b_is_tree
  simp [start1]
  rw [enum_map]
  refine for_gen (RetB (TreeR rs)) (ItI rs) ?_ ?_ _ _ ⟨0, none, none, none, rfl, Nat.zero_le _, rfl, fun j r h => absurd h (Nat.not_lt_zero _)⟩
  · rintro ⟨⟨room, a⟩, i⟩ rest ρ ⟨k, y1, y2, y3, hd, hk, q, hok⟩
    subst q
    obtain ⟨hk1, hg, rfl, hrest⟩ := zdrop hd
    refine ⟨_, rfl, ?_⟩
    have hneg : negD 1 = .int (-1) := rfl
    have good : okAt i a → ItI rs rest [some (false, .tuple (rs.map roomD)), some (false, nD i), some (false, natsT room), some (false, .int a)] := fun h =>
      ⟨i + 1, _, _, _, hrest.symm, hk1, rfl, fun j r hj hr => by
        by_cases e : j = i
        · subst e
          rw [hg] at hr
          rw [← Option.some.inj hr]
          exact h
        · exact hok j r (by omega) hr⟩
    have bad : ¬ okAt i a → ¬ TreeR rs := fun h t => h (t.2 i _ hg)
    have e1 : ∀ x : Int, cmpR .NotEq (.int a) (.int x) = .ok (.bool (!(a == x))) := fun x => id rfl
    have e2 : cmpR .LtE (nD 0) (.int a) = .ok (.bool (decide (0 ≤ a))) := id rfl
    have e3 : cmpR .Lt (.int a) (nD i) = .ok (.bool (decide (a < i))) := id rfl
    by_cases h0 : i = 0
    · by_cases ha : a = -1
      · have g := good ⟨fun _ => ha, fun h => by omega⟩
        simp [roomD, h0, hneg, e1, ha] at g ⊢
        exact g
      · have b := bad fun h => ha (h.1 h0)
        simp [roomD, h0, hneg, e1, ha]
        exact retB_f b
    · have hp : 0 < i := by omega
      by_cases h1 : 0 ≤ a
      · by_cases h2 : a < i
        · have g := good ⟨fun h => absurd h h0, fun _ => ⟨h1, h2⟩⟩
          simp [roomD, h0, hp, linkC, lastC, tst, e2, e3, h1, h2] at g ⊢
          exact g
        · have b := bad fun h => h2 (h.2 hp).2
          simp [roomD, h0, hp, linkC, lastC, tst, e2, e3, h1, h2]
          exact retB_f b
      · have b := bad fun h => h1 (h.2 hp).1
        simp [roomD, h0, hp, linkC, lastC, tst, e2, e3, h1]
        exact retB_f b
  · rintro ρ ⟨k, y1, y2, y3, hd, hk, q, hok⟩
    subst q
    have hkl : rs.length ≤ k := by
      have := congrArg List.length hd
      simp at this
      omega
    simp
    refine retB_rt ?_
    unfold TreeR
    simp only [decide_eq_true_eq]
    constructor
    · intro h
      exact ⟨h, fun j r hr => hok j r (by have := (List.getElem?_eq_some_iff.mp hr).1; omega) hr⟩
    · exact fun h => h.1
def STree (Φ : Calls) : Prop := ∀ rs : List (List Nat × Int), ∃ b : Bool, Φ "is_tree" [.tuple (rs.map roomD)] = .ok (.bool b) ∧ (b = true ↔ TreeR rs)
end Pv

end
section
namespace Pv
open PySem

/-! ### rooms_hold -/
def rm (rs : List (List Nat × Int)) (k : Nat) : List Nat := (rs[k]?.getD ([], 0)).1
def up (rs : List (List Nat × Int)) (k : Nat) : Int := (rs[k]?.getD ([], 0)).2
def topB (rs : List (List Nat × Int)) (v k : Nat) : Bool := decide (v ∈ rm rs k) && (decide (k = 0) || !decide (v ∈ rm rs (up rs k).toNat))
def cntN (rs : List (List Nat × Int)) (k v : Nat) : Nat := ((List.range k).filter (topB rs v)).length
theorem cntN_succ (rs : List (List Nat × Int)) (k v : Nat) : cntN rs (k + 1) v = cntN rs k v + if topB rs v k then 1 else 0 := by
  unfold cntN
  rw [List.range_succ, List.filter_append, List.length_append]
  congr 1
  simp only [List.filter_cons, List.filter_nil]
  split <;> rfl
def HoldsR (c : Nat) (E : List (Nat × Nat)) (count : Nat) (rs : List (List Nat × Int)) : Prop :=
  TreeR rs ∧ (∀ (k : Nat) (r : List Nat × Int), rs[k]? = some r → r.1.length ≤ count) ∧ (∀ v, v < c → cntN rs rs.length v = 1) ∧ ∀ e ∈ E, ∃ r ∈ rs, e.1 ∈ r.1 ∧ e.2 ∈ r.1
def RoomsOk (c : Nat) (rs : List (List Nat × Int)) : Prop := rs.length ≤ 1000 ∧ ∀ r ∈ rs, r.1.Nodup ∧ ∀ x ∈ r.1, x < c
def rhE (g n r m t : D) (y5 y6 y7 y8 y9 y10 y11 y12 : Option (Bool × D)) : Env := [some (false, g), some (false, n), some (false, r), some (true, m), some (true, t), y5, y6, y7, y8, y9, y10, y11, y12]
def masksD (rs : List (List Nat × Int)) : D := .list (rs.map fun r => nD (maskN r.1))
def topsD (c : Nat) (f : Nat → Nat) : D := .list ((List.range c).map fun v => nD (f v))
def RhI (c : Nat) (E : List (Nat × Nat)) (count : Nat) (rs : List (List Nat × Int)) (rest : List ((List Nat × Int) × Nat)) (ρ : Env) : Prop := ∃ (k : Nat) (y5 y6 y7 y8 y9 y10 y11 y12 : Option (Bool × D)), rs.zipIdx.drop k = rest ∧ k ≤ rs.length ∧
  ρ = rhE (grD c E) (nD count) (.tuple (rs.map roomD)) (masksD rs) (topsD c (cntN rs k)) y5 y6 y7 y8 y9 y10 y11 y12 ∧ ∀ (j : Nat) (r : List Nat × Int), j < k → rs[j]? = some r → r.1.length ≤ count
def cntP (rs : List (List Nat × Int)) (k : Nat) (done : List Nat) (v : Nat) : Nat := cntN rs k v + if v ∈ done ∧ topB rs v k = true then 1 else 0
def RhJ (c : Nat) (E : List (Nat × Nat)) (count : Nat) (rs : List (List Nat × Int)) (k : Nat) (room : List Nat) (a : Int) (y5 y8 y11 y12 : Option (Bool × D)) (rest : List Nat) (ρ : Env) : Prop := ∃ (done : List Nat) (y7 : Option (Bool × D)), room = done ++ rest ∧
  ρ = rhE (grD c E) (nD count) (.tuple (rs.map roomD)) (masksD rs) (topsD c (cntP rs k done)) y5 (some (false, nD k)) y7 y8 (some (false, natsT room)) (some (false, .int a)) y11 y12
def RhK (c : Nat) (E : List (Nat × Nat)) (count : Nat) (rs : List (List Nat × Int)) (rest : List (Nat × Nat)) (ρ : Env) : Prop := ∃ (t : D) (y5 y6 y7 y8 y9 y10 y11 y12 : Option (Bool × D)), (∀ e ∈ rest, e ∈ E) ∧
  ρ = rhE (grD c E) (nD count) (.tuple (rs.map roomD)) (masksD rs) t y5 y6 y7 y8 y9 y10 y11 y12 ∧ ∀ e ∈ E, e ∈ rest ∨ ∃ r ∈ rs, e.1 ∈ r.1 ∧ e.2 ∈ r.1
theorem tops_at {c v : Nat} {f : Nat → Nat} (h : v < c) : ((List.range c).map fun v => nD (f v))[v]? = some (nD (f v)) := by
  rw [List.getElem?_map, List.getElem?_range h]; rfl
theorem tops_set {c v : Nat} {f g : Nat → Nat} (h : v < c) (hg : ∀ u, g u = if u = v then f v + 1 else f u) : ((List.range c).map fun v => nD (f v)).set v (nD (f v + 1)) = (List.range c).map fun v => nD (g v) := by
  apply List.ext_getElem?
  intro i
  rw [List.getElem?_set]
  by_cases hi : i < c
  · rw [tops_at hi, List.length_map, List.length_range]
    by_cases e : v = i
    · subst e
      rw [if_pos rfl, if_pos hi, tops_at hi, hg, if_pos rfl]
    · rw [if_neg e, tops_at hi, hg, if_neg fun z => e z.symm]
  · have e : v ≠ i := by omega
    rw [if_neg e, List.getElem?_eq_none (by simpa using hi), List.getElem?_eq_none (by simpa using hi)]
theorem rm_at {rs : List (List Nat × Int)} {k : Nat} {r : List Nat × Int} (h : rs[k]? = some r) : rm rs k = r.1 ∧ up rs k = r.2 := by
  unfold rm up
  rw [h]
  exact ⟨rfl, rfl⟩
theorem mask_at {rs : List (List Nat × Int)} {k : Nat} (h : k < rs.length) : (rs.map fun r => nD (maskN r.1))[k]? = some (nD (maskN (rm rs k))) := by
  rw [List.getElem?_map, List.getElem?_eq_getElem h]
  unfold rm
  rw [List.getElem?_eq_getElem h]; rfl
theorem edge_mask {l : List Nat} {a b : Nat} : (maskN l &&& maskN [a, b] == maskN [a, b]) = (decide (a ∈ l) && decide (b ∈ l)) := by
  rw [Bool.eq_iff_iff, beq_iff_eq, Bool.and_eq_true, decide_eq_true_eq, decide_eq_true_eq]
  constructor
  · intro h
    have key : ∀ x, x ∈ [a, b] → x ∈ l := fun x hx => by
      have t : (maskN [a, b]).testBit x = true := test_maskN.mpr hx
      rw [← h, Nat.testBit_and, Bool.and_eq_true, test_maskN] at t
      exact t.1
    exact ⟨key a (by simp), key b (by simp)⟩
  · rintro ⟨h1, h2⟩
    refine mask_ext fun v => ?_
    rw [Nat.testBit_and, Bool.and_eq_true, test_maskN, test_maskN]
    constructor
    · exact fun h => h.2
    · intro h
      refine ⟨?_, h⟩
      rcases List.mem_cons.mp h with rfl | h
      · exact h1
      · rw [List.mem_singleton.mp h]; exact h2
theorem rooms_hold_run {Φ : Calls} (h1 : STree Φ) (h2 : SMask Φ) {c : Nat} {E : List (Nat × Nat)} {count : Nat} {rs : List (List Nat × Int)} (hc : c ≤ 1000) (hE : EOk c E) (hr : RoomsOk c rs) :
    ∃ b : Bool, runB 3 13 b_rooms_hold_v2 Φ [grD c E, nD count, .tuple (rs.map roomD)] = .ok (.bool b) ∧ (b = true ↔ HoldsR c E count rs) := by
  refine retB_run (by rfl) ?_
  unfold b_rooms_hold_v2
  obtain ⟨t, e1, ht⟩ := h1 rs
  have hix : ixop (grD c E) (nD 0) = some (nD c) := rfl
  have hix1 : ixop (grD c E) (nD 1) = some (.tuple (E.map edgeD)) := rfl
  cases t with
  | false =>
    simp [start1, e1]
    exact retB_f fun h => by have := ht.mpr h.1; cases this
  | true =>
  have tr := ht.mp rfl
  simp [start1, e1]
  rw [lc_all rs roomD (fun r => nD (maskN r.1))]
  · simp [hix, rep_1 _ hc]
    rw [enum_map]
    refine for_gen (RetB (HoldsR c E count rs)) (RhI c E count rs) ?_ ?_ _ _ ⟨0, none, none, none, none, none, none, none, none, rfl, Nat.zero_le _, ?_, fun j r h => absurd h (Nat.not_lt_zero _)⟩
    · rintro ⟨⟨room, a⟩, i⟩ rest ρ ⟨k, y5, y6, y7, y8, y9, y10, y11, y12, hd, hk, q, hok⟩
      subst q
      obtain ⟨hk1, hg, rfl, hrest⟩ := zdrop hd
      refine ⟨_, rfl, ?_⟩
      obtain ⟨hrm, hup⟩ := rm_at hg
      obtain ⟨rnd, rlt⟩ := hr.2 (room, a) (List.mem_of_getElem? hg)
      by_cases hl : count < room.length
      · simp [rhE, roomD, hl]
        exact retB_f fun h => absurd (h.2.1 i (room, a) hg) (Nat.not_le.mpr hl)
      · simp [rhE, roomD, hl]
        refine for_gen (fun r => Aft (RhI c E count rs rest) _ (RetB (HoldsR c E count rs)) r) (RhJ c E count rs i room a y5 y8 y11 y12) ?_ ?_ _ _ ⟨[], y7, rfl, ?_⟩
        · rintro v vs ρ ⟨done, z7, hdn, q⟩
          subst q
          refine ⟨_, rfl, ?_⟩
          have hv : v < c := rlt v (by rw [hdn]; simp)
          have hvd : v ∉ done := fun q => by
            have rnd : room.Nodup := rnd
            rw [hdn, List.nodup_append] at rnd
            exact rnd.2.2 _ q _ (by simp) rfl
          have hvr : v ∈ rm rs i := by rw [hrm, hdn]; simp
          have hat : ixop (topsD c (cntP rs i done)) (nD v) = some (nD (cntP rs i done v)) := (atI_nn _ v).trans (tops_at hv)
          have hself : cntP rs i done v = cntN rs i v := by unfold cntP; rw [if_neg fun z => hvd z.1]; rfl
          have hset : ∀ (y7 : Option (Bool × D)), setS 4 (rhE (grD c E) (nD count) (.tuple (rs.map roomD)) (masksD rs) (topsD c (cntP rs i done)) y5 (some (false, nD i)) y7 y8 (some (false, natsT room)) (some (false, .int a)) y11 y12) (.ok (nD (cntP rs i done v + 1))) (.ok (nD v)) = .nx (rhE (grD c E) (nD count) (.tuple (rs.map roomD)) (masksD rs) (.list (((List.range c).map fun v => nD (cntP rs i done v)).set v (nD (cntP rs i done v + 1)))) y5 (some (false, nD i)) y7 y8 (some (false, natsT room)) (some (false, .int a)) y11 y12) := fun y7 => by
            rw [setS_ok (ds := (List.range c).map fun v => nD (cntP rs i done v)) (by rfl) (by simpa using hv)]
            rfl
          have add : topB rs v i = true → ((List.range c).map fun v => nD (cntP rs i done v)).set v (nD (cntP rs i done v + 1)) = (List.range c).map fun u => nD (cntP rs i (done ++ [v]) u) := fun ht => tops_set hv fun u => by
            by_cases e : u = v
            · subst e
              rw [if_pos rfl, hself]
              unfold cntP
              rw [if_pos ⟨by simp, ht⟩]
            · rw [if_neg e]
              unfold cntP
              congr 1
              simp [e]
          have stay : topB rs v i = false → cntP rs i done = cntP rs i (done ++ [v]) := fun ht => by
            funext u
            unfold cntP
            congr 1
            by_cases e : u = v
            · subst e; simp [ht]
            · simp [e]
          simp only [rhE] at hset
          by_cases h0 : i = 0
          · subst h0
            have ht : topB rs v 0 = true := by unfold topB; simp [hvr]
            simp [rhE, hat, hset]
            exact ⟨done ++ [v], some (false, nD v), by simp [hdn], by rw [add ht]; rfl⟩
          · obtain ⟨a0, a1⟩ := (tr.2 i _ hg).2 (by omega)
            obtain ⟨m, rfl⟩ : ∃ m : Nat, a = (m : Int) := ⟨a.toNat, by have : (0 : Int) ≤ a := a0; omega⟩
            have hm : m < i := by have : (m : Int) < (i : Int) := a1; omega
            have hmk : ixop (masksD rs) (.int (m : Int)) = some (nD (maskN (rm rs m))) := (atI_nn _ m).trans (mask_at (by omega))
            have hupm : (up rs i).toNat = m := by rw [hup]; simp
            have htop : topB rs v i = !(maskN (rm rs m)).testBit v := by
              unfold topB
              rw [hupm, decide_eq_true hvr, decide_eq_false h0, Bool.true_and, Bool.false_or]
              congr 1
              rw [Bool.eq_iff_iff, decide_eq_true_eq, test_maskN]
            have hz : (maskN (rm rs m) / 2 ^ v % 2 == 0) = !(maskN (rm rs m)).testBit v := by
              rw [← shr_test]
              have := Nat.mod_two_eq_zero_or_one (maskN (rm rs m) / 2 ^ v)
              rcases this with q | q <;> rw [q] <;> rfl
            cases ht : topB rs v i with
            | true =>
              rw [htop] at ht
              simp [rhE, h0, hmk, hz, ht, hat, hset]
              rw [htop] at add
              exact ⟨done ++ [v], some (false, nD v), by simp [hdn], by rw [add ht]; rfl⟩
            | false =>
              rw [htop] at ht
              simp [rhE, h0, hmk, hz, ht, hat, hset]
              rw [htop] at stay
              exact ⟨done ++ [v], some (false, nD v), by simp [hdn], by rw [stay ht]; rfl⟩
        · rintro ρ ⟨done, z7, hdn, q⟩
          subst q
          rw [List.append_nil] at hdn
          subst hdn
          refine ⟨i + 1, y5, some (false, nD i), z7, y8, some (false, natsT room), some (false, .int a), y11, y12, hrest.symm, hk1, ?_, fun j r hj hr => ?_⟩
          · have e : cntP rs i room = cntN rs (i + 1) := by
              funext u
              rw [cntN_succ]
              unfold cntP
              congr 1
              by_cases q : topB rs u i = true
              · have : u ∈ room := by
                  unfold topB at q
                  rw [Bool.and_eq_true, decide_eq_true_eq, hrm] at q
                  exact q.1
                rw [if_pos ⟨this, q⟩, if_pos q]
              · rw [if_neg fun z => q z.2, if_neg q]
            rw [← e]
          · by_cases e : j = i
            · subst e
              rw [hg] at hr
              rw [← Option.some.inj hr]
              exact Nat.not_lt.mp hl
            · exact hok j r (by omega) hr
        · have e : cntP rs i [] = cntN rs i := by
            funext u
            unfold cntP
            simp
          rw [e]
          rfl
    · rintro ρ ⟨k, y5, y6, y7, y8, y9, y10, y11, y12, hd, hk, q, hok⟩
      subst q
      have hkl : k = rs.length := by
        have := congrArg List.length hd
        simp at this
        omega
      subst hkl
      have hneq := neN_L ((List.range c).map (cntN rs rs.length)) (List.replicate c 1)
      have e1 : natsL ((List.range c).map (cntN rs rs.length)) = topsD c (cntN rs rs.length) := by
        show PyData.list (((List.range c).map (cntN rs rs.length)).map nD) = _
        unfold topsD
        rw [List.map_map]; rfl
      have e2 : natsL (List.replicate c 1) = .list (List.replicate c (nD 1)) := by
        show PyData.list ((List.replicate c 1).map nD) = _
        rw [List.map_replicate]
      rw [e1, e2] at hneq
      have hall : (List.range c).map (cntN rs rs.length) = List.replicate c 1 ↔ ∀ v, v < c → cntN rs rs.length v = 1 := by
        rw [List.eq_replicate_iff]
        simp
      by_cases hT : (List.range c).map (cntN rs rs.length) = List.replicate c 1
      · simp [rhE, hix, rep_1 _ hc, hneq, hT, hix1]
        refine for_gen (RetB (HoldsR c E count rs)) (RhK c E count rs) ?_ ?_ _ _ ⟨_, _, _, _, _, _, _, _, _, fun e he => he, rfl, fun e he => .inl he⟩
        · rintro ⟨a, b⟩ es ρ ⟨t, y5, y6, y7, y8, y9, y10, y11, y12, hm, q, hok2⟩
          subst q
          have hab := hE (a, b) (hm _ (by simp))
          have hmk : Φ "mask_of" [edgeD (a, b)] = .ok (nD (maskN [a, b])) := h2 [a, b] fun x hx => by
            rcases List.mem_cons.mp hx with rfl | hx
            · have := hab.1; simp at this; omega
            · have := hab.2; rw [List.mem_singleton.mp hx]; simp at this; omega
          refine ⟨_, rfl, ?_⟩
          simp [rhE, hmk]
          rw [lc_val rs (fun r => nD (maskN r.1)) (fun r => nD (maskN r.1)) (fun r => decide (a ∈ r.1) && decide (b ∈ r.1))]
          · have hcmp : cmpR .Eq (.list ((rs.filter fun r => decide (a ∈ r.1) && decide (b ∈ r.1)).map fun r => nD (maskN r.1))) (.list []) = .ok (.bool (decide ((rs.filter fun r => decide (a ∈ r.1) && decide (b ∈ r.1)).map (fun r => maskN r.1) = []))) := by
              have := eqN_L ((rs.filter fun r => decide (a ∈ r.1) && decide (b ∈ r.1)).map fun r => maskN r.1) []
              rw [natsL, List.map_map] at this
              exact this
            by_cases hem : (rs.filter fun r => decide (a ∈ r.1) && decide (b ∈ r.1)) = []
            · rw [Res.ok_bind, hcmp, hem]
              simp
              refine retB_f fun h => ?_
              obtain ⟨r, hr1, hr2, hr3⟩ := h.2.2.2 (a, b) (hm _ (by simp))
              have : r ∈ rs.filter fun r => decide (a ∈ r.1) && decide (b ∈ r.1) := List.mem_filter.mpr ⟨hr1, by simp [hr2, hr3]⟩
              rw [hem] at this
              cases this
            · rw [Res.ok_bind, hcmp]
              have hne : (rs.filter fun r => decide (a ∈ r.1) && decide (b ∈ r.1)).map (fun r => maskN r.1) ≠ [] := fun z => hem (List.map_eq_nil_iff.mp z)
              rw [decide_eq_false hne]
              simp
              refine ⟨t, _, y6, y7, _, y9, y10, y11, y12, fun e he => hm e (by simp [he]), rfl, fun e he => ?_⟩
              rcases hok2 e he with q | q
              · rcases List.mem_cons.mp q with rfl | q
                · obtain ⟨r, hr⟩ := List.exists_mem_of_ne_nil _ hem
                  obtain ⟨hr1, hr2⟩ := List.mem_filter.mp hr
                  rw [Bool.and_eq_true, decide_eq_true_eq, decide_eq_true_eq] at hr2
                  exact .inr ⟨r, hr1, hr2⟩
                · exact .inl q
              · exact .inr q
          · rfl
          · have := hr.1; omega
          · intro r hx
            refine ⟨_, rfl, ?_, fun _ => rfl⟩
            simp [wipeE, edge_mask]
        · rintro ρ ⟨t, y5, y6, y7, y8, y9, y10, y11, y12, hm, q, hok2⟩
          exact retB_t ⟨tr, fun k r h => hok k r (List.getElem?_eq_some_iff.mp h).1 h, hall.mp hT, fun e he => (hok2 e he).resolve_left (by simp)⟩
      · simp [rhE, hix, rep_1 _ hc, hneq, hT, hix1]
        exact retB_f fun h => hT (hall.mpr h.2.2.1)
    · have e : List.replicate c (nD 0) = (List.range c).map fun v => nD (cntN rs 0 v) := by
        apply List.ext_getElem (by simp)
        intro i h1 h2
        simp [cntN]
      simp [rhE, topsD, masksD, e]
  · simp
  · have := hr.1; omega
  · rintro ⟨room, a⟩ hx
    refine ⟨_, rfl, ?_⟩
    have := h2 room fun x hx' => by have := (hr.2 _ hx).2 x hx'; omega
    simp [wipeE, this]
def SHolds (Φ : Calls) : Prop := ∀ (c : Nat) (E : List (Nat × Nat)) (count : Nat) (rs : List (List Nat × Int)), c ≤ 1000 → EOk c E → RoomsOk c rs → ∃ b : Bool, Φ "rooms_hold" [grD c E, nD count, .tuple (rs.map roomD)] = .ok (.bool b) ∧ (b = true ↔ HoldsR c E count rs)
end Pv

end
section
namespace Pv
open PySem

/-! ### the rooms of an order are a tree of rooms -/
theorem need_cost {c : Nat} {E : List (Nat × Nat)} : ∀ (l : List Nat) (g B : Nat), (∀ x ∈ terms c E g l, x ≤ B) ↔ costN (wOrd c E) g l ≤ B
  | [], g, B => by simp [terms, costN]
  | x :: l, g, B => by
    unfold terms costN
    rw [List.forall_mem_cons, need_cost l, Nat.max_le]
    rfl
theorem needN_cost {c : Nat} {E : List (Nat × Nat)} {o : List Nat} : needN c E o = costN (wOrd c E) 0 o := by
  have key : ∀ B, needN c E o ≤ B ↔ costN (wOrd c E) 0 o ≤ B := fun B => by
    unfold needN maxL
    rw [foldl_max_le, need_cost]
    simp
  exact Nat.le_antisymm ((key _).mpr (Nat.le_refl _)) ((key _).mp (Nat.le_refl _))
section
variable {c : Nat} {E : List (Nat × Nat)} {o : List Nat}
theorem roomK_len (ho : o.Perm (List.range c)) {k : Nat} (hk : k < c) : (roomK c E o k).length = 1 + (beyL c E o (c - 1 - k)).length := by
  rw [← sort_room ho hk, List.length_mergeSort, List.length_append, List.length_singleton]; omega
theorem need_rooms (hc : 1 ≤ c) (ho : o.Perm (List.range c)) {B : Nat} : costN (wOrd c E) 0 o ≤ B ↔ ∀ k, k < c → (roomK c E o k).length ≤ B := by
  obtain ⟨ol, olen⟩ := perm_lt ho
  rw [cost_le0]
  have hterm : ∀ k (h : k < o.length), wOrd c E (maskN (o.take k)) o[k] = 1 + (beyL c E o k).length := fun k h => by
    unfold wOrd beyL
    rw [List.getElem?_eq_getElem h]; rfl
  constructor
  · intro h k hk
    have := h (c - 1 - k) (by omega)
    rw [hterm] at this
    rw [roomK_len ho hk]; exact this
  · intro h k hk
    have := h (c - 1 - k) (by omega)
    rw [roomK_len ho (by omega), show c - 1 - (c - 1 - k) = k by omega] at this
    rw [hterm]; exact this
theorem rm_rooms {k : Nat} (hk : k < c) : rm (roomsN c E o) k = roomK c E o k ∧ up (roomsN c E o) k = abv c E o k := rm_at (roomsN_at hk)
theorem idx_lt (ho : o.Perm (List.range c)) {v : Nat} (hv : v < c) : o.idxOf v < c ∧ o[o.idxOf v]?.getD 0 = v := by
  obtain ⟨ol, olen⟩ := perm_lt ho
  have hm : v ∈ o := ho.mem_iff.mpr (List.mem_range.mpr hv)
  have h1 : o.idxOf v < o.length := List.idxOf_lt_length_of_mem hm
  refine ⟨by omega, ?_⟩
  rw [List.getElem?_eq_getElem h1, List.getElem_idxOf]; rfl
theorem plc_at (ho : o.Perm (List.range c)) {v : Nat} (hv : v < c) : plc o v < c ∧ o[c - 1 - plc o v]?.getD 0 = v ∧ plc o v = c - 1 - o.idxOf v := by
  obtain ⟨ol, olen⟩ := perm_lt ho
  obtain ⟨h1, h2⟩ := idx_lt ho hv
  unfold plc
  rw [olen]
  refine ⟨by omega, ?_, rfl⟩
  rw [show c - 1 - (c - 1 - o.idxOf v) = o.idxOf v by omega]
  exact h2
theorem abv_ok (ho : o.Perm (List.range c)) {k : Nat} (hk : k < c) : okAt k (abv c E o k) := by
  obtain ⟨ol, olen⟩ := perm_lt ho
  have hp : ∀ x ∈ (beyL c E o (c - 1 - k)).map fun x => (plc o x : Int), 0 ≤ x ∧ x < k := fun x hx => by
    obtain ⟨y, hy, rfl⟩ := List.mem_map.mp hx
    have := plc_lt ho hk (bey_rev ho hk hy)
    omega
  have hle := (foldI_le (B := (((beyL c E o (c - 1 - k)).map fun x => (plc o x : Int)).foldl max (min 0 ((k : Int) - 1)))) _ _).mp (Int.le_refl _)
  have hm := foldI_mem ((beyL c E o (c - 1 - k)).map fun x => (plc o x : Int)) (min 0 ((k : Int) - 1))
  constructor
  · rintro rfl
    unfold abv
    rcases hm with h | h
    · rw [h]; rfl
    · have := hp _ h
      omega
  · intro hk0
    unfold abv
    refine ⟨by have := hle.1; omega, ?_⟩
    rcases hm with h | h
    · rw [h]; omega
    · exact (hp _ h).2
theorem abv_ge {k : Nat} {x : Nat} (h : x ∈ beyL c E o (c - 1 - k)) : (plc o x : Int) ≤ abv c E o k := by
  have hle := (foldI_le (B := (((beyL c E o (c - 1 - k)).map fun x => (plc o x : Int)).foldl max (min 0 ((k : Int) - 1)))) _ _).mp (Int.le_refl _)
  exact hle.2 _ (List.mem_map.mpr ⟨x, h, rfl⟩)
theorem room_place (ho : o.Perm (List.range c)) {k v : Nat} (hk : k < c) (h : v ∈ roomK c E o k) : v < c ∧ plc o v ≤ k ∧ (plc o v = k ∨ v ∈ beyL c E o (c - 1 - k)) := by
  obtain ⟨ol, olen⟩ := perm_lt ho
  rcases (mem_roomK ho hk).mp h with q | q
  · exact ⟨(mem_bitsN.mp q).1, Nat.le_of_lt (plc_lt ho hk (bey_rev ho hk q)), .inr q⟩
  · have hg : c - 1 - k < o.length := by omega
    rw [List.getElem?_eq_getElem hg] at q
    have q : v = o[c - 1 - k] := q
    have hv : v < c := q ▸ ol _ (List.getElem_mem hg)
    have : plc o v = k := by
      unfold plc
      rw [q, idx_get (ho.nodup_iff.mpr List.nodup_range) hg]
      omega
    exact ⟨hv, Nat.le_of_eq this, .inl this⟩
theorem mem_take_idx (nd : o.Nodup) {v n : Nat} (h : v ∈ o.take n) : o.idxOf v < n := by
  obtain ⟨i, hi, e⟩ := List.mem_iff_getElem.mp h
  rw [List.getElem_take] at e
  have h1 : i < n ∧ i < o.length := by rw [List.length_take] at hi; omega
  rw [← e, idx_get nd]
  exact h1.1
theorem take_of_idx {v n : Nat} (hm : v ∈ o) (h : o.idxOf v < n) : v ∈ o.take n := by
  have h1 : o.idxOf v < o.length := List.idxOf_lt_length_of_mem hm
  refine List.mem_iff_getElem.mpr ⟨o.idxOf v, by rw [List.length_take]; omega, ?_⟩
  rw [List.getElem_take, List.getElem_idxOf]
/-- what two nodes beyond one node see of one another -/
theorem bey_step (ho : o.Perm (List.range c)) {i j : Nat} {v : Nat} (hij : i < j) (hj : j < c) (hu : o[j]?.getD 0 ∈ beyL c E o i) (hv : v ∈ beyL c E o i) (hvj : j < o.idxOf v) : v ∈ beyL c E o j := by
  obtain ⟨ol, olen⟩ := perm_lt ho
  have nd : o.Nodup := ho.nodup_iff.mpr List.nodup_range
  have hi' : i < o.length := by omega
  have hj' : j < o.length := by omega
  have hget : o[j]?.getD 0 = o[j] := by rw [List.getElem?_eq_getElem hj']; rfl
  rw [hget] at hu
  obtain ⟨_, u1, u2, u3⟩ := (mem_beyL hi').mp hu
  obtain ⟨v0, v1, v2, v3⟩ := (mem_beyL hi').mp hv
  refine (mem_beyL hj').mpr ⟨v0, ?_, fun q => by have := mem_take_idx nd q; omega, fun q => by rw [q, idx_get nd hj'] at hvj; omega⟩
  have h1 : Lk E (fun y => y ∈ o.take i ∨ y = o[i]) o[j] v := (lk_step (g := fun y => y ∈ o.take i) fun y => Iff.rfl).mpr (.inr ⟨u1.symm, v1⟩)
  refine h1.mono fun y hy => ?_
  rcases hy with q | q
  · exact (List.take_subset_take_left o (Nat.le_of_lt hij)) q
  · rw [q]
    exact take_of_idx (List.getElem_mem _) (by rw [idx_get nd hi']; exact hij)
theorem top_iff (ho : o.Perm (List.range c)) {k v : Nat} (hk : k < c) (hv : v < c) : topB (roomsN c E o) v k = true ↔ k = plc o v := by
  obtain ⟨ol, olen⟩ := perm_lt ho
  have nd : o.Nodup := ho.nodup_iff.mpr List.nodup_range
  obtain ⟨p1, p2, p3⟩ := plc_at ho hv
  obtain ⟨e1, e2⟩ := rm_rooms (E := E) (o := o) hk
  have hok := abv_ok (E := E) ho hk
  unfold topB
  rw [Bool.and_eq_true, Bool.or_eq_true, decide_eq_true_eq, decide_eq_true_eq, Bool.not_eq_true', decide_eq_false_iff_not, e1, e2]
  constructor
  · rintro ⟨h1, h2⟩
    obtain ⟨_, h3, h4⟩ := room_place ho hk h1
    rcases h4 with h4 | h4
    · exact h4.symm
    · exfalso
      have hk0 : k ≠ 0 := by
        intro z
        have := plc_lt ho hk (bey_rev ho hk h4)
        omega
      have h2 := h2.resolve_left hk0
      obtain ⟨a0, a1⟩ := hok.2 (by omega)
      obtain ⟨a, ha⟩ : ∃ a : Nat, abv c E o k = (a : Int) := ⟨(abv c E o k).toNat, by omega⟩
      have hge := abv_ge h4
      rw [ha] at h2 hge a1
      have hac : a < c := by omega
      rw [show ((a : Int)).toNat = a by simp, (rm_rooms (E := E) (o := o) hac).1] at h2
      apply h2
      rw [mem_roomK ho hac]
      by_cases e : plc o v = a
      · exact .inr (by rw [← e]; exact p2.symm)
      · left
        rcases foldI_mem ((beyL c E o (c - 1 - k)).map fun x => (plc o x : Int)) (min 0 ((k : Int) - 1)) with q | q
        · have : abv c E o k = min 0 ((k : Int) - 1) := q
          omega
        · have q : abv c E o k ∈ _ := q
          obtain ⟨u, hu, hue⟩ := List.mem_map.mp q
          have huc := (mem_bitsN.mp hu).1
          obtain ⟨q1, q2, q3⟩ := plc_at ho huc
          have hua : plc o u = a := by rw [ha] at hue; exact Int.ofNat.inj hue
          rw [hua] at q2
          have hal : a < k := by omega
          refine bey_step ho (i := c - 1 - k) (j := c - 1 - a) (by omega) (by omega) (by rw [q2]; exact hu) h4 ?_
          have := (idx_lt ho hv).1
          omega
  · rintro rfl
    refine ⟨(mem_roomK ho hk).mpr (.inr p2.symm), ?_⟩
    by_cases h0 : plc o v = 0
    · exact .inl h0
    · refine .inr fun q => ?_
      obtain ⟨a0, a1⟩ := hok.2 (by omega)
      obtain ⟨a, ha⟩ : ∃ a : Nat, abv c E o (plc o v) = (a : Int) := ⟨(abv c E o (plc o v)).toNat, by omega⟩
      rw [ha] at q a1
      have hac : a < c := by omega
      rw [show ((a : Int)).toNat = a by simp, (rm_rooms (E := E) (o := o) hac).1] at q
      have := (room_place ho hac q).2.1
      omega
theorem edge_room (ho : o.Perm (List.range c)) {a b : Nat} (hab : adj E a b) (ha : a < c) (hb : b < c) (hi : o.idxOf a < o.idxOf b) : b ∈ roomK c E o (plc o a) ∧ a ∈ roomK c E o (plc o a) := by
  obtain ⟨ol, olen⟩ := perm_lt ho
  have nd : o.Nodup := ho.nodup_iff.mpr List.nodup_range
  obtain ⟨p1, p2, p3⟩ := plc_at ho ha
  obtain ⟨i1, i2⟩ := idx_lt ho ha
  refine ⟨(mem_roomK ho p1).mpr (.inl ?_), (mem_roomK ho p1).mpr (.inr p2.symm)⟩
  have hk : c - 1 - plc o a < o.length := by omega
  have hget : o[c - 1 - plc o a] = a := by
    rw [List.getElem?_eq_getElem hk] at p2; exact p2
  refine (mem_beyL hk).mpr ⟨hb, ?_, fun q => ?_, fun q => ?_⟩
  · rw [hget]
    exact ⟨a, InC.refl, hab⟩
  · have := mem_take_idx nd q
    omega
  · rw [hget] at q
    rw [q] at hi
    omega
theorem rooms_ok (hc : c ≤ 8) : RoomsOk c (roomsN c E o) := by
  refine ⟨by rw [roomsN_len]; omega, fun r hr => ?_⟩
  obtain ⟨k, hk, rfl⟩ := List.mem_map.mp hr
  exact ⟨(bits_asc _ _).nodup, fun x hx => (mem_bitsN.mp hx).1⟩
theorem rooms_holds (hc1 : 1 ≤ c) (hg : GOk c E) (ho : o.Perm (List.range c)) {count : Nat} : HoldsR c E count (roomsN c E o) ↔ costN (wOrd c E) 0 o ≤ count := by
  rw [need_rooms hc1 ho]
  constructor
  · intro h k hk
    exact h.2.1 k _ (roomsN_at hk)
  · intro h
    have hat : ∀ k r, (roomsN c E o)[k]? = some r → k < c ∧ r = (roomK c E o k, abv c E o k) := fun k r q => by
      have hk : k < c := by have := (List.getElem?_eq_some_iff.mp q).1; rwa [roomsN_len] at this
      rw [roomsN_at hk] at q
      exact ⟨hk, (Option.some.inj q).symm⟩
    refine ⟨⟨by rw [roomsN_len]; omega, fun k r q => ?_⟩, fun k r q => ?_, fun v hv => ?_, fun e he => ?_⟩
    · obtain ⟨hk, rfl⟩ := hat k r q
      exact abv_ok ho hk
    · obtain ⟨hk, rfl⟩ := hat k r q
      exact h k hk
    · unfold cntN
      rw [roomsN_len]
      have : ((List.range c).filter (topB (roomsN c E o) v)).length = [plc o v].length := len_of_mem ((range_asc c).nodup.filter _) (by simp) fun x => by
        rw [List.mem_filter, List.mem_range, List.mem_singleton]
        constructor
        · rintro ⟨hx, q⟩; exact (top_iff ho hx hv).mp q
        · rintro rfl; exact ⟨(plc_at ho hv).1, (top_iff ho (plc_at ho hv).1 hv).mpr rfl⟩
      exact this
    · obtain ⟨q1, q2⟩ := hg.lt e he
      have hadj : adj E e.1 e.2 := .inl he
      have hne : o.idxOf e.1 ≠ o.idxOf e.2 := fun z => by
        have h1 := (idx_lt ho (v := e.1) (by omega)).2
        have h2 := (idx_lt ho (v := e.2) (by omega)).2
        rw [z, h2] at h1
        omega
      rcases Nat.lt_or_gt_of_ne hne with z | z
      · obtain ⟨r1, r2⟩ := edge_room ho hadj (by omega) (by omega) z
        exact ⟨_, List.mem_map.mpr ⟨plc o e.1, List.mem_range.mpr (plc_at ho (by omega)).1, rfl⟩, r2, r1⟩
      · obtain ⟨r1, r2⟩ := edge_room ho (adj_symm hadj) (by omega) (by omega) z
        exact ⟨_, List.mem_map.mpr ⟨plc o e.2, List.mem_range.mpr (plc_at ho (by omega)).1, rfl⟩, r1, r2⟩
end
end Pv

end
section
namespace Pv
open PySem

theorem enc_i (n : Nat) : EncOk PyData.int n := ⟨fun a b => by
  rw [PyData.eqv]
  rw [Bool.eq_iff_iff]; simp, fun a => ⟨rfl, Nat.zero_le _⟩⟩
theorem enc_room (n : Nat) : EncOk roomD (n + 2) := ⟨fun a b => by
  show PyData.eqv (.tuple [natsT a.1, .int a.2]) (.tuple [natsT b.1, .int b.2]) = _
  rw [PyData.eqv, PyData.eqvAll, PyData.eqvAll, PyData.eqvAll, (enc_i n).eq, (enc_n n).tup.eq]
  obtain ⟨a1, a2⟩ := a
  obtain ⟨b1, b2⟩ := b
  by_cases h1 : a1 = b1 <;> by_cases h2 : a2 = b2 <;> simp [h1, h2], fun a => okN_tup fun d hd => by
  rcases List.mem_cons.mp hd with rfl | hd
  · exact okN_natsT n _
  · rw [List.mem_singleton.mp hd]
    exact ⟨rfl, Nat.zero_le _⟩⟩
theorem isN_b (a b : Bool) : cmpR .IsNot (.bool a) (.bool b) = .ok (.bool (!decide (a = b))) := id rfl
theorem is_b (a b : Bool) : cmpR .Is (.bool a) (.bool b) = .ok (.bool (decide (a = b))) := id rfl
def SLRooms (Φ : Calls) : Prop := ∀ c E o, c ≤ 8 → EOk c E → E.length ≤ 64 → o.Perm (List.range c) → Φ "_law_rooms" [grD c E, natsT o] = .ok (.tuple ((roomsN c E o).map roomD))
def K8I (s : D) (rest : List (Int × Nat)) (ρ : Env) : Prop := ∃ (y1 y2 y3 y4 y5 y6 y7 : Option (Bool × D)), ρ = [some (false, s), y1, y2, y3, y4, y5, y6, y7]
theorem k08_run {Φ : Calls} (h1 : SMixed Φ) (h2 : SGraph Φ) (h3 : SOrder Φ) (h4 : SNeed Φ) (h5 : SLONeed Φ) (h6 : SRooms Φ) (h7 : SLRooms Φ) (h8 : SHolds Φ) (ns : List Int) (hn : ns.length ≤ 63) : runB 1 8 b_law_v4 Φ [.list (ns.map PyData.int)] = .ok (.bool true) := by
  refine (run_of (by rfl)).trans ?_
  unfold b_law_v4
  have hcut' : slop (.list (ns.map PyData.int)) none (some 8) = some (.list ((ns.take 8).map PyData.int)) := by
    have : slop (.list (ns.map PyData.int)) none (some ((8 : Nat) : Int)) = some (.list ((ns.take 8).map PyData.int)) := by rw [cut_take, List.map_take]
    exact this
  simp [start1, hcut', -List.map_take]
  rw [enum_map]
  refine for_EI (K8I (.list (ns.map PyData.int))) ⟨none, none, none, none, none, none, none, rfl⟩ ?_ ?_
  · rintro ⟨cell, turn⟩ rest ρ ⟨y1, y2, y3, y4, y5, y6, y7, q⟩
    subst q
    refine ⟨_, rfl, ?_⟩
    obtain ⟨v, e1⟩ := h1 cell turn
    obtain ⟨c, E, e2, c1, c8, g⟩ := h2 (v / 9) 8 (by omega) (by omega)
    obtain ⟨order, e3, op⟩ := h3 v c (by omega)
    obtain ⟨olt, olen⟩ := perm_lt op
    have e4 := h4 c E order c8 g.e olt
    rw [needN_cost] at e4
    have e5 := h5 c E order c1 c8 g.e g.len op
    have e6 := h6 c E order c8 g.e op
    have e7 := h7 c E order c8 g.e g.len op
    obtain ⟨need, hneed⟩ : ∃ n, n = costN (wOrd c E) 0 order := ⟨_, rfl⟩
    rw [← hneed] at e4 e5
    have hpos : 1 ≤ need := by
      have := (need_rooms (E := E) c1 op (B := need)).mp (by omega) 0 (by omega)
      rw [roomK_len op (by omega)] at this
      omega
    obtain ⟨b1, e8, b1h⟩ := h8 c E need (roomsN c E order) (by omega) g.e (rooms_ok c8)
    obtain ⟨b2, e9, b2h⟩ := h8 c E (need - 1) (roomsN c E order) (by omega) g.e (rooms_ok c8)
    rw [rooms_holds c1 g op] at b1h b2h
    have hb1 : b1 = true := b1h.mpr (by omega)
    have hb2 : b2 = false := by
      cases b2 with
      | false => rfl
      | true => have := b2h.mp rfl; omega
    subst hb1
    subst hb2
    have hix : ixop (grD c E) (nD 0) = some (nD c) := rfl
    have hne : cmpR .NotEq (.tuple ((roomsN c E order).map roomD)) (.tuple ((roomsN c E order).map roomD)) = .ok (.bool false) := by
      rw [cmp_neT (enc_room 0) (by omega)]; simp
    simp [e1, bin_div, e2, hix, e3, e4, e5, e6, e7, isiop, hne, e8, isN_b, bin_sub hpos, e9]
    exact ⟨_, _, _, _, _, _, _, rfl⟩
  · rintro ρ ⟨y1, y2, y3, y4, y5, y6, y7, q⟩
    subst q
    simp
end Pv

end
section
namespace Pv
open PySem

/-! ### k09: the judge of rooms -/
theorem cut_lastT {xs : List D} : slop (.tuple xs) none (some (-1)) = some (.tuple xs.dropLast) := by
  show some (PyData.tuple (cutL xs none (some (-1)))) = _
  show some (PyData.tuple ((xs.drop 0).take (HT.sIx xs.length xs.length (some (-1)) - 0))) = some (PyData.tuple xs.dropLast)
  have e : HT.sIx xs.length xs.length (some (-1)) = xs.length - 1 := by
    show (if (-1 : Int) < 0 then ((-1 : Int) + (xs.length : Int)).toNat else min (-1 : Int).toNat xs.length) = _
    rw [if_pos (by decide)]
    omega
  rw [e, List.drop_zero, Nat.sub_zero, List.dropLast_eq_take]
@[simp] theorem trev_tup (ds : List D) : trev (.tuple ds) = .ok (.tuple ds.reverse) := id rfl
def RoomsN (c N : Nat) (rs : List (List Nat × Int)) : Prop := rs ≠ [] ∧ rs.length ≤ N ∧ ∀ r ∈ rs, r.1.Nodup ∧ ∀ x ∈ r.1, x < c
theorem RoomsN.ok {c N : Nat} {rs : List (List Nat × Int)} (h : RoomsN c N rs) (hN : N ≤ 1000) : RoomsOk c rs := ⟨Nat.le_trans h.2.1 hN, h.2.2⟩
def SSpoilR (Φ : Calls) : Prop := ∀ (c : Nat) (E : List (Nat × Nat)) (rs : List (List Nat × Int)) (N v : Nat), 1 ≤ c → c ≤ 8 → N ≤ 100 → RoomsN c N rs → ∃ rs', Φ "_law_spoilt" [grD c E, .tuple (rs.map roomD), nD v] = .ok (.tuple (rs'.map roomD)) ∧ RoomsN c (N + 1) rs'
theorem spoil_swap {c N : Nat} {rs : List (List Nat × Int)} {r : List Nat × Int} {i : Nat} (h : RoomsN c N rs) (hi : i < rs.length) (hr : r.1.Nodup ∧ ∀ x ∈ r.1, x < c) : RoomsN c (N + 1) (rs.take i ++ r :: rs.drop (i + 1)) := by
  refine ⟨by simp, ?_, fun x hx => ?_⟩
  · simp
    have := h.2.1
    omega
  · rcases List.mem_append.mp hx with q | q
    · exact h.2.2 x (List.mem_of_mem_take q)
    · rcases List.mem_cons.mp q with rfl | q
      · exact hr
      · exact h.2.2 x (List.mem_of_mem_drop q)
theorem law_spoilt_run (Φ : Calls) {c : Nat} {E : List (Nat × Nat)} {rs : List (List Nat × Int)} {N v : Nat} (hc1 : 1 ≤ c) (hc : c ≤ 8) (hN : N ≤ 100) (h : RoomsN c N rs) :
    ∃ rs', runB 3 9 b__law_spoilt_v4 Φ [grD c E, .tuple (rs.map roomD), nD v] = .ok (.tuple (rs'.map roomD)) ∧ RoomsN c (N + 1) rs' := by
  suffices h : ∃ rs', endR (exs b__law_spoilt_v4 Φ (start1 9 [grD c E, .tuple (rs.map roomD), nD v])) = .ok (.tuple (rs'.map roomD)) ∧ RoomsN c (N + 1) rs' by
    obtain ⟨rs', e, h⟩ := h
    exact ⟨rs', (run_of (by rfl)).trans e, h⟩
  unfold b__law_spoilt_v4
  have hpos : 0 < rs.length := List.length_pos_iff.mpr h.1
  have hlen := h.2.1
  have hi : v / 8 % rs.length < rs.length := Nat.mod_lt _ hpos
  obtain ⟨i, hie⟩ : ∃ i, i = v / 8 % rs.length := ⟨_, rfl⟩
  obtain ⟨⟨room, a⟩, hg⟩ : ∃ r, rs[i]? = some r := ⟨_, List.getElem?_eq_getElem (hie ▸ hi)⟩
  rw [← hie] at hi
  have hix : ixop (grD c E) (nD 0) = some (nD c) := rfl
  have hgi : (rs.map roomD)[i]? = some (.tuple [natsT room, .int a]) := by rw [List.getElem?_map, hg]; rfl
  have rnd : room.Nodup := (h.2.2 (room, a) (List.mem_of_getElem? hg)).1
  have rlt : ∀ x ∈ room, x < c := (h.2.2 (room, a) (List.mem_of_getElem? hg)).2
  have c1 : slop (.tuple (rs.map roomD)) none (some (i : Int)) = some (.tuple ((rs.map roomD).take i)) := cut_takeT
  have c2 : slop (.tuple (rs.map roomD)) (some ((i : Int) + 1)) none = some (.tuple ((rs.map roomD).drop (i + 1))) := by
    have := cut_dropT (xs := rs.map roomD) (n := i + 1)
    rw [Int.natCast_add] at this
    exact this
  have c3 : slop (.tuple (rs.map roomD)) none (some (-1)) = some (.tuple (rs.map roomD).dropLast) := cut_lastT
  have add2 : ∀ xs ys : List D, xs.length + ys.length ≤ 1000 → binop .Add (.tuple xs) (.tuple ys) = some (.tuple (xs ++ ys)) := fun xs ys q => by
    show (if sm _ then some _ else none) = _
    unfold sm
    rw [if_pos (decide_eq_true (by omega))]
  have mid : ∀ x : D, binop .Add (.tuple ((rs.map roomD).take i)) (.tuple [x]) = some (.tuple ((rs.map roomD).take i ++ [x])) := fun x => add2 _ _ (by simp; omega)
  have fin : ∀ x : D, binop .Add (.tuple ((rs.map roomD).take i ++ [x])) (.tuple ((rs.map roomD).drop (i + 1))) = some (.tuple ((rs.map roomD).take i ++ x :: (rs.map roomD).drop (i + 1))) := fun x => by
    rw [add2 _ _ (by simp; omega)]
    simp
  have out : ∀ (r : List Nat) (b : Int), .tuple ((rs.map roomD).take i ++ .tuple [natsT r, .int b] :: (rs.map roomD).drop (i + 1)) = PyData.tuple ((rs.take i ++ (r, b) :: rs.drop (i + 1)).map roomD) := fun r b => by simp [roomD]
  have htup : ∀ l : List D, bltop .tuple [.list l] = some (.tuple l) := fun _ => rfl
  by_cases k0 : v % 8 = 0
  · simp [start1, bin_div, bin_mod, hpos, ← hie, hgi, hix, show 0 < c by omega, -List.getElem?_map, k0]
    exact ⟨rs, rfl, h.1, by omega, h.2.2⟩
  · by_cases k3 : v % 8 < 3
    · simp [start1, bin_div, bin_mod, hpos, ← hie, hgi, hix, show 0 < c by omega, -List.getElem?_map, k0, k3, c1, c2]
      rw [lc_val room nD nD (fun x => !(x == v / 64 % c))]
      · simp [htup, mid, fin, out, -List.map_append, -List.map_cons, -List.map_drop, -List.map_take]
        exact ⟨_, rfl, spoil_swap h hi ⟨List.Pairwise.filter _ rnd, fun x hx => rlt x (List.mem_filter.mp hx).1⟩⟩
      · simp
      · have := nodup_len rnd rlt; omega
      · intro x hx
        refine ⟨_, rfl, ?_, fun _ => rfl⟩
        simp [wipeE]
    · by_cases k3' : v % 8 = 3
      · have hadd : binop .Add (natsT room) (.tuple [nD (v / 64 % c)]) = some (natsT (room ++ [v / 64 % c])) := by
          have hl := nodup_len rnd rlt
          rw [add2 _ _ (by simp at hl ⊢; omega)]
          simp
        have hss : ssR (natsT (room ++ [v / 64 % c])) = .ok (natsL (bitsN c (maskN (room ++ [v / 64 % c])))) := by
          have hl := nodup_len rnd rlt
          refine ssR_n (l := room ++ [v / 64 % c]) (bits_asc _ _) (fun x => ?_) (by simp at hl ⊢; omega) ?_
          · rw [mem_bitsN, test_maskN]
            refine ⟨fun q => q.2, fun q => ⟨?_, q⟩⟩
            rcases List.mem_append.mp q with q | q
            · exact rlt x q
            · rw [List.mem_singleton.mp q]; exact Nat.mod_lt _ (by omega)
          · have := nodup_len (bits_asc c (maskN (room ++ [v / 64 % c]))).nodup fun x hx => (mem_bitsN.mp hx).1
            omega
        simp [start1, bin_div, bin_mod, hpos, ← hie, hgi, hix, show 0 < c by omega, -List.getElem?_map, k3', c1, c2, hadd, hss]
        simp [htup, mid, fin, out, -List.map_append, -List.map_cons, -List.map_drop, -List.map_take]
        exact ⟨_, rfl, spoil_swap (r := (bitsN c (maskN (room ++ [v / 64 % c])), a)) h hi ⟨(bits_asc _ _).nodup, fun x hx => (mem_bitsN.mp hx).1⟩⟩
      · by_cases k4 : v % 8 = 4
        · have hsub : ∀ n : Nat, binop .Sub (nD n) (nD 2) = some (.int ((n : Int) - 2)) := fun _ => rfl
          simp [start1, bin_div, bin_mod, hpos, ← hie, hgi, hix, show 0 < c by omega, -List.getElem?_map, k4, c1, c2, hsub, bin_add]
          simp [htup, mid, fin, out, -List.map_append, -List.map_cons, -List.map_drop, -List.map_take]
          exact ⟨_, rfl, spoil_swap h hi ⟨rnd, rlt⟩⟩
        · by_cases k5 : v % 8 = 5
          · have hadd : binop .Add (.tuple (rs.map roomD)) (.tuple [.tuple [natsT room, nD i]]) = some (.tuple ((rs ++ [(room, (i : Int))]).map roomD)) := by
              rw [add2 _ _ (by simp; omega)]
              simp [roomD]; rfl
            simp [start1, bin_div, bin_mod, hpos, ← hie, hgi, hix, show 0 < c by omega, -List.getElem?_map, k5, hadd]
            refine ⟨rs ++ [(room, (i : Int))], by simp, by simp, by simp; omega, fun x hx => ?_⟩
            rcases List.mem_append.mp hx with q | q
            · exact h.2.2 x q
            · rw [List.mem_singleton.mp q]; exact ⟨rnd, rlt⟩
          · by_cases k6 : v % 8 = 6 ∧ 1 < rs.length
            · simp [start1, bin_div, bin_mod, hpos, ← hie, hgi, hix, show 0 < c by omega, -List.getElem?_map, k6.1, k6.2, c3, show negD 1 = .int (-1) from rfl, intR]
              refine ⟨rs.dropLast, by rw [List.map_dropLast], fun z => ?_, by rw [List.length_dropLast]; omega, fun x hx => h.2.2 x ((List.dropLast_sublist rs).subset hx)⟩
              have h9 := congrArg List.length z
              rw [List.length_dropLast, List.length_nil] at h9
              have := k6.2
              omega
            · have rv : ∃ rs', (rs.map roomD).reverse = rs'.map roomD ∧ RoomsN c (N + 1) rs' := ⟨rs.reverse, by rw [List.map_reverse], by simpa using h.1, by simp; omega, fun x hx => h.2.2 x (List.mem_reverse.mp hx)⟩
              by_cases k7 : v % 8 = 6
              · have k8 : ¬ 1 < rs.length := fun z => k6 ⟨k7, z⟩
                simp [start1, bin_div, bin_mod, hpos, ← hie, hgi, hix, show 0 < c by omega, -List.getElem?_map, k7, k8]
                simpa [start1] using rv
              · simp [start1, bin_div, bin_mod, hpos, ← hie, hgi, hix, show 0 < c by omega, -List.getElem?_map, k0, k3, k3', k4, k5, k7]
                simpa [start1] using rv
end Pv

end
section
namespace Pv
open PySem

theorem enc_room_ix {rs : List (List Nat × Int)} {k : Nat} (h : k < rs.length) : (rs.map roomD)[k]? = some (.tuple [natsT (rm rs k), .int (up rs k)]) := by
  unfold rm up
  rw [List.getElem?_map, List.getElem?_eq_getElem h]; rfl
def lgE9 (g n r : D) (y3 y4 y5 y6 y7 y8 y9 : Option (Bool × D)) : Env := [some (false, g), some (false, n), some (false, r), y3, y4, y5, y6, y7, y8, y9]
def RgA (g : D) (count : Nat) (rs : List (List Nat × Int)) (rest : List Nat) (ρ : Env) : Prop := ∃ (k : Nat) (y3 y5 : Option (Bool × D)), rest = (List.range rs.length).drop k ∧ k ≤ rs.length ∧ ρ = lgE9 g (nD count) (.tuple (rs.map roomD)) y3 none y5 none none none none ∧ ∀ j, j < k → okAt j (up rs j) ∧ (rm rs j).length ≤ count
def RgB (g : D) (c count : Nat) (rs : List (List Nat × Int)) (rest : List Nat) (ρ : Env) : Prop := ∃ (v : Nat) (y3 y4 y5 y6 : Option (Bool × D)), rest = (List.range c).drop v ∧ v ≤ c ∧ ρ = lgE9 g (nD count) (.tuple (rs.map roomD)) y3 y4 y5 y6 none none none ∧ ∀ u, u < v → cntN rs rs.length u = 1
def RgC (g : D) (count : Nat) (rs : List (List Nat × Int)) (v : Nat) (y5 : Option (Bool × D)) (rest : List Nat) (ρ : Env) : Prop := ∃ (k : Nat) (y3 : Option (Bool × D)), rest = (List.range rs.length).drop k ∧ k ≤ rs.length ∧ ρ = lgE9 g (nD count) (.tuple (rs.map roomD)) y3 (some (false, nD v)) y5 (some (false, nD (cntN rs k v))) none none none
def RgD (g : D) (E : List (Nat × Nat)) (count : Nat) (rs : List (List Nat × Int)) (rest : List (Nat × Nat)) (ρ : Env) : Prop := ∃ (y3 y4 y5 y6 y7 y8 y9 : Option (Bool × D)), (∀ e ∈ rest, e ∈ E) ∧ ρ = lgE9 g (nD count) (.tuple (rs.map roomD)) y3 y4 y5 y6 y7 y8 y9 ∧ ∀ e ∈ E, e ∈ rest ∨ ∃ r ∈ rs, e.1 ∈ r.1 ∧ e.2 ∈ r.1
theorem law_right_run (Φ : Calls) {c : Nat} {E : List (Nat × Nat)} {count : Nat} {rs : List (List Nat × Int)} (hc : c ≤ 1000) (hr : RoomsOk c rs) :
    ∃ b : Bool, runB 3 10 b__law_right Φ [grD c E, nD count, .tuple (rs.map roomD)] = .ok (.bool b) ∧ (b = true ↔ HoldsR c E count rs) := by
  refine retB_run (by rfl) ?_
  unfold b__law_right
  have hix : ixop (grD c E) (nD 0) = some (nD c) := rfl
  have hix1 : ixop (grD c E) (nD 1) = some (.tuple (E.map edgeD)) := rfl
  have hlen := hr.1
  have heq : cmpR .Eq (.tuple (rs.map roomD)) (.tuple []) = .ok (.bool (decide (rs = []))) := cmp_eqT (enc_room 0) (by omega) rs []
  by_cases hem : rs = []
  · subst hem
    have heq : cmpR .Eq (.tuple ([].map roomD)) (.tuple []) = .ok (.bool true) := heq
    simp at heq
    simp [start1, heq]
    exact retB_f fun h => by have := h.1.1; simp at this
  · simp [start1, heq, hem, rng_n (show rs.length ≤ 1000000 by omega)]
    refine for_gen (RetB (HoldsR c E count rs)) (RgA (grD c E) count rs) ?_ ?_ _ _ ⟨0, none, none, rfl, Nat.zero_le _, rfl, fun j h => absurd h (Nat.not_lt_zero _)⟩
    · rintro i rest ρ ⟨k, y3, y5, hd, hk, q, hok⟩
      subst q
      obtain ⟨rfl, hk1, hrest⟩ := drop_range hd.symm
      refine ⟨_, rfl, ?_⟩
      obtain ⟨a, ha⟩ : ∃ a, a = up rs i := ⟨_, rfl⟩
      obtain ⟨room, hroom⟩ : ∃ r, r = rm rs i := ⟨_, rfl⟩
      have hat := enc_room_ix hk1
      rw [← ha, ← hroom] at hat
      have hix2 : ixop (.tuple (rs.map roomD)) (nD i) = some (.tuple [natsT room, .int a]) := (atI_nn _ i).trans hat
      have hi0 : ixop (.tuple [natsT room, .int a]) (nD 0) = some (natsT room) := rfl
      have hi1 : ixop (.tuple [natsT room, .int a]) (nD 1) = some (.int a) := rfl
      have hneg : negD 1 = .int (-1) := rfl
      have e1 : ∀ x : Int, cmpR .NotEq (.int a) (.int x) = .ok (.bool (!(a == x))) := fun x => id rfl
      have e2 : cmpR .Lt (.int a) (nD 0) = .ok (.bool (decide (a < 0))) := id rfl
      have e3 : cmpR .GtE (.int a) (nD i) = .ok (.bool (decide ((i : Int) ≤ a))) := id rfl
      have hget : rs[i]? = some (room, a) := by
        rw [hroom, ha]
        unfold rm up
        rw [List.getElem?_eq_getElem hk1]; rfl
      have good : okAt i a → room.length ≤ count → RgA (grD c E) count rs rest (lgE9 (grD c E) (nD count) (.tuple (rs.map roomD)) (some (false, nD i)) none (some (false, .int a)) none none none none) := fun h h' =>
        ⟨i + 1, _, _, hrest, hk1, rfl, fun j hj => by
          by_cases e : j = i
          · subst e
            rw [← ha, ← hroom]; exact ⟨h, h'⟩
          · exact hok j (by omega)⟩
      have bad1 : ¬ okAt i a → ¬ HoldsR c E count rs := fun h t => h (t.1.2 i _ hget)
      have bad2 : ¬ room.length ≤ count → ¬ HoldsR c E count rs := fun h t => h (t.2.1 i _ hget)
      by_cases hl : room.length ≤ count
      · have hl' : ¬ count < room.length := by omega
        by_cases h0 : i = 0
        · subst h0
          by_cases hm : a = -1
          · have g := good ⟨fun _ => hm, fun h => by omega⟩ hl
            subst hm
            simp [lgE9, hix2, hi0, hi1, hneg, e1, hl'] at g ⊢
            exact g
          · have b := bad1 fun h => hm (h.1 rfl)
            simp [lgE9, hix2, hi0, hi1, hneg, e1, hm]
            exact retB_f b
        · have hp : 0 < i := by omega
          by_cases h1 : a < 0
          · have b := bad1 fun h => by have := (h.2 hp).1; omega
            simp [lgE9, hix2, hi0, hi1, h0, hp, e2, h1]
            exact retB_f b
          · by_cases h2 : (i : Int) ≤ a
            · have b := bad1 fun h => by have := (h.2 hp).2; omega
              simp [lgE9, hix2, hi0, hi1, h0, hp, e2, h1, e3, h2]
              exact retB_f b
            · have g := good ⟨fun h => absurd h h0, fun _ => ⟨by omega, by omega⟩⟩ hl
              simp [lgE9, hix2, hi0, hi1, h0, hp, e2, h1, e3, h2, hl'] at g ⊢
              exact g
      · have hl' : count < room.length := by omega
        have b := bad2 hl
        by_cases h0 : i = 0
        · subst h0
          by_cases hm : a = -1
          · subst hm
            simp [lgE9, hix2, hi0, hi1, hneg, e1, hl']
            exact retB_f b
          · simp [lgE9, hix2, hi0, hi1, hneg, e1, hm]
            exact retB_f b
        · have hp : 0 < i := by omega
          by_cases h1 : a < 0
          · simp [lgE9, hix2, hi0, hi1, h0, hp, e2, h1]
            exact retB_f b
          · by_cases h2 : (i : Int) ≤ a
            · simp [lgE9, hix2, hi0, hi1, h0, hp, e2, h1, e3, h2]
              exact retB_f b
            · simp [lgE9, hix2, hi0, hi1, h0, hp, e2, h1, e3, h2, hl']
              exact retB_f b
    · rintro ρ ⟨k, y3, y5, hd, hk, q, hok⟩
      subst q
      have hkl : k = rs.length := by
        have := congrArg List.length hd
        simp at this
        omega
      subst hkl
      have tr : TreeR rs := ⟨List.length_pos_iff.mpr hem, fun j r q => by
        have hj := (List.getElem?_eq_some_iff.mp q).1
        have := (hok j hj).1
        rwa [(rm_at q).2] at this⟩
      have hwid : ∀ (k : Nat) (r : List Nat × Int), rs[k]? = some r → r.1.length ≤ count := fun j r q => by
        have hj := (List.getElem?_eq_some_iff.mp q).1
        have := (hok j hj).2
        rwa [(rm_at q).1] at this
      simp [lgE9, hix, rng_n (show c ≤ 1000000 by omega)]
      refine for_gen (RetB (HoldsR c E count rs)) (RgB (grD c E) c count rs) ?_ ?_ _ _ ⟨0, y3, none, y5, none, rfl, Nat.zero_le _, rfl, fun j h => absurd h (Nat.not_lt_zero _)⟩
      · rintro v rest ρ ⟨v', y3, y4, y5, y6, hd, hv, q, hcn⟩
        subst q
        obtain ⟨rfl, hv1, hrest⟩ := drop_range hd.symm
        refine ⟨_, rfl, ?_⟩
        simp [lgE9, rng_n (show rs.length ≤ 1000000 by omega)]
        refine for_gen (fun r => Aft (RgB (grD c E) c count rs rest) _ (RetB (HoldsR c E count rs)) r) (RgC (grD c E) count rs v y5) ?_ ?_ _ _ ⟨0, y3, rfl, Nat.zero_le _, rfl⟩
        · rintro i rest' ρ ⟨k, y3, hd, hk, q⟩
          subst q
          obtain ⟨rfl, hk1, hrest'⟩ := drop_range hd.symm
          refine ⟨_, rfl, ?_⟩
          have hix2 : ixop (.tuple (rs.map roomD)) (nD i) = some (.tuple [natsT (rm rs i), .int (up rs i)]) := (atI_nn _ i).trans (enc_room_ix hk1)
          have hi0 : ∀ (r : D) (a : D), ixop (.tuple [r, a]) (nD 0) = some r := fun _ _ => rfl
          have hi1 : ∀ (r : D) (a : D), ixop (.tuple [r, a]) (nD 1) = some a := fun _ _ => rfl
          have hsuc := cntN_succ rs i v
          have go : ∀ t : Bool, topB rs v i = t → RgC (grD c E) count rs v y5 rest' (lgE9 (grD c E) (nD count) (.tuple (rs.map roomD)) (some (false, nD i)) (some (false, nD v)) y5 (some (false, nD (cntN rs i v + if t then 1 else 0))) none none none) := fun t ht => by
            rw [← ht, ← hsuc]
            exact ⟨i + 1, _, hrest', hk1, rfl⟩
          by_cases h1 : v ∈ rm rs i
          · by_cases h0 : i = 0
            · subst h0
              have := go true (by unfold topB; simp [h1])
              simp [lgE9, hix2, hi0, hi1, h1] at this ⊢
              exact this
            · obtain ⟨u0, u1⟩ := (tr.2 i _ (show rs[i]? = some (rm rs i, up rs i) by unfold rm up; rw [List.getElem?_eq_getElem hk1]; rfl)).2 (by omega)
              obtain ⟨m, hm⟩ : ∃ m : Nat, up rs i = (m : Int) := ⟨(up rs i).toNat, by have : (0 : Int) ≤ up rs i := u0; omega⟩
              have hml : m < rs.length := by have : up rs i < (i : Int) := u1; omega
              have hix3 : ixop (.tuple (rs.map roomD)) (.int (m : Int)) = some (.tuple [natsT (rm rs m), .int (up rs m)]) := (atI_nn _ m).trans (enc_room_ix hml)
              by_cases h2 : v ∈ rm rs m
              · have := go false (by unfold topB; rw [hm]; simp [h0, h2])
                simp [lgE9, hix2, hi0, hi1, h1, h0, hm, hix3, h2] at this ⊢
                exact this
              · have := go true (by unfold topB; rw [hm]; simp [h1, h2])
                simp [lgE9, hix2, hi0, hi1, h1, h0, hm, hix3, h2] at this ⊢
                exact this
          · have := go false (by unfold topB; simp [h1])
            simp [lgE9, hix2, hi0, hi1, h1] at this ⊢
            exact this
        · rintro ρ ⟨k, y3, hd, hk, q⟩
          subst q
          have hkl : k = rs.length := by
            have := congrArg List.length hd
            simp at this
            omega
          subst hkl
          by_cases h1 : cntN rs rs.length v = 1
          · simp [lgE9, h1]
            exact ⟨v + 1, _, _, _, _, hrest, hv1, rfl, fun u hu => by
              by_cases e : u = v
              · rw [e]; exact h1
              · exact hcn u (by omega)⟩
          · simp [lgE9, h1]
            exact retB_f fun h => h1 (h.2.2.1 v hv1)
      · rintro ρ ⟨v', y3, y4, y5, y6, hd, hv, q, hcn⟩
        subst q
        have hvl : v' = c := by
          have := congrArg List.length hd
          simp at this
          omega
        subst hvl
        simp [lgE9, hix1]
        refine for_gen (RetB (HoldsR v' E count rs)) (RgD (grD v' E) E count rs) ?_ ?_ _ _ ⟨y3, y4, y5, y6, none, none, none, fun _ h => h, rfl, fun e he => .inl he⟩
        · rintro ⟨a, b⟩ es ρ ⟨y3, y4, y5, y6, y7, y8, y9, hm, q, hok2⟩
          subst q
          refine ⟨_, rfl, ?_⟩
          simp [lgE9]
          rw [lc_val rs roomD roomD (fun r => decide (a ∈ r.1) && decide (b ∈ r.1))]
          · have hcmp : cmpR .Eq (.list ((rs.filter fun r => decide (a ∈ r.1) && decide (b ∈ r.1)).map roomD)) (.list []) = .ok (.bool (decide ((rs.filter fun r => decide (a ∈ r.1) && decide (b ∈ r.1)) = []))) := cmp_eqL (enc_room 0) (by omega) _ []
            rw [Res.ok_bind, hcmp]
            by_cases hem : (rs.filter fun r => decide (a ∈ r.1) && decide (b ∈ r.1)) = []
            · rw [decide_eq_true hem]
              simp
              refine retB_f fun h => ?_
              obtain ⟨r, hr1, hr2, hr3⟩ := h.2.2.2 (a, b) (hm _ (by simp))
              have : r ∈ rs.filter fun r => decide (a ∈ r.1) && decide (b ∈ r.1) := List.mem_filter.mpr ⟨hr1, by simp [hr2, hr3]⟩
              rw [hem] at this
              cases this
            · rw [decide_eq_false hem]
              simp
              refine ⟨_, _, _, _, _, _, _, fun e he => hm e (by simp [he]), rfl, fun e he => ?_⟩
              rcases hok2 e he with q | q
              · rcases List.mem_cons.mp q with rfl | q
                · obtain ⟨r, hr⟩ := List.exists_mem_of_ne_nil _ hem
                  obtain ⟨hr1, hr2⟩ := List.mem_filter.mp hr
                  rw [Bool.and_eq_true, decide_eq_true_eq, decide_eq_true_eq] at hr2
                  exact .inr ⟨r, hr1, hr2⟩
                · exact .inl q
              · exact .inr q
          · rfl
          · omega
          · rintro ⟨room, x⟩ hx
            refine ⟨_, rfl, ?_, fun _ => rfl⟩
            have hi0 : ixop (roomD (room, x)) (nD 0) = some (natsT room) := rfl
            by_cases q : a ∈ room <;> simp [wipeE, hi0, q]
        · rintro ρ ⟨y3, y4, y5, y6, y7, y8, y9, hm, q, hok2⟩
          exact retB_t ⟨tr, hwid, fun v hv => hcn v hv, fun e he => (hok2 e he).resolve_left (by simp)⟩
def SLRight (Φ : Calls) : Prop := ∀ (c : Nat) (E : List (Nat × Nat)) (count : Nat) (rs : List (List Nat × Int)), c ≤ 1000 → RoomsOk c rs → ∃ b : Bool, Φ "_law_right" [grD c E, nD count, .tuple (rs.map roomD)] = .ok (.bool b) ∧ (b = true ↔ HoldsR c E count rs)
end Pv

end
section
namespace Pv
open PySem

theorem neq_b (a b : Bool) : cmpR .NotEq (.bool a) (.bool b) = .ok (.bool (!(a == b))) := by
  have h : ∀ x : Bool, okD (.bool x) = true := fun x => by cases x <;> decide
  refine cmpR_of ?_
  show (if okD (.bool a) && okD (.bool b) then some (!PyData.eqv (.bool a) (.bool b)) else none) = _
  rw [h, h, PyData.eqv]
  rfl
def K9I (s : D) (rest : List (Int × Nat)) (ρ : Env) : Prop := ∃ (y1 y2 y3 y4 y5 y6 y7 y8 y9 : Option (Bool × D)), ρ = [some (false, s), y1, y2, y3, y4, y5, y6, y7, y8, y9]
def K9J (s t z v g r w : D) (rest : List Nat) (ρ : Env) : Prop := ∃ (y7 y8 y9 : Option (Bool × D)), ρ = [some (false, s), some (false, t), some (false, z), some (false, v), some (false, g), some (false, r), some (false, w), y7, y8, y9]
theorem k09_run {Φ : Calls} (h1 : SMixed Φ) (h2 : SGraph Φ) (h3 : SOrder Φ) (h4 : SRooms Φ) (h5 : SSpoilR Φ) (h6 : SHolds Φ) (h7 : SLRight Φ) (ns : List Int) (hn : ns.length ≤ 63) : runB 1 10 b_law_v5 Φ [.list (ns.map PyData.int)] = .ok (.bool true) := by
  refine (run_of (by rfl)).trans ?_
  unfold b_law_v5
  have hcut' : slop (.list (ns.map PyData.int)) none (some 10) = some (.list ((ns.take 10).map PyData.int)) := by
    have : slop (.list (ns.map PyData.int)) none (some ((10 : Nat) : Int)) = some (.list ((ns.take 10).map PyData.int)) := by rw [cut_take, List.map_take]
    exact this
  simp [start1, hcut', -List.map_take]
  rw [enum_map]
  refine for_EI (K9I (.list (ns.map PyData.int))) ⟨none, none, none, none, none, none, none, none, none, rfl⟩ ?_ ?_
  · rintro ⟨cell, turn⟩ rest ρ ⟨y1, y2, y3, y4, y5, y6, y7, y8, y9, q⟩
    subst q
    refine ⟨_, rfl, ?_⟩
    obtain ⟨v, e1⟩ := h1 cell turn
    obtain ⟨c, E, e2, c1, c7, g⟩ := h2 (v / 4096) 7 (by omega) (by omega)
    obtain ⟨order, e3, op⟩ := h3 (v / 3) c (by omega)
    have e4 := h4 c E order (by omega) g.e op
    have hok : RoomsN c 8 (roomsN c E order) := by
      refine ⟨fun z => ?_, by rw [roomsN_len]; omega, (rooms_ok (E := E) (o := order) (by omega)).2⟩
      have := congrArg List.length z
      rw [roomsN_len] at this
      simp at this
      omega
    obtain ⟨rs1, e5, hok1⟩ := h5 c E (roomsN c E order) 8 v c1 (by omega) (by omega) hok
    obtain ⟨rs2, e6, hok2⟩ := h5 c E rs1 9 (v / 4096) c1 (by omega) (by omega) hok1
    have hix : ixop (grD c E) (nD 0) = some (nD c) := rfl
    have tail : ∀ (rs : List (List Nat × Int)) (y6 y7 y8 y9 : Option (Bool × D)), RoomsN c 10 rs →
        Aft (K9I (.list (ns.map PyData.int)) rest) (fun ρ => endR ((onE (do
                let x ← Φ "rooms_hold" [.tuple [nD 1, .tuple []], nD 1, .tuple []]
                cmpR .Is x (.bool false)) ρ SR.rt).seq fun ρ => SR.nx ρ) = Res.ok (PyData.bool true)) (fun r => endR r = Res.ok (PyData.bool true))
          (exs (.cons (.set 6 [] (.blt .max (.cons (.lc [9] (.var 9) (.val (.varB 5)) .none (.blt .len (.cons (.ix (.varB 9) (.cst (.int 0))) .nil))) .nil))) (.cons (.fors [] (.var 7) (.rng2 (.blt .max (.cons (.cst (.int 0)) (.cons (.bin .Sub (.varB 6) (.cst (.int 1))) .nil))) (.bin .Add (.varB 6) (.cst (.int 2)))) (.cons (.set 8 [] (.call "rooms_hold" (.cons (.var 4) (.cons (.var 7) (.cons (.var 5) .nil))))) (.cons (.ifs (.or (.not (.isi .bool (.varB 8))) (.one (.cmp .NotEq (.varB 8) (.call "_law_right" (.cons (.var 4) (.cons (.var 7) (.cons (.var 5) .nil))))))) (.cons (.ret (.cst (.bool false))) .nil) .nil) .nil))) .nil)) Φ
            [some (false, .list (ns.map PyData.int)), some (false, nD turn), some (false, .int cell), some (false, nD v), some (false, grD c E), some (false, .tuple (rs.map roomD)), y6, y7, y8, y9]) := by
      intro rs z6 z7 z8 z9 hrs
      obtain ⟨r0, rs0, rfl⟩ : ∃ r l, rs = r :: l := by
        cases rs with
        | nil => exact absurd rfl hrs.1
        | cons r l => exact ⟨r, l, rfl⟩
      simp
      rw [lc_all (r0 :: rs0) roomD (fun r => nD r.1.length)]
      · have hm : (r0 :: rs0).map (fun r => nD r.1.length) = nD r0.1.length :: (rs0.map fun r => r.1.length).map nD := by
          rw [List.map_cons, List.map_map]; rfl
        rw [hm]
        obtain ⟨w, hw⟩ : ∃ w, w = (rs0.map fun r => r.1.length).foldl max r0.1.length := ⟨_, rfl⟩
        have hmx := max_nL r0.1.length (rs0.map fun r => r.1.length)
        rw [← hw, List.map_map] at hmx
        have hwle : w ≤ 1000 := by
          rw [hw, foldl_max_le]
          have : ∀ r ∈ r0 :: rs0, r.1.length ≤ 1000 := fun r hr => by
            have := nodup_len (hrs.2.2 r hr).1 (hrs.2.2 r hr).2
            omega
          refine ⟨this _ (by simp), fun x hx => ?_⟩
          obtain ⟨r, hr, rfl⟩ := List.mem_map.mp hx
          exact this r (by simp [hr])
        have hsub : binop .Sub (nD w) (nD 1) = some (.int ((w : Int) - 1)) := rfl
        have hmax : bltop .max [nD 0, .int ((w : Int) - 1)] = some (nD (w - 1)) := by
          show some (PyData.int (if (w : Int) - 1 > 0 then (w : Int) - 1 else 0)) = _
          congr 1
          show PyData.int _ = PyData.int _
          congr 1
          split <;> omega
        simp [hmx, hsub, hmax, bin_add, rng2_n (show w + 2 ≤ 1000000 by omega) (show w - 1 ≤ 1000000 by omega)]
        refine for_AI (K9J (.list (ns.map PyData.int)) (nD turn) (.int cell) (nD v) (grD c E) (.tuple (roomD r0 :: rs0.map roomD)) (nD w)) ⟨z7, z8, z9, rfl⟩ ?_ ?_
        · rintro count rest' ρ ⟨x7, x8, x9, q⟩
          subst q
          refine ⟨_, rfl, ?_⟩
          obtain ⟨b1, f1, f2⟩ := h6 c E count (r0 :: rs0) (by omega) g.e (hrs.ok (by omega))
          obtain ⟨b2, f3, f4⟩ := h7 c E count (r0 :: rs0) (by omega) (hrs.ok (by omega))
          have : b1 = b2 := by rw [Bool.eq_iff_iff, f2, f4]
          subst this
          simp only [List.map_cons] at f1 f3
          simp [f1, f3, isiop, neq_b]
          exact ⟨_, _, _, rfl⟩
        · rintro ρ ⟨x7, x8, x9, q⟩
          subst q
          exact ⟨_, _, _, _, _, _, _, _, _, rfl⟩
      · simp
      · have := hrs.2.1; omega
      · rintro ⟨room, x⟩ hx
        refine ⟨_, rfl, ?_⟩
        have hi0 : ixop (roomD (room, x)) (nD 0) = some (natsT room) := rfl
        simp [wipeE, hi0]
    simp only [exs_cons, exs_nil] at tail
    by_cases hq : v / 11 % 3 = 0
    · have t := tail rs2 y6 y7 y8 y9 hok2
      simp [e1, bin_div, bin_mod, e2, hix, e3, e4, e5, e6, hq] at t ⊢
      exact t
    · have t := tail rs1 y6 y7 y8 y9 ⟨hok1.1, by have := hok1.2.1; omega, hok1.2.2⟩
      simp [e1, bin_div, bin_mod, e2, hix, e3, e4, e5, e6, hq] at t ⊢
      exact t
  · rintro ρ ⟨y1, y2, y3, y4, y5, y6, y7, y8, y9, q⟩
    subst q
    obtain ⟨b1, f1, f2⟩ := h6 1 [] 1 [] (by omega) (fun e he => by cases he) ⟨by simp, fun r hr => by cases hr⟩
    have hb : b1 = false := by
      cases b1 with
      | false => rfl
      | true => have := (f2.mp rfl).1.1; simp at this
    subst hb
    have f1 : Φ "rooms_hold" [.tuple [nD 1, .tuple []], nD 1, .tuple []] = .ok (.bool false) := f1
    simp [f1, is_b]
end Pv

end
section
namespace Pv
open PySem

/-! ### trees of rooms, by index -/
def TopF (R : Nat → List Nat) (U : Nat → Int) (v k : Nat) : Prop := v ∈ R k ∧ (k = 0 ∨ v ∉ R (U k).toNat)
structure TDF (c : Nat) (E : List (Nat × Nat)) (n : Nat) (R : Nat → List Nat) (U : Nat → Int) : Prop where
  pos : 0 < n
  up : ∀ k, k < n → okAt k (U k)
  top : ∀ v, v < c → ∃ t, t < n ∧ ∀ k, k < n → (TopF R U v k ↔ k = t)
  ed : ∀ e ∈ E, ∃ k, k < n ∧ e.1 ∈ R k ∧ e.2 ∈ R k
  as : ∀ k, k < n → Asc (R k) ∧ ∀ x ∈ R k, x < c
section
variable {c n : Nat} {E : List (Nat × Nat)} {R R' : Nat → List Nat} {U U' : Nat → Int}
theorem TDF.upN (h : TDF c E n R U) {k : Nat} (hk : k < n) (h0 : k ≠ 0) : (U k).toNat < k ∧ U k = ((U k).toNat : Int) := by
  obtain ⟨a, b⟩ := (h.up k hk).2 (by omega)
  omega
theorem TDF.first (h : TDF c E n R U) {v : Nat} : ∀ (m k : Nat), k ≤ m → k < n → v ∈ R k → ∃ t, t ≤ k ∧ TopF R U v t
  | 0, k, hm, hk, hv => ⟨k, Nat.le_refl _, hv, .inl (by omega)⟩
  | m + 1, k, hm, hk, hv => by
    by_cases h0 : k = 0
    · exact ⟨k, Nat.le_refl _, hv, .inl h0⟩
    · obtain ⟨q1, q2⟩ := h.upN hk h0
      by_cases hu : v ∈ R (U k).toNat
      · obtain ⟨t, t1, t2⟩ := h.first m (U k).toNat (by omega) (by omega) hu
        exact ⟨t, by omega, t2⟩
      · exact ⟨k, Nat.le_refl _, hv, .inr hu⟩
def fM (a p k : Nat) : Nat := if k = a then p else if k < a then k else k - 1
def gM (a j : Nat) : Nat := if j < a then j else j + 1
theorem TDF.merge (h : TDF c E n R U) {a p : Nat} (ha : 1 ≤ a) (han : a < n) (hp : U a = (p : Int)) (hR : ∀ j, j < n - 1 → ∀ v, v ∈ R' j ↔ v ∈ R (gM a j) ∨ (j = p ∧ v ∈ R a)) (hA : ∀ j, j < n - 1 → Asc (R' j))
    (hU : ∀ j, j < n - 1 → U' j = if U (gM a j) = (a : Int) then (p : Int) else if U (gM a j) > (a : Int) then U (gM a j) - 1 else U (gM a j)) : TDF c E (n - 1) R' U' := by
  have hpa : p < a := by have := (h.upN han (by omega)).1; rw [hp] at this; simpa using this
  have hg : ∀ j, j < n - 1 → gM a j < n ∧ gM a j ≠ a ∧ (gM a j = 0 ↔ j = 0) := fun j hj => by unfold gM; split <;> omega
  have hfg : ∀ j, fM a p (gM a j) = j := fun j => by unfold fM gM; split <;> split <;> (try split) <;> omega
  have hgf : ∀ k, k ≠ a → gM a (fM a p k) = k := fun k hk => by
    unfold fM gM
    rw [if_neg hk]
    by_cases q : k < a
    · rw [if_pos q, if_pos q]
    · rw [if_neg q, if_neg (by omega)]; omega
  have hfa : fM a p a = p := by unfold fM; rw [if_pos rfl]
  have hgp : gM a p = p := by unfold gM; rw [if_pos hpa]
  have hf : ∀ k, k < n → fM a p k < n - 1 := fun k hk => by unfold fM; split <;> (try split) <;> omega
  have hf0 : fM a p 0 = 0 := by unfold fM; rw [if_neg (by omega), if_pos (by omega)]
  have mem : ∀ k v, k < n → v ∈ R k → v ∈ R' (fM a p k) := fun k v hk hv => by
    rw [hR _ (hf k hk)]
    by_cases e : k = a
    · subst e; exact .inr ⟨hfa, hv⟩
    · rw [hgf k e]; exact .inl hv
  have hup : ∀ j, j < n - 1 → j ≠ 0 → (U' j).toNat = fM a p (U (gM a j)).toNat ∧ fM a p (U (gM a j)).toNat < j ∧ 0 ≤ U' j := fun j hj h0 => by
    obtain ⟨g1, g2, g3⟩ := hg j hj
    obtain ⟨q1, q2⟩ := h.upN g1 (fun z => h0 (g3.mp z))
    rw [hU j hj]
    obtain ⟨u, hu⟩ : ∃ u, u = (U (gM a j)).toNat := ⟨_, rfl⟩
    rw [← hu] at q1 q2 ⊢
    rw [q2]
    unfold fM
    unfold gM at q1
    split at q1 <;> (split <;> (try split) <;> (try split) <;> (try split) <;> omega)
  have topmem : ∀ v j, j < n - 1 → TopF R' U' v j → ∃ k, k < n ∧ fM a p k = j ∧ TopF R U v k := fun v j hj ht => by
    obtain ⟨g1, g2, g3⟩ := hg j hj
    obtain ⟨t1, t2⟩ := ht
    rcases (hR j hj v).mp t1 with q | ⟨q1, q2⟩
    · refine ⟨gM a j, g1, hfg j, q, ?_⟩
      by_cases h0 : j = 0
      · exact .inl (g3.mpr h0)
      · refine .inr fun z => ?_
        have t2 := t2.resolve_left h0
        rw [(hup j hj h0).1] at t2
        exact t2 (mem _ v (by have := (h.upN g1 (fun z => h0 (g3.mp z))).1; omega) z)
    · by_cases hpv : v ∈ R p
      · refine ⟨p, by omega, by rw [q1]; have := hfg p; rwa [hgp] at this, hpv, ?_⟩
        by_cases h0 : j = 0
        · exact .inl (by omega)
        · refine .inr fun z => ?_
          have t2 := t2.resolve_left h0
          rw [(hup j hj h0).1, q1, hgp] at t2
          exact t2 (mem _ v (by have := (h.upN (k := p) (by omega) (by omega)).1; omega) z)
      · refine ⟨a, han, by rw [hfa]; exact q1.symm, q2, .inr ?_⟩
        rw [hp]; simpa using hpv
  refine ⟨by omega, fun j hj => ⟨fun h0 => ?_, fun h0 => ?_⟩, fun v hv => ?_, fun e he => ?_, fun j hj => ⟨hA j hj, fun x hx => ?_⟩⟩
  · subst h0
    have g0 : gM a 0 = 0 := by unfold gM; rw [if_pos (by omega)]
    have := (h.up 0 h.pos).1 rfl
    rw [hU 0 hj, g0, this, if_neg (by omega), if_neg (by omega)]
  · obtain ⟨q1, q2, q3⟩ := hup j hj (by omega)
    omega
  · obtain ⟨t, ht, htop⟩ := h.top v hv
    have tt := (htop t ht).mpr rfl
    refine ⟨fM a p t, hf t ht, fun j hj => ⟨fun q => ?_, ?_⟩⟩
    · obtain ⟨k, hk, hkj, hkt⟩ := topmem v j hj q
      rw [← hkj, (htop k hk).mp hkt]
    · rintro rfl
      refine ⟨mem t v ht tt.1, ?_⟩
      by_cases h0 : fM a p t = 0
      · exact .inl h0
      · refine .inr fun z => ?_
        obtain ⟨u1, u2, u3⟩ := hup _ hj h0
        rw [u1] at z
        have noless : ∀ k, k < t → k < n → v ∉ R k := fun k hk hk2 q => by
          obtain ⟨t', t1, t2⟩ := h.first k k (Nat.le_refl _) hk2 q
          have := (htop t' (by omega)).mp t2
          omega
        have hun : fM a p (U (gM a (fM a p t))).toNat < n - 1 := by omega
        rcases (hR _ hun v).mp z with q | ⟨q1, q2⟩
        · by_cases e : t = a
          · subst e
            rw [hfa, hgp] at q
            have hp0 : p ≠ 0 := fun z => h0 (by rw [hfa]; exact z)
            obtain ⟨w1, w2⟩ := h.upN (k := p) (by omega) hp0
            rw [hgf _ (by omega)] at q
            exact noless _ (by omega) (by omega) q
          · rw [hgf t e] at q
            have t0 : t ≠ 0 := fun z => h0 (by rw [z]; exact hf0)
            obtain ⟨w1, w2⟩ := h.upN ht t0
            have tt2 := tt.2.resolve_left t0
            by_cases e2 : (U t).toNat = a
            · rw [e2, hfa, hgp] at q
              exact noless p (by omega) (by omega) q
            · rw [hgf _ e2] at q
              exact tt2 q
        · by_cases e : t = a
          · subst e
            rw [hfa, hgp] at q1
            have hp0 : p ≠ 0 := fun z => h0 (by rw [hfa]; exact z)
            obtain ⟨w1, w2⟩ := h.upN (k := p) (by omega) hp0
            have : fM t p (U p).toNat = (U p).toNat := by unfold fM; rw [if_neg (by omega), if_pos (by omega)]
            omega
          · have t0 : t ≠ 0 := fun z => h0 (by rw [z]; exact hf0)
            by_cases hat : a < t
            · exact noless a hat han q2
            · have htl : t < a := by omega
              by_cases hvp : v ∈ R p
              · rw [hgf t e] at q1
                obtain ⟨w1, w2⟩ := h.upN ht t0
                have : fM a p (U t).toNat = (U t).toNat := by unfold fM; rw [if_neg (by omega), if_pos (by omega)]
                have tt2 := tt.2.resolve_left t0
                rw [← this, q1] at tt2
                exact tt2 hvp
              · have := (htop a han).mp ⟨q2, .inr (by rw [hp]; simpa using hvp)⟩
                omega
  · obtain ⟨k, hk, k1, k2⟩ := h.ed e he
    exact ⟨fM a p k, hf k hk, mem k _ hk k1, mem k _ hk k2⟩
  · rcases (hR j hj x).mp hx with q | ⟨_, q⟩
    · exact (h.as _ (hg j hj).1).2 x q
    · exact (h.as a han).2 x q
theorem TDF.front (h : TDF c E n R U) (hR0 : R' 0 = []) (hU0 : U' 0 = -1) (hR : ∀ k, k < n → R' (k + 1) = R k) (hU : ∀ k, k < n → U' (k + 1) = U k + 1) : TDF c E (n + 1) R' U' := by
  have hup : ∀ k, k < n → k ≠ 0 → (U' (k + 1)).toNat = (U k).toNat + 1 ∧ (U k).toNat < n := fun k hk h0 => by
    obtain ⟨q1, q2⟩ := h.upN hk h0
    rw [hU k hk]
    omega
  have htop : ∀ v k, k < n → (TopF R' U' v (k + 1) ↔ TopF R U v k) := fun v k hk => by
    unfold TopF
    rw [hR k hk]
    by_cases h0 : k = 0
    · subst h0
      have : U' (0 + 1) = 0 := by rw [hU 0 hk, (h.up 0 hk).1 rfl]; rfl
      rw [this]
      simp [hR0]
    · obtain ⟨q1, q2⟩ := hup k hk h0
      rw [q1, hR _ q2]
      simp [h0]
  refine ⟨by omega, fun k hk => ?_, fun v hv => ?_, fun e he => ?_, fun k hk => ?_⟩
  · cases k with
    | zero => exact ⟨fun _ => hU0, fun z => by omega⟩
    | succ k =>
      have := h.up k (by omega)
      refine ⟨fun z => by omega, fun _ => ?_⟩
      rw [hU k (by omega)]
      by_cases h0 : k = 0
      · have := this.1 h0
        omega
      · have := this.2 (by omega)
        omega
  · obtain ⟨t, ht, q⟩ := h.top v hv
    refine ⟨t + 1, by omega, fun k hk => ?_⟩
    cases k with
    | zero =>
      constructor
      · intro z
        have := z.1
        rw [hR0] at this
        cases this
      · intro z; omega
    | succ k =>
      rw [htop v k (by omega), q k (by omega)]
      omega
  · obtain ⟨k, hk, k1, k2⟩ := h.ed e he
    exact ⟨k + 1, by omega, by rw [hR k hk]; exact k1, by rw [hR k hk]; exact k2⟩
  · cases k with
    | zero => rw [hR0]; exact ⟨List.Pairwise.nil, fun x hx => by cases hx⟩
    | succ k => rw [hR k (by omega)]; exact h.as k (by omega)
theorem TDF.doubled (h : TDF c E n R U) (hR : ∀ k, k < n → R' k = R k) (hU : ∀ k, k < n → U' k = U k) (hRn : R' n = R (n - 1)) (hUn : U' n = ((n - 1 : Nat) : Int)) (hRm : R' (n + 1) = []) (hUm : U' (n + 1) = 0) : TDF c E (n + 2) R' U' := by
  have hpos := h.pos
  have htop : ∀ v k, k < n → (TopF R' U' v k ↔ TopF R U v k) := fun v k hk => by
    unfold TopF
    rw [hR k hk, hU k hk]
    by_cases h0 : k = 0
    · simp [h0]
    · obtain ⟨q1, q2⟩ := h.upN hk h0
      rw [hR _ (by omega)]
  refine ⟨by omega, fun k hk => ?_, fun v hv => ?_, fun e he => ?_, fun k hk => ?_⟩
  · by_cases e1 : k < n
    · rw [hU k e1]; exact h.up k e1
    · by_cases e2 : k = n
      · subst e2
        rw [hUn]
        exact ⟨fun z => by omega, fun _ => by omega⟩
      · have : k = n + 1 := by omega
        subst this
        rw [hUm]
        exact ⟨fun z => by omega, fun _ => by omega⟩
  · obtain ⟨t, ht, q⟩ := h.top v hv
    refine ⟨t, by omega, fun k hk => ?_⟩
    by_cases e1 : k < n
    · rw [htop v k e1, q k e1]
    · by_cases e2 : k = n
      · subst e2
        constructor
        · rintro ⟨z1, z2⟩
          have z2 := z2.resolve_left (by omega)
          rw [hUn, Int.toNat_natCast, hR (k - 1) (by omega)] at z2
          rw [hRn] at z1
          exact absurd z1 z2
        · intro z; omega
      · have : k = n + 1 := by omega
        subst this
        constructor
        · rintro ⟨z1, z2⟩
          rw [hRm] at z1
          cases z1
        · intro z; omega
  · obtain ⟨k, hk, k1, k2⟩ := h.ed e he
    exact ⟨k, by omega, by rw [hR k hk]; exact k1, by rw [hR k hk]; exact k2⟩
  · by_cases e1 : k < n
    · rw [hR k e1]; exact h.as k e1
    · by_cases e2 : k = n
      · subst e2
        rw [hRn]; exact h.as _ (by omega)
      · have : k = n + 1 := by omega
        subst this
        rw [hRm]; exact ⟨List.Pairwise.nil, fun x hx => by cases hx⟩
end
end Pv

end
section
namespace Pv
open PySem

/-! ### the plan of a tree of rooms catches the lazy runner -/
inductive Desc (U : Nat → Int) (k : Nat) : Nat → Prop
  | refl : Desc U k k
  | step {j : Nat} (h0 : j ≠ 0) (h : Desc U k (U j).toNat) : Desc U k j
def inter (a b : List Nat) : List Nat := a.filter fun x => decide (x ∈ b)
theorem mem_inter {a b : List Nat} {x : Nat} : x ∈ inter a b ↔ x ∈ a ∧ x ∈ b := by unfold inter; rw [List.mem_filter, decide_eq_true_eq]
theorem conn_start {E : List (Nat × Nat)} {fr st : Nat → Prop} {v : Nat} (h : Conn E fr st v) : ∃ s, st s := by
  induction h with
  | base h => exact ⟨_, h⟩
  | step _ _ _ ih => exact ih
section
variable {c n : Nat} {E : List (Nat × Nat)} {R : Nat → List Nat} {U : Nat → Int}
theorem Desc.trans {k t j : Nat} (h1 : Desc U k t) (h2 : Desc U t j) : Desc U k j := by
  induction h2 with
  | refl => exact h1
  | step h0 _ ih => exact .step h0 ih
theorem Desc.le (h : TDF c E n R U) {k j : Nat} (hd : Desc U k j) (hj : j < n) : k ≤ j := by
  induction hd with
  | refl => exact Nat.le_refl _
  | step h0 _ ih =>
    have := (h.upN hj h0).1
    have := ih (by omega)
    omega
theorem TDF.down (h : TDF c E n R U) {v t : Nat} (ht : ∀ k, k < n → (TopF R U v k ↔ k = t)) : ∀ (m j : Nat), j ≤ m → j < n → v ∈ R j → Desc U t j
  | 0, j, hm, hj, hv => by
    have : j = t := (ht j hj).mp ⟨hv, .inl (by omega)⟩
    rw [this]; exact .refl
  | m + 1, j, hm, hj, hv => by
    by_cases q : TopF R U v j
    · rw [(ht j hj).mp q]; exact .refl
    · have h0 : j ≠ 0 := fun z => q ⟨hv, .inl z⟩
      have hu : v ∈ R (U j).toNat := Classical.byContradiction fun z => q ⟨hv, .inr z⟩
      have := (h.upN hj h0).1
      exact .step h0 (h.down ht m _ (by omega) (by omega) hu)
theorem TDF.cross (h : TDF c E n R U) {v t k j : Nat} (ht : ∀ k, k < n → (TopF R U v k ↔ k = t)) (hd : Desc U k j) (hj : j < n) (hv : v ∈ R j) (hn : ¬ Desc U k t) : k ≠ 0 ∧ v ∈ R k ∧ v ∈ R (U k).toNat := by
  induction hd with
  | refl =>
    have q : ¬ TopF R U v k := fun z => hn (by rw [(ht k hj).mp z]; exact .refl)
    have h0 : k ≠ 0 := fun z => q ⟨hv, .inl z⟩
    exact ⟨h0, hv, Classical.byContradiction fun z => q ⟨hv, .inr z⟩⟩
  | @step j h0 hd ih =>
    have q : ¬ TopF R U v j := fun z => hn (by rw [← (ht j hj).mp z]; exact .step h0 hd)
    have hu : v ∈ R (U j).toNat := Classical.byContradiction fun z => q ⟨hv, .inr z⟩
    have := (h.upN hj h0).1
    exact ih (by omega) hu
noncomputable def pos (c : Nat) (R : Nat → List Nat) (k : Nat) : List Nat := by
  classical exact (List.range c).filter fun v => decide (∀ j, j ≤ k → v ∉ R j)
theorem mem_pos {k v : Nat} : v ∈ pos c R k ↔ v < c ∧ ∀ j, j ≤ k → v ∉ R j := by
  classical
  unfold pos
  rw [List.mem_filter, List.mem_range, decide_eq_true_eq]
theorem pos_asc (k : Nat) : Asc (pos c R k) := by
  classical
  unfold pos
  exact (range_asc c).filter _
theorem next_0 : nextL c E true [] (List.range c) (R 0) = pos c R 0 := asc_eq (nextL_asc ..) (pos_asc 0) fun v => by
  rw [mem_nextL, mem_pos]
  constructor
  · rintro ⟨a, b, _⟩
    exact ⟨a, fun j hj => by rw [show j = 0 by omega]; exact b⟩
  · rintro ⟨a, b⟩
    exact ⟨a, b 0 (Nat.le_refl _), .inl (List.mem_range.mpr a)⟩
theorem next_a (h : TDF c E n R U) {k : Nat} (hk : k < n) (h0 : k ≠ 0) (s : List Nat) : nextL c E true s (pos c R (k - 1)) (inter (R k) (R (U k).toNat)) = pos c R (k - 1) := asc_eq (nextL_asc ..) (pos_asc _) fun v => by
  have hu := (h.upN hk h0).1
  have hdis : ∀ x, x ∈ pos c R (k - 1) → x ∉ inter (R k) (R (U k).toNat) := fun x hx hi => (mem_pos.mp hx).2 _ (by omega) (mem_inter.mp hi).2
  rw [mem_nextL]
  constructor
  · rintro ⟨a, b, q | q⟩
    · exact q
    · obtain ⟨x, q1, _⟩ := conn_start q
      exact absurd (q1.2 rfl) (hdis x q1.1)
  · intro q
    exact ⟨(mem_pos.mp q).1, hdis v q, .inl q⟩
theorem next_b (h : TDF c E n R U) (hE : EOk c E) {k : Nat} (hk : k < n) (h0 : k ≠ 0) : nextL c E true (inter (R k) (R (U k).toNat)) (pos c R (k - 1)) (R k) = pos c R k := asc_eq (nextL_asc ..) (pos_asc _) fun v => by
  have hu := (h.upN hk h0).1
  rw [mem_nextL, mem_pos (k := k)]
  constructor
  · rintro ⟨a, b, q | q⟩
    · refine ⟨a, fun j hj => ?_⟩
      by_cases e : j = k
      · rw [e]; exact b
      · exact (mem_pos.mp q).2 j (by omega)
    · have key : ∀ w, Conn E (fun x => x < c ∧ ¬ (x ∈ inter (R k) (R (U k).toNat) ∧ x ∈ R k)) (fun x => (x ∈ pos c R (k - 1) ∧ (true = true → x ∈ R k)) ∧ ¬ (x ∈ inter (R k) (R (U k).toNat) ∧ x ∈ R k)) w → w < c ∧ ∀ t, t < n → (∀ k, k < n → (TopF R U w k ↔ k = t)) → Desc U k t := fun w hw => by
        induction hw with
        | @base x q =>
          obtain ⟨⟨q1, q2⟩, _⟩ := q
          obtain ⟨x1, x2⟩ := mem_pos.mp q1
          refine ⟨x1, fun t ht htop => ?_⟩
          obtain ⟨t', t1, t2⟩ := h.first k k (Nat.le_refl _) hk (q2 rfl)
          have e := (htop t' (by omega)).mp t2
          have : t' = k := by
            by_cases z : t' = k
            · exact z
            · exact absurd t2.1 (x2 t' (by omega))
          rw [← e, this]; exact .refl
        | @step y z _ ha hf ih =>
          obtain ⟨hy, ih⟩ := ih
          refine ⟨hf.1, fun t ht htop => Classical.byContradiction fun hn => ?_⟩
          obtain ⟨j, hj, j1, j2⟩ : ∃ j, j < n ∧ y ∈ R j ∧ z ∈ R j := by
            rcases ha with ha | ha
            · obtain ⟨j, hj, j1, j2⟩ := h.ed _ ha; exact ⟨j, hj, j1, j2⟩
            · obtain ⟨j, hj, j1, j2⟩ := h.ed _ ha; exact ⟨j, hj, j2, j1⟩
          obtain ⟨ty, hty, htopy⟩ := h.top y hy
          have d1 := ih ty hty htopy
          have d2 := h.down htopy j j (Nat.le_refl _) hj j1
          obtain ⟨_, c1, c2⟩ := h.cross htop (d1.trans d2) hj j2 hn
          exact hf.2 ⟨mem_inter.mpr ⟨c1, c2⟩, c1⟩
      obtain ⟨_, q2⟩ := key v q
      refine ⟨a, fun j hj hv => ?_⟩
      obtain ⟨t, ht, htop⟩ := h.top v a
      have d := (q2 t ht htop).le h ht
      obtain ⟨t', t1, t2⟩ := h.first j j (Nat.le_refl _) (by omega) hv
      have e := (htop t' (by omega)).mp t2
      have : t = k := by omega
      subst this
      exact b (e ▸ t2.1)
  · rintro ⟨a, b⟩
    exact ⟨a, b k (Nat.le_refl _), .inl (mem_pos.mpr ⟨a, fun j hj => b j (by omega)⟩)⟩
/-- the standings from room k on -/
def planK (R : Nat → List Nat) (U : Nat → Int) : Nat → Nat → List (List Nat)
  | _, 0 => []
  | k, m + 1 => inter (R k) (R (U k).toNat) :: R k :: planK R U (k + 1) m
theorem planK_falls (h : TDF c E n R U) (hE : EOk c E) : ∀ (m k : Nat) (s : List Nat), k ≠ 0 → k + m = n → Falls (pos c R (k - 1)) (walkN c E true s (pos c R (k - 1)) (planK R U k m)) = true
  | 0, k, s, h0, hk => by
    simp only [planK, walkN, Falls]
    rw [decide_eq_true_eq, List.eq_nil_iff_forall_not_mem]
    intro v hv
    obtain ⟨a, b⟩ := mem_pos.mp hv
    obtain ⟨t, ht, htop⟩ := h.top v a
    exact b t (by omega) ((htop t ht).mpr rfl).1
  | m + 1, k, s, h0, hk => by
    have ih := planK_falls h hE m (k + 1) (R k) (by omega) (by omega)
    rw [show k + 1 - 1 = k by omega] at ih
    simp only [planK, walkN]
    rw [next_a h (by omega) h0, next_b h hE (by omega) h0]
    simp only [Falls]
    rw [ih, Bool.and_true, Bool.and_eq_true, decide_eq_true_eq, decide_eq_true_eq]
    refine ⟨fun x hx => hx, fun x hx => ?_⟩
    obtain ⟨a, b⟩ := mem_pos.mp hx
    exact mem_pos.mpr ⟨a, fun j hj => b j (by omega)⟩
theorem plan_falls (h : TDF c E n R U) (hE : EOk c E) : Falls (List.range c) (walkN c E true [] (List.range c) (R 0 :: planK R U 1 (n - 1))) = true := by
  have hpos := h.pos
  have := planK_falls h hE (n - 1) 1 (R 0) (by omega) (by omega)
  rw [show (1 : Nat) - 1 = 0 from rfl] at this
  simp only [walkN]
  rw [next_0]
  simp only [Falls]
  rw [this, Bool.and_true, decide_eq_true_eq]
  exact fun x hx => List.mem_range.mpr (mem_pos.mp hx).1
theorem planK_mem (h : TDF c E n R U) : ∀ (m k : Nat), k + m ≤ n → ∀ s ∈ planK R U k m, ∃ j, j < n ∧ s.length ≤ (R j).length
  | 0, k, hk, s, hs => by cases hs
  | m + 1, k, hk, s, hs => by
    rw [planK] at hs
    rcases List.mem_cons.mp hs with rfl | hs
    · exact ⟨k, by omega, List.length_filter_le _ _⟩
    · rcases List.mem_cons.mp hs with rfl | hs
      · exact ⟨k, by omega, Nat.le_refl _⟩
      · exact planK_mem h m (k + 1) (by omega) s hs
theorem planK_snoc : ∀ (m k : Nat), planK R U k (m + 1) = planK R U k m ++ [inter (R (k + m)) (R (U (k + m)).toNat), R (k + m)]
  | 0, k => rfl
  | m + 1, k => by
    rw [planK, planK_snoc m (k + 1), planK]
    rw [show k + 1 + m = k + (m + 1) by omega]
    rfl
theorem planK_len : ∀ (m k : Nat), (planK R U k m).length = 2 * m
  | 0, k => rfl
  | m + 1, k => by rw [planK, List.length_cons, List.length_cons, planK_len]; omega
def planT (R : Nat → List Nat) (U : Nat → Int) : Nat → List (List Nat)
  | 0 => []
  | m + 1 => R 0 :: planK R U 1 m
theorem planT_succ {k : Nat} (h0 : k ≠ 0) : planT R U (k + 1) = planT R U k ++ [inter (R k) (R (U k).toNat), R k] := by
  obtain ⟨m, rfl⟩ : ∃ m, k = m + 1 := ⟨k - 1, by omega⟩
  rw [planT, planK_snoc, planT, show 1 + m = m + 1 by omega]
  rfl
theorem planT_len (k : Nat) : (planT R U k).length ≤ 2 * k := by
  cases k with
  | zero => exact Nat.le_refl _
  | succ m => rw [planT, List.length_cons, planK_len]; omega
end
end Pv

end
section
namespace Pv
open PySem

def TDL (c : Nat) (E : List (Nat × Nat)) (rs : List (List Nat × Int)) : Prop := TDF c E rs.length (rm rs) (up rs)
theorem rm_up {rs : List (List Nat × Int)} {k : Nat} (h : k < rs.length) : rs[k]? = some (rm rs k, up rs k) := by
  unfold rm up
  rw [List.getElem?_eq_getElem h]; rfl
theorem rooms_td {c : Nat} {E : List (Nat × Nat)} {o : List Nat} (hc1 : 1 ≤ c) (hg : GOk c E) (ho : o.Perm (List.range c)) : TDL c E (roomsN c E o) := by
  unfold TDL
  have hh := (rooms_holds (count := costN (wOrd c E) 0 o) hc1 hg ho).mpr (Nat.le_refl _)
  rw [roomsN_len]
  refine ⟨by omega, fun k hk => ?_, fun v hv => ⟨plc o v, (plc_at ho hv).1, fun k hk => ?_⟩, fun e he => ?_, fun k hk => ?_⟩
  · rw [(rm_rooms hk).2]; exact abv_ok ho hk
  · rw [← top_iff (E := E) ho hk hv]
    unfold topB TopF
    rw [Bool.and_eq_true, Bool.or_eq_true, decide_eq_true_eq, decide_eq_true_eq, Bool.not_eq_true', decide_eq_false_iff_not]
  · obtain ⟨r, hr, r1, r2⟩ := hh.2.2.2 e he
    obtain ⟨k, hk, rfl⟩ := List.mem_map.mp hr
    have hk := List.mem_range.mp hk
    exact ⟨k, hk, by rw [(rm_rooms hk).1]; exact r1, by rw [(rm_rooms hk).1]; exact r2⟩
  · rw [(rm_rooms hk).1]
    exact ⟨bits_asc _ _, fun x hx => (mem_bitsN.mp hx).1⟩
/-! plan_of -/
def poE (r : D) (plan : List (List Nat)) (y2 y3 : Option (Bool × D)) : Env := [some (false, r), some (true, .list (plan.map natsT)), y2, y3]
theorem bits_inter {c : Nat} {a b : List Nat} (ha : Asc a) (hc : ∀ x ∈ a, x < c) : bitsN c (maskN a &&& maskN b) = inter a b := asc_eq (bits_asc _ _) (ha.filter _) fun x => by
  rw [mem_bitsN, mem_inter, Nat.testBit_and, Bool.and_eq_true, test_maskN, test_maskN]
  exact ⟨fun h => h.2, fun h => ⟨hc x h.1, h⟩⟩
theorem ix_room {rs : List (List Nat × Int)} {k : Nat} (h : k < rs.length) : ixop (.tuple (rs.map roomD)) (nD k) = some (.tuple [natsT (rm rs k), .int (up rs k)]) := (atI_nn _ k).trans (enc_room_ix h)
def PoI (rs rest : List (List Nat × Int)) (ρ : Env) : Prop := ∃ (k : Nat) (y2 y3 : Option (Bool × D)), rs.drop k = rest ∧ k ≤ rs.length ∧ ρ = poE (.tuple (rs.map roomD)) (planT (rm rs) (up rs) k) y2 y3
theorem plan_of_run {Φ : Calls} {c : Nat} {E : List (Nat × Nat)} {rs : List (List Nat × Int)} (h1 : SMask Φ) (h2 : SNodes Φ c) (hc : c ≤ 1000) (h : TDL c E rs) (hl : rs.length ≤ 1000) :
    runB 1 4 b_plan_of Φ [.tuple (rs.map roomD)] = .ok (.tuple ((planT (rm rs) (up rs) rs.length).map natsT)) := by
  refine (run_of (by rfl)).trans ?_
  unfold b_plan_of
  simp [start1]
  refine for_EI (PoI rs) (l := rs) ⟨0, none, none, rfl, Nat.zero_le _, rfl⟩ ?_ ?_
  · rintro ⟨room, a⟩ rest ρ ⟨k, y2, y3, hd, hk, q⟩
    subst q
    obtain ⟨hk1, hg, hrest⟩ := drop_get hd
    obtain ⟨hr, ha⟩ := rm_at hg
    have hr : rm rs k = room := hr
    have ha : up rs k = a := ha
    refine ⟨_, rfl, ?_⟩
    have hpl := planT_len (R := rm rs) (U := up rs) k
    have happ : ∀ (p : List (List Nat)) (s : List Nat) (y2 y3 : Option (Bool × D)), p.length ≤ 10000 → apS 1 (poE (.tuple (rs.map roomD)) p y2 y3) (.ok (natsT s)) = .nx (poE (.tuple (rs.map roomD)) (p ++ [s]) y2 y3) := fun p s y2 y3 hp => by
      rw [apS_ok (ds := p.map natsT) (by rfl) (by rw [List.length_map]; omega)]
      simp [poE]
    simp only [poE] at happ
    by_cases h0 : k = 0
    · have hm : a = -1 := by rw [← ha]; exact (h.up k hk1).1 h0
      have e1 : cmpR .GtE (.int (-1)) (nD 0) = .ok (.bool false) := id rfl
      subst h0
      subst hm
      simp [roomD, poE, e1, happ, planT]
      exact ⟨1, some (false, natsT room), some (false, .int (-1)), hrest.symm, hk1, by simp [planT, planK, poE, hr]⟩
    · obtain ⟨u1, u2⟩ := h.upN hk1 h0
      obtain ⟨m, hm⟩ : ∃ m, m = (up rs k).toNat := ⟨_, rfl⟩
      rw [← hm] at u1 u2
      have ham : a = (m : Int) := by rw [← ha]; exact u2
      subst ham
      have e1 : cmpR .GtE (.int (m : Int)) (nD 0) = .ok (.bool true) := by
        show Res.ok (PyData.bool (decide ((0 : Int) ≤ (m : Int)))) = _
        rw [decide_eq_true (by omega)]
      have hasc := h.as k hk1
      rw [hr] at hasc
      have hasm := h.as m (by omega)
      have f1 := h1 room fun x hx => by have := hasc.2 x hx; omega
      have f2 := h1 (rm rs m) fun x hx => by have := hasm.2 x hx; omega
      have f3 := h2 (maskN room &&& maskN (rm rs m)) (Nat.and_lt_two_pow _ (maskN_lt hasm.2))
      rw [bits_inter hasc.1 hasc.2] at f3
      have hix : ixop (.tuple (rs.map roomD)) (.int (m : Int)) = some (.tuple [natsT (rm rs m), .int (up rs m)]) := ix_room (by omega)
      have hix0 : ixop (.tuple [natsT (rm rs m), .int (up rs m)]) (nD 0) = some (natsT (rm rs m)) := rfl
      simp [roomD, poE, e1, f1, f2, hix, hix0, f3]
      rw [happ _ _ _ _ (by omega)]
      have e2 := happ (planT (rm rs) (up rs) k ++ [inter room (rm rs m)]) room (some (false, natsT room)) (some (false, .int (m : Int))) (by simp; omega)
      simp at e2
      simp [e2]
      refine ⟨k + 1, some (false, natsT room), some (false, .int (m : Int)), hrest.symm, hk1, ?_⟩
      rw [planT_succ h0, ← hm, hr]
      simp [poE]
  · rintro ρ ⟨k, y2, y3, hd, hk, q⟩
    subst q
    have : k = rs.length := by
      have := congrArg List.length hd
      simp at this
      omega
    subst this
    simp [poE]
def SPlan (Φ : Calls) : Prop := ∀ c E rs, c ≤ 1000 → TDL c E rs → rs.length ≤ 1000 → Φ "plan_of" [.tuple (rs.map roomD)] = .ok (.tuple ((planT (rm rs) (up rs) rs.length).map natsT))
end Pv

end
section
namespace Pv
open PySem

/-! ### _law_merged -/
def SMerged (Φ : Calls) : Prop := ∀ (c : Nat) (E : List (Nat × Nat)) (rs : List (List Nat × Int)) (v : Nat), c ≤ 8 → TDL c E rs → rs.length ≤ 100 → ∃ rs', Φ "_law_merged" [.tuple (rs.map roomD), nD v] = .ok (.tuple (rs'.map roomD)) ∧ TDL c E rs' ∧ rs'.length ≤ rs.length + 1
def uniL (a b : List Nat) : List Nat := (a ++ b.filter fun x => !decide (x ∈ a)).mergeSort fun x y => decide (x ≤ y)
theorem mem_uniL {a b : List Nat} {x : Nat} : x ∈ uniL a b ↔ x ∈ a ∨ x ∈ b := by
  unfold uniL
  rw [List.mem_mergeSort, List.mem_append, List.mem_filter]
  by_cases h : x ∈ a <;> simp [h]
theorem uniL_asc {a b : List Nat} (ha : Asc a) (hb : Asc b) : Asc (uniL a b) := by
  refine sort_asc ?_
  rw [List.nodup_append]
  refine ⟨ha.nodup, List.Pairwise.filter _ hb.nodup, fun x hx y hy => ?_⟩
  have := (List.mem_filter.mp hy).2
  simp at this
  exact fun e => this (e ▸ hx)
def entM (rs : List (List Nat × Int)) (a p k : Nat) : List Nat × Int :=
  (if k = p then uniL (rm rs p) (rm rs a) else rm rs k, if up rs k = (a : Int) then (p : Int) else if up rs k > (a : Int) then up rs k - 1 else up rs k)
def mgL (rs : List (List Nat × Int)) (a p m : Nat) : List (List Nat × Int) := (List.range m).map fun j => entM rs a p (gM a j)
def cntM (a k : Nat) : Nat := if k ≤ a then k else k - 1
theorem mgL_succ (rs : List (List Nat × Int)) (a p m : Nat) : mgL rs a p (m + 1) = mgL rs a p m ++ [entM rs a p (gM a m)] := by
  unfold mgL
  rw [List.range_succ, List.map_append]; rfl
theorem mgL_td {c : Nat} {E : List (Nat × Nat)} {rs : List (List Nat × Int)} (h : TDL c E rs) {a p : Nat} (ha : 1 ≤ a) (han : a < rs.length) (hp : up rs a = (p : Int)) : TDL c E (mgL rs a p (rs.length - 1)) := by
  have hl : (mgL rs a p (rs.length - 1)).length = rs.length - 1 := by unfold mgL; simp
  have hpa : p < a := by
    obtain ⟨q1, q2⟩ := h.upN han (by omega)
    rw [hp] at q1; simpa using q1
  have hat : ∀ j, j < rs.length - 1 → (mgL rs a p (rs.length - 1))[j]? = some (entM rs a p (gM a j)) := fun j hj => by
    unfold mgL
    rw [List.getElem?_map, List.getElem?_range hj]; rfl
  unfold TDL
  rw [hl]
  have hgl : ∀ j, j < rs.length - 1 → gM a j < rs.length := fun j hj => by unfold gM; split <;> omega
  refine TDF.merge h ha han hp (fun j hj v => ?_) (fun j hj => ?_) (fun j hj => ?_)
  · rw [(rm_at (hat j hj)).1]
    show v ∈ (if gM a j = p then uniL (rm rs p) (rm rs a) else rm rs (gM a j)) ↔ _
    by_cases e : gM a j = p
    · have ej : j = p := by unfold gM at e; split at e <;> omega
      rw [if_pos e, mem_uniL, e]
      simp [ej]
    · have ej : j ≠ p := by rintro rfl; apply e; unfold gM; rw [if_pos hpa]
      rw [if_neg e]
      simp [ej]
  · rw [(rm_at (hat j hj)).1]
    show Asc (if gM a j = p then uniL (rm rs p) (rm rs a) else rm rs (gM a j))
    split
    · exact uniL_asc (h.as p (by omega)).1 (h.as a han).1
    · exact (h.as _ (hgl j hj)).1
  · rw [(rm_at (hat j hj)).2]; rfl
def mgE (r v : D) (a p : Nat) (f : List (List Nat × Int)) (y5 y6 y7 y8 : Option (Bool × D)) : Env := [some (false, r), some (false, v), some (false, nD a), some (false, nD p), some (true, .list (f.map roomD)), y5, y6, y7, y8]
def MgI (rs : List (List Nat × Int)) (v : D) (a p : Nat) (rest : List Nat) (ρ : Env) : Prop := ∃ (k : Nat) (y5 y6 y7 y8 : Option (Bool × D)), rest = (List.range rs.length).drop k ∧ k ≤ rs.length ∧ ρ = mgE (.tuple (rs.map roomD)) v a p (mgL rs a p (cntM a k)) y5 y6 y7 y8
theorem gM_cnt {a k : Nat} (h : k ≠ a) : gM a (cntM a k) = k ∧ cntM a (k + 1) = cntM a k + 1 := by
  unfold gM cntM
  by_cases q : k ≤ a
  · rw [if_pos q, if_pos (show k < a by omega), if_pos (show k + 1 ≤ a by omega)]
    exact ⟨rfl, rfl⟩
  · rw [if_neg q, if_neg (by omega), if_neg (by omega)]
    omega
theorem front_td {c : Nat} {E : List (Nat × Nat)} {rs : List (List Nat × Int)} (h : TDL c E rs) : TDL c E (([], -1) :: rs.map fun r => (r.1, r.2 + 1)) := by
  unfold TDL
  rw [List.length_cons, List.length_map]
  have hat : ∀ k, k < rs.length → (([], -1) :: rs.map fun r => (r.1, r.2 + 1) : List (List Nat × Int))[k + 1]? = some (rm rs k, up rs k + 1) := fun k hk => by
    rw [List.getElem?_cons_succ, List.getElem?_map, rm_up hk]; rfl
  exact TDF.front h rfl rfl (fun k hk => (rm_at (hat k hk)).1) (fun k hk => (rm_at (hat k hk)).2)
theorem sr_assoc (r : SR) (f g : Env → SR) : (r.seq f).seq g = r.seq fun ρ => (f ρ).seq g := by cases r <;> rfl
theorem law_merged_run (Φ : Calls) {c : Nat} {E : List (Nat × Nat)} {rs : List (List Nat × Int)} {v : Nat} (hc : c ≤ 8) (h : TDL c E rs) (hl : rs.length ≤ 100) :
    ∃ rs', runB 2 9 b__law_merged Φ [.tuple (rs.map roomD), nD v] = .ok (.tuple (rs'.map roomD)) ∧ TDL c E rs' ∧ rs'.length ≤ rs.length + 1 := by
  suffices hh : ∃ rs', endR (exs b__law_merged Φ (start1 9 [.tuple (rs.map roomD), nD v])) = .ok (.tuple (rs'.map roomD)) ∧ TDL c E rs' ∧ rs'.length ≤ rs.length + 1 by
    obtain ⟨rs', e, q⟩ := hh
    exact ⟨rs', (run_of (by rfl)).trans e, q⟩
  unfold b__law_merged
  have tail : ∀ (rs2 : List (List Nat × Int)) (y2 y3 y4 y5 y6 y7 y8 : Option (Bool × D)), TDL c E rs2 → rs2.length ≤ rs.length → ∃ rs', endR (exs (.cons (.ifs (.cmp .Eq (.bin .Mod (.bin .FloorDiv (.varB 1) (.cst (.int 7))) (.cst (.int 9))) (.cst (.int 0))) (.cons (.set 0 [] (.bin .Add (.tup (.cons (.tup (.cons (.tup .nil) (.cons (.un .USub (.cst (.int 1))) .nil))) .nil)) (.blt .tuple (.cons (.lc [6, 7] (.tup (.cons (.var 6) (.cons (.var 7) .nil))) (.val (.varB 0)) .none (.tup (.cons (.var 6) (.cons (.bin .Add (.varB 7) (.cst (.int 1))) .nil)))) .nil)))) .nil) .nil) (.cons (.ret (.var 0)) .nil)) Φ [some (false, .tuple (rs2.map roomD)), some (false, nD v), y2, y3, y4, y5, y6, y7, y8]) = .ok (.tuple (rs'.map roomD)) ∧ TDL c E rs' ∧ rs'.length ≤ rs.length + 1 := by
    intro rs2 y2 y3 y4 y5 y6 y7 y8 h2 hl2
    by_cases q : v / 7 % 9 = 0
    · simp [bin_div, bin_mod, q]
      rw [lc_all rs2 roomD (fun r => roomD (r.1, r.2 + 1))]
      · have e : PyData.tuple ([.tuple [.tuple [], negD 1]] ++ rs2.map fun r => roomD (r.1, r.2 + 1)) = .tuple ((([], -1) :: rs2.map fun r => (r.1, r.2 + 1)).map roomD) := by
          rw [List.map_cons, List.map_map]; rfl
        have hadd : binop .Add (.tuple [.tuple [.tuple [], negD 1]]) (.tuple (rs2.map fun r => roomD (r.1, r.2 + 1))) = some (.tuple ((([], -1) :: rs2.map fun r => (r.1, r.2 + 1)).map roomD)) := by
          rw [← e]
          show (if sm _ then some _ else none) = _
          unfold sm
          rw [if_pos (decide_eq_true (by simp; omega))]
        simp only [Res.ok_bind, show ∀ l, bltop .tuple [.list l] = some (.tuple l) from fun _ => rfl, Res.ofO_some, hadd]
        simp only [onE_ok, SR.seq_nx]
        refine ⟨([], -1) :: rs2.map fun r => (r.1, r.2 + 1), ?_, front_td h2, by simp; omega⟩
        simp
      · simp
      · omega
      · rintro ⟨room, a⟩ hx
        refine ⟨_, rfl, ?_⟩
        have : binop .Add (.int a) (nD 1) = some (.int (a + 1)) := rfl
        simp [wipeE, roomD, this]
    · simp [bin_div, bin_mod, q]
      exact ⟨rs2, rfl, h2, by omega⟩
  simp only [exs_cons, exs_nil] at tail
  by_cases hq : v % 3 = 0 ∧ 1 < rs.length
  · obtain ⟨a, hae⟩ : ∃ a, a = 1 + v / 3 % (rs.length - 1) := ⟨_, rfl⟩
    have hal : v / 3 % (rs.length - 1) < rs.length - 1 := Nat.mod_lt _ (by omega)
    have ha1 : 1 ≤ a := by omega
    have han : a < rs.length := by omega
    obtain ⟨u1, u2⟩ := h.upN han (by omega)
    obtain ⟨p, hpe⟩ : ∃ p, p = (up rs a).toNat := ⟨_, rfl⟩
    rw [← hpe] at u1 u2
    have hixa := ix_room (k := a) han
    rw [u2] at hixa
    have hi0 : ∀ r x : D, ixop (.tuple [r, x]) (nD 0) = some r := fun _ _ => rfl
    have hi1 : ∀ r x : D, ixop (.tuple [r, x]) (nD 1) = some x := fun _ _ => rfl
    simp [start1, bin_div, bin_mod, hq.1, hq.2, bin_sub (show 1 ≤ rs.length by omega), show 0 < rs.length - 1 by omega, bin_add, ← hae, hixa, hi1, rng_n (show rs.length ≤ 1000000 by omega)]
    rw [sr_assoc]
    refine for_gen (fun r => ∃ rs', endR r = .ok (.tuple (rs'.map roomD)) ∧ TDL c E rs' ∧ rs'.length ≤ rs.length + 1) (MgI rs (nD v) a p) ?_ ?_ (List.range rs.length) _ ⟨0, none, none, none, none, rfl, Nat.zero_le _, by simp [mgE, cntM, mgL]; rfl⟩
    · rintro k rest ρ ⟨k', y5, y6, y7, y8, hd, hk', q⟩
      subst q
      obtain ⟨rfl, hk, hrest⟩ := drop_range hd.symm
      refine ⟨_, rfl, ?_⟩
      have hixk := ix_room (rs := rs) hk
      obtain ⟨u, hu⟩ : ∃ u, u = up rs k := ⟨_, rfl⟩
      rw [← hu] at hixk
      have e1 : cmpR .Eq (.int u) (nD a) = .ok (.bool (decide (u = (a : Int)))) := by
        rw [show nD a = .int (a : Int) from rfl, cmpR_eq]
        by_cases z : u = (a : Int) <;> simp [z]
      have e2 : cmpR .Gt (.int u) (nD a) = .ok (.bool (decide ((a : Int) < u))) := id rfl
      have e3 : binop .Sub (.int u) (nD 1) = some (.int (u - 1)) := rfl
      have hml : (mgL rs a p (cntM a k)).length ≤ 1000 := by
        unfold mgL cntM
        rw [List.length_map, List.length_range]
        split <;> omega
      have happ : ∀ (room : List Nat) (w : Int) (y5 y6 y7 y8 : Option (Bool × D)), apS 4 (mgE (.tuple (rs.map roomD)) (nD v) a p (mgL rs a p (cntM a k)) y5 y6 y7 y8) (.ok (.tuple [natsT room, .int w])) = .nx (mgE (.tuple (rs.map roomD)) (nD v) a p (mgL rs a p (cntM a k) ++ [(room, w)]) y5 y6 y7 y8) := fun room w y5 y6 y7 y8 => by
        rw [apS_ok (ds := (mgL rs a p (cntM a k)).map roomD) (by rfl) (by rw [List.length_map]; omega)]
        simp [mgE, roomD]
      have fin : k ≠ a → ∀ (room : List Nat) (w : Int) (y5 y6 y7 y8 : Option (Bool × D)), (room, w) = entM rs a p k → MgI rs (nD v) a p rest (mgE (.tuple (rs.map roomD)) (nD v) a p (mgL rs a p (cntM a k) ++ [(room, w)]) y5 y6 y7 y8) := fun ka room w y5 y6 y7 y8 he => by
        obtain ⟨g1, g2⟩ := gM_cnt ka
        refine ⟨k + 1, y5, y6, y7, y8, hrest, hk, ?_⟩
        rw [g2, mgL_succ, g1, ← he]
      have stay : k = a → ∀ (y5 y6 y7 y8 : Option (Bool × D)), MgI rs (nD v) a p rest (mgE (.tuple (rs.map roomD)) (nD v) a p (mgL rs a p (cntM a k)) y5 y6 y7 y8) := fun ka y5 y6 y7 y8 => by
        refine ⟨k + 1, y5, y6, y7, y8, hrest, hk, ?_⟩
        have : cntM a (k + 1) = cntM a k := by unfold cntM; rw [ka, if_neg (by omega), if_pos (by omega)]; omega
        rw [this]
      have happ' := happ
      have fin' := fin
      have stay' := stay
      simp only [mgE] at happ' fin' stay'
      by_cases kp : k = p
      · have ka : k ≠ a := by omega
        subst kp
        simp [mgE, hixk, hixa, hi0]
        rw [lc_val (rm rs a) nD nD (fun x => !decide (x ∈ rm rs k))]
        · have hlk := nodup_len (h.as k hk).1.nodup (h.as k hk).2
          have hla := nodup_len (h.as a han).1.nodup (h.as a han).2
          have hlf := List.length_filter_le (fun x => !decide (x ∈ rm rs k)) (rm rs a)
          have hadd : binop .Add (natsT (rm rs k)) (.tuple (((rm rs a).filter fun x => !decide (x ∈ rm rs k)).map nD)) = some (natsT (rm rs k ++ (rm rs a).filter fun x => !decide (x ∈ rm rs k))) := by
            show (if sm _ then some _ else none) = _
            unfold sm
            rw [if_pos (decide_eq_true (by rw [List.length_map, List.length_map]; omega))]
            simp
          have hsrt : bltop .sorted [natsT (rm rs k ++ (rm rs a).filter fun x => !decide (x ∈ rm rs k))] = some (natsL (uniL (rm rs k) (rm rs a))) := sorted_nT _
          have htl : ∀ l : List D, bltop .tuple [.list l] = some (.tuple l) := fun _ => rfl
          simp only [Res.ok_bind, htl, Res.ofO_some, hadd, hsrt]
          have pk : PyData.tuple [.tuple ((uniL (rm rs k) (rm rs a)).map nD), nD k] = .tuple [natsT (uniL (rm rs k) (rm rs a)), .int (k : Int)] := rfl
          by_cases z1 : u = (a : Int)
          · have f1 : cmpR .Eq (.int u) (nD a) = .ok (.bool true) := by rw [e1, decide_eq_true z1]
            simp [f1, ka]
            rw [pk, happ']
            simp only [SR.seq_nx]
            exact fin' ka _ _ _ _ _ _ (by unfold entM; rw [if_pos rfl, ← hu, if_pos z1])
          · have f1 : cmpR .Eq (.int u) (nD a) = .ok (.bool false) := by rw [e1, decide_eq_false z1]
            by_cases z2 : (a : Int) < u
            · have f2 : cmpR .Gt (.int u) (nD a) = .ok (.bool true) := by rw [e2, decide_eq_true z2]
              simp [f1, f2, e3, ka]
              rw [happ']
              simp only [SR.seq_nx]
              exact fin' ka _ _ _ _ _ _ (by unfold entM; rw [if_pos rfl, ← hu, if_neg z1, if_pos z2])
            · have f2 : cmpR .Gt (.int u) (nD a) = .ok (.bool false) := by rw [e2, decide_eq_false z2]
              simp [f1, f2, ka]
              rw [happ']
              simp only [SR.seq_nx]
              exact fin' ka _ _ _ _ _ _ (by unfold entM; rw [if_pos rfl, ← hu, if_neg z1, if_neg z2])
        · simp [hixa, hi0]
        · have hla := nodup_len (h.as a han).1.nodup (h.as a han).2
          omega
        · intro x hx
          exact ⟨_, rfl, by simp [wipeE], fun _ => rfl⟩
      · have kpb : cmpR .Eq (nD k) (nD p) = .ok (.bool false) := by
          rw [show nD k = .int (k : Int) from rfl, show nD p = .int (p : Int) from rfl, cmpR_eq, beq_nn, beq_eq_false_iff_ne.mpr kp]
        have pk : PyData.tuple [.tuple ((rm rs k).map nD), nD p] = .tuple [natsT (rm rs k), .int (p : Int)] := rfl
        have kab : cmpR .NotEq (nD k) (nD a) = .ok (.bool (!decide (k = a))) := by
          rw [show nD k = .int (k : Int) from rfl, show nD a = .int (a : Int) from rfl, cmpR_ne, beq_nn]
          by_cases z : k = a <;> simp [z]
        by_cases z1 : u = (a : Int)
        · have f1 : cmpR .Eq (.int u) (nD a) = .ok (.bool true) := by rw [e1, decide_eq_true z1]
          by_cases ka : k = a
          · rw [decide_eq_true ka] at kab
            simp [mgE, hixk, kpb, f1, kab]
            exact stay' ka _ _ _ _
          · rw [decide_eq_false ka] at kab
            simp [mgE, hixk, kpb, f1, kab]
            rw [pk, happ']
            simp only [SR.seq_nx]
            exact fin' ka _ _ _ _ _ _ (by unfold entM; rw [if_neg kp, ← hu, if_pos z1])
        · have f1 : cmpR .Eq (.int u) (nD a) = .ok (.bool false) := by rw [e1, decide_eq_false z1]
          by_cases z2 : (a : Int) < u
          · have f2 : cmpR .Gt (.int u) (nD a) = .ok (.bool true) := by rw [e2, decide_eq_true z2]
            by_cases ka : k = a
            · rw [decide_eq_true ka] at kab
              simp [mgE, hixk, kpb, f1, f2, e3, kab]
              exact stay' ka _ _ _ _
            · rw [decide_eq_false ka] at kab
              simp [mgE, hixk, kpb, f1, f2, e3, kab]
              rw [happ']
              simp only [SR.seq_nx]
              exact fin' ka _ _ _ _ _ _ (by unfold entM; rw [if_neg kp, ← hu, if_neg z1, if_pos z2])
          · have f2 : cmpR .Gt (.int u) (nD a) = .ok (.bool false) := by rw [e2, decide_eq_false z2]
            by_cases ka : k = a
            · rw [decide_eq_true ka] at kab
              simp [mgE, hixk, kpb, f1, f2, kab]
              exact stay' ka _ _ _ _
            · rw [decide_eq_false ka] at kab
              simp [mgE, hixk, kpb, f1, f2, kab]
              rw [happ']
              simp only [SR.seq_nx]
              exact fin' ka _ _ _ _ _ _ (by unfold entM; rw [if_neg kp, ← hu, if_neg z1, if_neg z2])
    · rintro ρ ⟨k, y5, y6, y7, y8, hd, hk, q⟩
      subst q
      have hkl : k = rs.length := by
        have := congrArg List.length hd
        simp at this
        omega
      subst hkl
      have hcn : cntM a rs.length = rs.length - 1 := by unfold cntM; rw [if_neg (by omega)]
      rw [hcn]
      have := tail (mgL rs a p (rs.length - 1)) (some (false, nD a)) (some (false, nD p)) (some (true, .list ((mgL rs a p (rs.length - 1)).map roomD))) y5 y6 y7 y8 (mgL_td h ha1 han u2) (by unfold mgL; simp)
      simp [mgE] at this ⊢
      exact this
  · have := tail rs none none none none none none none h (Nat.le_refl _)
    by_cases q1 : v % 3 = 0
    · have q2 : ¬ 1 < rs.length := fun z => hq ⟨q1, z⟩
      simp [start1, bin_mod, q1, q2] at this ⊢
      exact this
    · simp [start1, bin_mod, q1] at this ⊢
      exact this
end Pv

end
section
namespace Pv
open PySem

/-! ### k11: the plan of rooms -/
theorem ix_last {xs : List D} {d : D} : ixop (.tuple (xs ++ [d])) (.int (-1)) = some d := by
  show L2.atI (xs ++ [d]) (-1) = some d
  unfold L2.atI L2.ixN
  rw [if_neg (by omega), if_pos (by simp; omega)]
  simp
  rw [show (-1 + ((xs.length : Int) + 1)).toNat = xs.length by omega]
  simp
theorem max_lens {r0 : List Nat × Int} {rs0 : List (List Nat × Int)} : ∃ w : Nat, bltop .max [.list ((r0 :: rs0).map fun r => nD r.1.length)] = some (nD w) ∧ ∀ r ∈ r0 :: rs0, r.1.length ≤ w := by
  refine ⟨(rs0.map fun r => r.1.length).foldl max r0.1.length, ?_, ?_⟩
  · rw [List.map_cons, ← max_nL, List.map_map]; rfl
  · have := (foldl_max_le (B := (rs0.map fun r => r.1.length).foldl max r0.1.length) (rs0.map fun r => r.1.length) r0.1.length).mp (Nat.le_refl _)
    intro r hr
    rcases List.mem_cons.mp hr with rfl | hr
    · exact this.1
    · exact this.2 _ (List.mem_map.mpr ⟨r, hr, rfl⟩)
def k11E (s t z v g r : D) (plan : List (List Nat)) (y7 y8 y9 y10 : Option (Bool × D)) : Env := [some (false, s), some (false, t), some (false, z), some (false, v), some (false, g), some (false, r), some (true, .list (plan.map natsT)), y7, y8, y9, y10]
def K11I (s : D) (rest : List (Int × Nat)) (ρ : Env) : Prop := ∃ (y1 y2 y3 y4 y5 y6 y7 y8 y9 y10 : Option (Bool × D)), ρ = [some (false, s), y1, y2, y3, y4, y5, y6, y7, y8, y9, y10]
def K11J (s t z v g : D) (rs : List (List Nat × Int)) (rest : List (List Nat × Int)) (ρ : Env) : Prop := ∃ (k : Nat) (y7 y8 y9 y10 : Option (Bool × D)), rs.drop k = rest ∧ k ≤ rs.length ∧ ρ = k11E s t z v g (.tuple (rs.map roomD)) (planT (rm rs) (up rs) k) y7 y8 y9 y10
theorem doubled_td {c : Nat} {E : List (Nat × Nat)} {rs : List (List Nat × Int)} (h : TDL c E rs) : TDL c E (rs ++ [(rm rs (rs.length - 1), ((rs.length - 1 : Nat) : Int)), ([], 0)]) := by
  unfold TDL
  rw [List.length_append]
  have hpos := h.pos
  refine TDF.doubled h (fun k hk => ?_) (fun k hk => ?_) ?_ ?_ ?_ ?_
  · unfold rm; rw [List.getElem?_append_left hk]
  · unfold up; rw [List.getElem?_append_left hk]
  all_goals (simp only [rm, up]; rw [List.getElem?_append_right (by omega)]; simp)
theorem k11_run {Φ : Calls} (h1 : SMixed Φ) (h2 : SGraph Φ) (h3 : SOrder Φ) (h4 : SRooms Φ) (h5 : SMerged Φ) (h6 : SPlan Φ) (h7 : SCatch Φ) (ns : List Int) (hn : ns.length ≤ 63) : runB 1 11 b_law_v6 Φ [.list (ns.map PyData.int)] = .ok (.bool true) := by
  refine (run_of (by rfl)).trans ?_
  unfold b_law_v6
  have hcut' : slop (.list (ns.map PyData.int)) none (some 8) = some (.list ((ns.take 8).map PyData.int)) := by
    have : slop (.list (ns.map PyData.int)) none (some ((8 : Nat) : Int)) = some (.list ((ns.take 8).map PyData.int)) := by rw [cut_take, List.map_take]
    exact this
  simp [start1, hcut', -List.map_take]
  rw [enum_map]
  refine for_EI (K11I (.list (ns.map PyData.int))) ⟨none, none, none, none, none, none, none, none, none, none, rfl⟩ ?_ ?_
  · rintro ⟨cell, turn⟩ rest ρ ⟨y1, y2, y3, y4, y5, y6, y7, y8, y9, y10, q⟩
    subst q
    refine ⟨_, rfl, ?_⟩
    obtain ⟨v, e1⟩ := h1 cell turn
    obtain ⟨c, E, e2, c1, c8, g⟩ := h2 (v / 9) 8 (by omega) (by omega)
    obtain ⟨order, e3, op⟩ := h3 v c (by omega)
    have e4 := h4 c E order (by omega) g.e op
    have td := rooms_td c1 g op
    have hix : ixop (grD c E) (nD 0) = some (nD c) := rfl
    obtain ⟨rs0, hrs0⟩ : ∃ r, r = roomsN c E order := ⟨_, rfl⟩
    have hl0 : rs0.length = c := by rw [hrs0, roomsN_len]
    rw [← hrs0] at e4 td
    have tail : ∀ (rs : List (List Nat × Int)) (y6 y7 y8 y9 y10 : Option (Bool × D)), TDL c E rs → rs.length ≤ 90 →
        Aft (K11I (.list (ns.map PyData.int)) rest) (fun ρ => endR (SR.rt (.bool true)) = Res.ok (PyData.bool true)) (fun r => endR r = Res.ok (PyData.bool true))
          (exs (.cons (.set 5 [] (.call "_law_merged" (.cons (.var 5) (.cons (.bin .FloorDiv (.varB 3) (.cst (.int 10007))) .nil)))) (.cons (.setF 6 [] (.lst .nil)) (.cons (.fors [] (.tup (.cons (.var 8) (.cons (.var 9) .nil))) (.val (.var 5)) (.cons (.ifs (.cmp .GtE (.varB 9) (.cst (.int 0))) (.cons (.app 6 [] (.blt .tuple (.cons (.lc [10] (.var 10) (.val (.varB 8)) (.some (.cmp .In (.varB 10) (.ix (.ix (.varB 5) (.varB 9)) (.cst (.int 0))))) (.var 10)) .nil))) .nil) .nil) (.cons (.app 6 [] (.var 8)) .nil))) (.cons (.set 7 [] (.call "plan_of" (.cons (.var 5) .nil))) (.cons (.ifs (.or (.not (.isi .tuple (.varB 7))) (.one (.cmp .NotEq (.varB 7) (.blt .tuple (.cons (.varB 6) .nil))))) (.cons (.ret (.cst (.bool false))) .nil) .nil) (.cons (.ifs (.not (.call "_law_catches" (.cons (.var 4) (.cons (.var 7) (.cons (.cst (.str "lazy")) (.cons (.blt .max (.cons (.lc [8] (.var 8) (.val (.varB 5)) .none (.blt .len (.cons (.ix (.varB 8) (.cst (.int 0))) .nil))) .nil)) .nil)))))) (.cons (.ret (.cst (.bool false))) .nil) .nil) .nil)))))) Φ
            [some (false, .list (ns.map PyData.int)), some (false, nD turn), some (false, .int cell), some (false, nD v), some (false, grD c E), some (false, .tuple (rs.map roomD)), y6, y7, y8, y9, y10]) := by
      intro rsa z6 z7 z8 z9 z10 tda hla
      obtain ⟨rs, e5, td, hlb⟩ := h5 c E rsa (v / 10007) c8 tda (by omega)
      have e6 := h6 c E rs (by omega) td (by omega)
      simp [bin_div, e5]
      refine for_AI (K11J (.list (ns.map PyData.int)) (nD turn) (.int cell) (nD v) (grD c E) rs) (l := rs) ⟨0, z7, z8, z9, z10, rfl, Nat.zero_le _, by simp [k11E, planT]⟩ ?_ ?_
      · rintro ⟨room, a⟩ rest' ρ ⟨k, y7, y8, y9, y10, hd, hk, q⟩
        subst q
        obtain ⟨hk1, hg, hrest⟩ := drop_get hd
        obtain ⟨hr, ha⟩ := rm_at hg
        have hr : rm rs k = room := hr
        have ha : up rs k = a := ha
        refine ⟨_, rfl, ?_⟩
        have hpl := planT_len (R := rm rs) (U := up rs) k
        have happ : ∀ (p : List (List Nat)) (s : List Nat) (y7 y8 y9 y10 : Option (Bool × D)), p.length ≤ 10000 → apS 6 (k11E (.list (ns.map PyData.int)) (nD turn) (.int cell) (nD v) (grD c E) (.tuple (rs.map roomD)) p y7 y8 y9 y10) (.ok (natsT s)) = .nx (k11E (.list (ns.map PyData.int)) (nD turn) (.int cell) (nD v) (grD c E) (.tuple (rs.map roomD)) (p ++ [s]) y7 y8 y9 y10) := fun p s y7 y8 y9 y10 hp => by
          rw [apS_ok (ds := p.map natsT) (by rfl) (by rw [List.length_map]; omega)]
          simp [k11E]
        simp only [k11E] at happ
        by_cases h0 : k = 0
        · have hm : a = -1 := by rw [← ha]; exact (td.up k hk1).1 h0
          have e1 : cmpR .GtE (.int (-1)) (nD 0) = .ok (.bool false) := id rfl
          subst h0
          subst hm
          simp [roomD, k11E, e1, happ, planT]
          exact ⟨1, y7, some (false, natsT room), some (false, .int (-1)), y10, hrest.symm, hk1, by simp [planT, planK, k11E, hr]⟩
        · obtain ⟨u1, u2⟩ := td.upN hk1 h0
          obtain ⟨m, hm⟩ : ∃ m, m = (up rs k).toNat := ⟨_, rfl⟩
          rw [← hm] at u1 u2
          have ham : a = (m : Int) := by rw [← ha]; exact u2
          subst ham
          have e1 : cmpR .GtE (.int (m : Int)) (nD 0) = .ok (.bool true) := by
            show Res.ok (PyData.bool (decide ((0 : Int) ≤ (m : Int)))) = _
            rw [decide_eq_true (by omega)]
          have hix : ixop (.tuple (rs.map roomD)) (.int (m : Int)) = some (.tuple [natsT (rm rs m), .int (up rs m)]) := ix_room (by omega)
          have hix0 : ixop (.tuple [natsT (rm rs m), .int (up rs m)]) (nD 0) = some (natsT (rm rs m)) := rfl
          have hrl : room.length ≤ 1000 := by
            have hz : Asc room ∧ ∀ x ∈ room, x < c := by
              have := td.as k hk1
              rwa [hr] at this
            have := nodup_len hz.1.nodup hz.2
            omega
          simp [roomD, k11E, e1]
          rw [lc_val room nD nD (fun x => decide (x ∈ rm rs m))]
          · have hi : (room.filter fun x => decide (x ∈ rm rs m)) = inter room (rm rs m) := rfl
            have htl : ∀ l : List D, bltop .tuple [.list l] = some (.tuple l) := fun _ => rfl
            have f1 := happ (planT (rm rs) (up rs) k) (inter room (rm rs m)) y7 (some (false, natsT room)) (some (false, .int (m : Int))) y10 (by omega)
            have f2 := happ (planT (rm rs) (up rs) k ++ [inter room (rm rs m)]) room y7 (some (false, natsT room)) (some (false, .int (m : Int))) y10 (by simp; omega)
            simp only [Res.ok_bind, htl, Res.ofO_some, hi, f1, SR.seq_nx]
            simp at f2
            simp [f2]
            refine ⟨k + 1, y7, some (false, natsT room), some (false, .int (m : Int)), y10, hrest.symm, hk1, ?_⟩
            rw [planT_succ h0, ← hm, hr]
            simp [k11E]
          · simp
          · omega
          · intro x hx
            exact ⟨_, rfl, by simp [wipeE, hix, hix0], fun _ => rfl⟩
      · rintro ρ ⟨k, y7, y8, y9, y10, hd, hk, q⟩
        subst q
        have hkl : k = rs.length := by
          have := congrArg List.length hd
          simp at this
          omega
        subst hkl
        obtain ⟨r0, rs', hrs⟩ : ∃ r l, rs = r :: l := by
          have := td.pos
          cases rs with
          | nil => simp at this
          | cons r l => exact ⟨r, l, rfl⟩
        obtain ⟨w, hw, hwle⟩ := max_lens (r0 := r0) (rs0 := rs')
        rw [← hrs] at hw hwle
        have hww : w ≤ w := Nat.le_refl _
        obtain ⟨plan, hplan⟩ : ∃ p, p = planT (rm rs) (up rs) rs.length := ⟨_, rfl⟩
        rw [← hplan] at e6 ⊢
        have hpl : plan = rm rs 0 :: planK (rm rs) (up rs) 1 (rs.length - 1) := by
          rw [hplan]
          have := td.pos
          obtain ⟨m, hm⟩ : ∃ m, rs.length = m + 1 := ⟨rs.length - 1, by omega⟩
          rw [hm, planT, Nat.add_sub_cancel]
        have hmem : ∀ s ∈ plan, ∃ j, j < rs.length ∧ s.length ≤ (rm rs j).length := fun s hs => by
          rw [hpl] at hs
          have := td.pos
          rcases List.mem_cons.mp hs with rfl | hs
          · exact ⟨0, by omega, Nat.le_refl _⟩
          · exact planK_mem td (rs.length - 1) 1 (by omega) s hs
        have hrl : ∀ j, j < rs.length → (rm rs j).length ≤ w ∧ (rm rs j).length ≤ 8 := fun j hj => by
          have := nodup_len (td.as j hj).1.nodup (td.as j hj).2
          refine ⟨?_, by omega⟩
          exact hwle _ (List.mem_of_getElem? (rm_up hj))
        have hlen1 : ∀ s ∈ plan, s.length ≤ 1000 := fun s hs => by
          obtain ⟨j, hj, q⟩ := hmem s hs
          have := (hrl j hj).2
          omega
        have hlenw : ∀ s ∈ plan, s.length ≤ w := fun s hs => by
          obtain ⟨j, hj, q⟩ := hmem s hs
          have := (hrl j hj).1
          omega
        have e7 := h7 c E true plan w c8 g.e hlen1 (by rw [hplan]; have := planT_len (R := rm rs) (U := up rs) rs.length; omega)
        have hfl := plan_falls td g.e
        rw [← hpl] at hfl
        rw [hfl, decide_eq_true hlenw, Bool.and_self] at e7
        have e7 : Φ "_law_catches" [grD c E, .tuple (plan.map natsT), .str "lazy", nD w] = .ok (.bool true) := e7
        have hne : cmpR .NotEq (.tuple (plan.map natsT)) (.tuple (plan.map natsT)) = .ok (.bool false) := by
          rw [cmp_neT (enc_n 0).tup (by omega)]; simp
        have htl : ∀ l : List D, bltop .tuple [.list l] = some (.tuple l) := fun _ => rfl
        simp [k11E, e6, isiop, htl, hne]
        rw [lc_all rs roomD (fun r => nD r.1.length)]
        · simp only [Res.ok_bind, hw, Res.ofO_some]
          simp [e7]
          exact ⟨_, _, _, _, _, _, _, _, _, _, rfl⟩
        · simp
        · omega
        · rintro ⟨room, a⟩ hx
          refine ⟨_, rfl, ?_⟩
          have hix0 : ixop (.tuple [natsT room, .int a]) (nD 0) = some (natsT room) := rfl
          simp [wipeE, roomD, hix0]
    simp only [exs_cons, exs_nil] at tail
    by_cases hq : v / 5 % 6 = 1
    · have hc0 : rs0.length ≠ 0 := by omega
      have t := tail (rs0 ++ [(rm rs0 (rs0.length - 1), ((rs0.length - 1 : Nat) : Int)), ([], 0)]) y6 y7 y8 y9 y10 (doubled_td td) (by simp; omega)
      have hlast : ixop (.tuple (rs0.map roomD)) (.int (-1)) = some (.tuple [natsT (rm rs0 (rs0.length - 1)), .int (up rs0 (rs0.length - 1))]) := by
        have hsp : rs0 = rs0.dropLast ++ [(rm rs0 (rs0.length - 1), up rs0 (rs0.length - 1))] := by
          have hne : rs0 ≠ [] := fun z => hc0 (by rw [z]; rfl)
          have := List.dropLast_concat_getLast hne
          rw [List.getLast_eq_getElem] at this
          have hg := rm_up (rs := rs0) (k := rs0.length - 1) (by omega)
          rw [List.getElem?_eq_getElem (by omega)] at hg
          rw [← Option.some.inj hg]
          exact this.symm
        have := ix_last (xs := rs0.dropLast.map roomD) (d := roomD (rm rs0 (rs0.length - 1), up rs0 (rs0.length - 1)))
        rw [show rs0.dropLast.map roomD ++ [roomD (rm rs0 (rs0.length - 1), up rs0 (rs0.length - 1))] = (rs0.dropLast ++ [(rm rs0 (rs0.length - 1), up rs0 (rs0.length - 1))]).map roomD by simp, ← hsp] at this
        exact this
      have hi0 : ∀ r x : D, ixop (.tuple [r, x]) (nD 0) = some r := fun _ _ => rfl
      have hneg : negD 1 = .int (-1) := rfl
      have hadd : ∀ l : List Nat, binop .Add (.tuple (rs0.map roomD)) (.tuple [.tuple [natsT l, nD (rs0.length - 1)], .tuple [.tuple [], nD 0]]) = some (.tuple ((rs0 ++ [(l, ((rs0.length - 1 : Nat) : Int)), ([], 0)]).map roomD)) := fun l => by
        show (if sm _ then some _ else none) = _
        unfold sm
        rw [if_pos (decide_eq_true (by simp; omega))]
        simp [roomD]
        exact rfl
      simp [e1, bin_div, bin_mod, e2, hix, e3, e4, hq, hneg, hlast, hi0, bin_sub (show 1 ≤ rs0.length by omega), hadd] at t ⊢
      exact t
    · have t := tail rs0 y6 y7 y8 y9 y10 td (by omega)
      simp [e1, bin_div, bin_mod, e2, hix, e3, e4, hq] at t ⊢
      exact t
  · rintro ρ ⟨y1, y2, y3, y4, y5, y6, y7, y8, y9, y10, q⟩
    subst q
    simp
end Pv

end
section
namespace Pv
open PySem

/-! ### the parts in which a seen runner may be -/
noncomputable def regM (c : Nat) (E : List (Nat × Nat)) (stand part after : Nat) : Nat := closM c E (dif (2 ^ c - 1) (stand &&& after)) part
noncomputable def npM (c : Nat) (E : List (Nat × Nat)) (stand part after : Nat) : List Nat := (partsM c E (bitP (dif (2 ^ c - 1) after))).filter fun m => !(m &&& regM c E stand part after == 0)
theorem dif_all {c a : Nat} : dif (2 ^ c - 1) a < 2 ^ c := lt_pow_of fun v t => by
  rw [test_dif, Bool.and_eq_true, test_all, decide_eq_true_eq] at t
  exact t.1
theorem next_parts_run {Φ : Calls} {c : Nat} {E : List (Nat × Nat)} {stand part after : Nat} (hE : EOk c E) (h1 : SSpread Φ c E (rowsN c E)) (h2 : SPartM Φ c E) (hc : c ≤ 16) (hp : part < 2 ^ c) :
    runB 4 7 b_next_parts Φ [natsL (rowsN c E), nD stand, nD part, nD after] = .ok (natsL (npM c E stand part after)) := by
  refine (run_of (by rfl)).trans ?_
  unfold b_next_parts
  have hl : (rowsN c E).length = c := (rowsN_ok hE).1
  have f1 := h1 part (dif (2 ^ c - 1) (stand &&& after)) hp dif_all
  have f2 := h2 (dif (2 ^ c - 1) after) dif_all
  have hpos := Nat.two_pow_pos c
  simp [start1, hl, bin_shl (show c ≤ 1000000 by omega), bin_sub (show 1 ≤ 2 ^ c by omega), and_not, f1]
  rw [lc_val (partsM c E (bitP (dif (2 ^ c - 1) after))) nD nD (fun m => !(m &&& regM c E stand part after == 0))]
  · rfl
  · simp [and_not, f2]
  · unfold partsM
    rw [List.length_map]
    have := reps_lt_len E (bitP (dif (2 ^ c - 1) after)) c
    omega
  · intro m hm
    exact ⟨_, rfl, by simp [wipeE]; rfl, fun _ => rfl⟩
def SNextP (Φ : Calls) (c : Nat) (E : List (Nat × Nat)) : Prop := ∀ stand part after, part < 2 ^ c → Φ "next_parts" [natsL (rowsN c E), nD stand, nD part, nD after] = .ok (natsL (npM c E stand part after))
/-- the parts that are due, by their least nodes -/
noncomputable def dueR (c : Nat) (E : List (Nat × Nat)) (stand part after : List Nat) : List Nat := (repsN E (frB c after) c).filter fun r => decide (r ∈ reachL c E (stand.filter fun x => decide (x ∈ after)) part)
noncomputable def dueM (c : Nat) (E : List (Nat × Nat)) (stand part after : List Nat) : List Nat := (dueR c E stand part after).map (compM c E (frB c after))
theorem fr_mask {c : Nat} {l : List Nat} : bitP (dif (2 ^ c - 1) (maskN l)) = frB c l := by
  funext v
  apply propext
  show (dif (2 ^ c - 1) (maskN l)).testBit v = true ↔ _
  rw [test_dif, Bool.and_eq_true, test_all, decide_eq_true_eq, Bool.not_eq_true', ← Bool.not_eq_true, test_maskN]
theorem conn_mono {E : List (Nat × Nat)} {fr fr' st st' : Nat → Prop} (h1 : ∀ x, fr x → fr' x) (h2 : ∀ x, st x → st' x) {v : Nat} (h : Conn E fr st v) : Conn E fr' st' v := by
  induction h with
  | base q => exact .base (h2 _ q)
  | step _ a b ih => exact .step ih a (h1 _ b)
theorem conn_inc {E : List (Nat × Nat)} {fr st : Nat → Prop} {u v : Nat} (h : Conn E fr st u) (q : InC E fr u v) : Conn E fr st v := by
  induction q with
  | base e => exact e ▸ h
  | step _ a b ih => exact .step ih a b
theorem np_due {c : Nat} {E : List (Nat × Nat)} {stand part after : List Nat} (hp : ∀ x ∈ part, x < c) (hd : ∀ x ∈ part, x ∉ stand) : npM c E (maskN stand) (maskN part) (maskN after) = dueM c E stand part after := by
  unfold npM dueM dueR partsM
  rw [fr_mask, List.filter_map]
  congr 1
  refine List.filter_congr fun r hr => ?_
  obtain ⟨hrc, hrep⟩ := mem_reps.mp hr
  rw [Bool.eq_iff_iff]
  simp only [Function.comp, Bool.not_eq_true', beq_eq_false_iff_ne, decide_eq_true_eq]
  have hstay : ∀ x, x ∈ stand.filter (fun x => decide (x ∈ after)) ↔ x ∈ stand ∧ x ∈ after := fun x => by rw [List.mem_filter, decide_eq_true_eq]
  have hreg : ∀ x, (regM c E (maskN stand) (maskN part) (maskN after)).testBit x = true ↔ x ∈ reachL c E (stand.filter fun x => decide (x ∈ after)) part := fun x => by
    rw [mem_reachL]
    unfold regM closM
    rw [test_maskP]
    refine and_congr_right fun hx => ⟨conn_mono (fun y hy => ?_) (fun y hy => ?_), conn_mono (fun y hy => ?_) (fun y hy => ?_)⟩
    · have hy : (dif (2 ^ c - 1) (maskN stand &&& maskN after)).testBit y = true := hy
      rw [test_dif, Bool.and_eq_true, test_all, decide_eq_true_eq, Bool.not_eq_true', Nat.testBit_and, ← Bool.not_eq_true, Bool.and_eq_true, test_maskN, test_maskN] at hy
      exact ⟨hy.1, fun z => hy.2 ((hstay y).mp z)⟩
    · have hy := test_maskN.mp hy
      exact ⟨hy, fun z => hd y hy ((hstay y).mp z).1⟩
    · show (dif (2 ^ c - 1) (maskN stand &&& maskN after)).testBit y = true
      rw [test_dif, Bool.and_eq_true, test_all, decide_eq_true_eq, Bool.not_eq_true', Nat.testBit_and, ← Bool.not_eq_true, Bool.and_eq_true, test_maskN, test_maskN]
      exact ⟨hy.1, fun z => hy.2 ((hstay y).mpr z)⟩
    · exact test_maskN.mpr hy.1
  constructor
  · intro hne
    obtain ⟨x, hx⟩ : ∃ x, (compM c E (frB c after) r &&& regM c E (maskN stand) (maskN part) (maskN after)).testBit x = true := by
      refine Classical.byContradiction fun z => hne (Nat.eq_of_testBit_eq fun i => ?_)
      rw [Nat.zero_testBit, ← Bool.not_eq_true]
      exact fun w => z ⟨i, w⟩
    rw [Nat.testBit_and, Bool.and_eq_true] at hx
    obtain ⟨hx1, hx2⟩ := hx
    unfold compM at hx1
    rw [test_maskP] at hx1
    have hx2 := (hreg x).mp hx2
    rw [mem_reachL] at hx2 ⊢
    refine ⟨hrc, conn_inc hx2.2 ?_⟩
    exact InC.mono (fun y hy => ⟨hy.1, fun z => hy.2 ((hstay y).mp z).2⟩) (InC.symm hrep.1 hx1.2)
  · intro hin hz
    have h2 := (hreg r).mpr hin
    have h1 : (compM c E (frB c after) r).testBit r = true := by
      unfold compM
      rw [test_maskP]
      exact ⟨hrc, InC.refl⟩
    have : (compM c E (frB c after) r &&& regM c E (maskN stand) (maskN part) (maskN after)).testBit r = true := by
      rw [Nat.testBit_and, h1, h2]; rfl
    rw [hz, Nat.zero_testBit] at this
    cases this
theorem head_bits {c : Nat} {E : List (Nat × Nat)} {fr : Nat → Prop} (hfr : ∀ x, fr x → x < c) {r : Nat} (h : isRep E fr r) : (bitsN c (compM c E fr r))[0]? = some r := by
  have hr : r ∈ bitsN c (compM c E fr r) := by
    rw [mem_bitsN]
    unfold compM
    rw [test_maskP]
    exact ⟨hfr r h.1, hfr r h.1, InC.refl⟩
  have hall : ∀ x ∈ bitsN c (compM c E fr r), r ≤ x := fun x hx => by
    rw [mem_bitsN] at hx
    unfold compM at hx
    rw [test_maskP] at hx
    refine Nat.not_lt.mp fun hlt => ?_
    exact h.2 x hlt (InC.within h.1 hx.2.2) (InC.symm h.1 hx.2.2)
  have hasc := bits_asc c (compM c E fr r)
  cases hb : bitsN c (compM c E fr r) with
  | nil => rw [hb] at hr; cases hr
  | cons y l =>
    rw [hb] at hr hall hasc
    rcases List.mem_cons.mp hr with e | e
    · rw [e]; rfl
    · have h1 := (List.pairwise_cons.mp hasc).1 r e
      have h2 := hall y (by simp)
      omega
noncomputable def dueL (c : Nat) (E : List (Nat × Nat)) (stand part after : List Nat) : List (List Nat) := (dueM c E stand part after).map (bitsN c)
theorem law_due_run {Φ : Calls} (hr : SReachG Φ) (hp : SLParts Φ) {c : Nat} {E : List (Nat × Nat)} {stand part after : List Nat} (hc : c ≤ 8) (hE : EOk c E) (h1 : part.Nodup) (h2 : ∀ x ∈ part, x < c) (hs : stand.length ≤ 1000) (ha : after.length ≤ 1000) :
    runB 4 8 b__law_due_v4 Φ [grD c E, natsT stand, natsT part, natsT after] = .ok (.tuple ((dueL c E stand part after).map natsT)) := by
  refine (run_of (by rfl)).trans ?_
  unfold b__law_due_v4
  have f1 := hr c E false false part (stand.filter fun x => decide (x ∈ after)) hc hE h1 h2
  have f1 : Φ "_law_reach" [grD c E, natsL part, natsL (stand.filter fun x => decide (x ∈ after))] = .ok (natsL (reachL c E (stand.filter fun x => decide (x ∈ after)) part)) := f1
  have f2 := hp c E after hc hE ha
  simp [start1]
  rw [lc_val stand nD nD (fun x => decide (x ∈ after))]
  · have hl : ∀ l : List Nat, bltop .list [natsT l] = some (natsL l) := fun _ => rfl
    rw [stF_ok _ _ _ (by simp)]
    simp [hl, f1]
    rw [lc_val (repsN E (frB c after) c) (fun r => natsT (bitsN c (compM c E (frB c after) r))) (fun r => natsT (bitsN c (compM c E (frB c after) r))) (fun r => decide (r ∈ reachL c E (stand.filter fun x => decide (x ∈ after)) part))]
    · simp [dueL, dueM, dueR, show ∀ l : List D, bltop .tuple [.list l] = some (.tuple l) from fun _ => rfl]
    · simp [f2, partsT, partsM]
    · have := reps_lt_len E (frB c after) c
      omega
    · intro r hrr
      have hh := head_bits (c := c) (fun x hx => hx.1) (mem_reps.mp hrr).2
      have hix : ixop (natsT (bitsN c (compM c E (frB c after) r))) (nD 0) = some (nD r) := by
        refine (atI_nn _ 0).trans ?_
        rw [List.getElem?_map, hh]; rfl
      exact ⟨_, rfl, by simp [wipeE, hix], fun _ => rfl⟩
  · simp
  · omega
  · intro x hx
    exact ⟨_, rfl, by simp [wipeE], fun _ => rfl⟩
def SDue (Φ : Calls) : Prop := ∀ c E stand part after, c ≤ 8 → EOk c E → part.Nodup → (∀ x ∈ part, x < c) → stand.length ≤ 1000 → after.length ≤ 1000 → Φ "_law_due" [grD c E, natsT stand, natsT part, natsT after] = .ok (.tuple ((dueL c E stand part after).map natsT))
end Pv

end
section
namespace Pv
open PySem

/-! ### hunts -/
def HT : Nat → Type
  | 0 => Unit
  | n + 1 => List (List Nat × List Nat × HT n)
def htD : (n : Nat) → HT n → D
  | 0, _ => .tuple []
  | n + 1, l => .tuple (List.map (fun b : List Nat × List Nat × HT n => .tuple [natsT b.1, .tuple [natsT b.2.1, htD n b.2.2]]) l)
def SetOk (c : Nat) (l : List Nat) : Prop := l.Nodup ∧ ∀ x ∈ l, x < c
theorem SetOk.len {c : Nat} {l : List Nat} (h : SetOk c l) : l.length ≤ c := nodup_len h.1 h.2
theorem SetOk.bits (c m : Nat) : SetOk c (bitsN c m) := ⟨(bits_asc _ _).nodup, fun x hx => (mem_bitsN.mp hx).1⟩
def HOk (c B : Nat) : (n : Nat) → HT n → Prop
  | 0, _ => True
  | n + 1, l => List.length (α := List Nat × List Nat × HT n) l ≤ B ∧ ∀ b : List Nat × List Nat × HT n, b ∈ (show List (List Nat × List Nat × HT n) from l) → SetOk c b.1 ∧ SetOk c b.2.1 ∧ HOk c B n b.2.2
noncomputable def ansN (c : Nat) (E : List (Nat × Nat)) (count : Nat) : (n : Nat) → HT n → List (List Nat) → List Nat → Bool
  | 0, _, due, _ => decide (due = [])
  | n + 1, l, due, stand => decide (List.map (fun b : List Nat × List Nat × HT n => b.1) l = due) && List.all (α := List Nat × List Nat × HT n) l fun b => decide (b.2.1.length ≤ count) && ansN c E count n b.2.2 (dueL c E stand b.1 b.2.1) b.2.1
def brD {n : Nat} (b : List Nat × List Nat × HT n) : D := .tuple [natsT b.1, .tuple [natsT b.2.1, htD n b.2.2]]
theorem htD_succ {n : Nat} (l : List (List Nat × List Nat × HT n)) : htD (n + 1) l = .tuple (l.map brD) := rfl
theorem ansN_succ {c : Nat} {E : List (Nat × Nat)} {count n : Nat} (l : List (List Nat × List Nat × HT n)) (due : List (List Nat)) (stand : List Nat) : ansN c E count (n + 1) l due stand = (decide (l.map (fun b => b.1) = due) && l.all fun b => decide (b.2.1.length ≤ count) && ansN c E count n b.2.2 (dueL c E stand b.1 b.2.1) b.2.1) := rfl
/-- parts in which a runner may be while the searchers stand -/
def DueOk (c : Nat) (M : List Nat) (stand : List Nat) : Prop := M.length ≤ 1000 ∧ ∀ m ∈ M, m < 2 ^ c ∧ ∀ x ∈ stand, m.testBit x = false
def SAns (Φ : Calls) (c : Nat) (E : List (Nat × Nat)) (count n : Nat) : Prop := ∀ (h : HT n) (M : List Nat) (stand : List Nat), HOk c 1000 n h → DueOk c M stand → SetOk c stand → Φ "answers" [natsL (rowsN c E), nD count, htD n h, natsL M, nD (maskN stand)] = .ok (.bool (ansN c E count n h (M.map (bitsN c)) stand))
theorem due_ok {c : Nat} {E : List (Nat × Nat)} {stand part after : List Nat} (hc : c ≤ 1000) : DueOk c (dueM c E stand part after) after := by
  refine ⟨?_, fun m hm => ?_⟩
  · unfold dueM dueR
    rw [List.length_map]
    refine Nat.le_trans (List.length_filter_le _ _) ?_
    have := reps_lt_len E (frB c after) c
    omega
  · unfold dueM at hm
    obtain ⟨r, hr, rfl⟩ := List.mem_map.mp hm
    obtain ⟨h1, h2⟩ := List.mem_filter.mp hr
    refine ⟨compM_lt, fun x hx => ?_⟩
    rw [← Bool.not_eq_true]
    unfold compM
    rw [test_maskP]
    rintro ⟨_, q⟩
    exact (InC.within (mem_reps.mp h1).2.1 q).2 hx
def anE (r n b m s : D) (y5 y6 y7 y8 : Option (Bool × D)) : Env := [some (false, r), some (false, n), some (false, b), some (false, m), some (false, s), y5, y6, y7, y8]
def AnI (r n b m s : D) {k : Nat} (l rest : List (List Nat × List Nat × HT k)) (good : List Nat × List Nat × HT k → Bool) (G : Bool) (ρ : Env) : Prop := ∃ (y5 y6 y7 y8 : Option (Bool × D)), ρ = anE r n b m s y5 y6 y7 y8 ∧ (∀ x ∈ rest, x ∈ l) ∧ G = rest.all good
theorem bits_mask {c m : Nat} (h : m < 2 ^ c) : maskN (bitsN c m) = m := mask_ext fun v => by
  rw [test_maskN, mem_bitsN]
  exact ⟨fun q => q.2, fun q => ⟨lt_of_test h q, q⟩⟩
theorem answers_run {Φ : Calls} {c : Nat} {E : List (Nat × Nat)} {count n : Nat} (h1 : SMask Φ) (h2 : SNodes Φ c) (h3 : SNextP Φ c E) (h4 : SAns Φ c E count n) (hc : c ≤ 1000) (l : List (List Nat × List Nat × HT n)) (M : List Nat) (stand : List Nat) (hl : HOk c 1000 (n + 1) l) (hM : DueOk c M stand) (hs : SetOk c stand) :
    runB 5 9 b_answers Φ [natsL (rowsN c E), nD count, htD (n + 1) l, natsL M, nD (maskN stand)] = .ok (.bool (ansN c E count (n + 1) l (M.map (bitsN c)) stand)) := by
  have key : ∃ b : Bool, runB 5 9 b_answers Φ [natsL (rowsN c E), nD count, htD (n + 1) l, natsL M, nD (maskN stand)] = .ok (.bool b) ∧ (b = true ↔ ansN c E count (n + 1) l (M.map (bitsN c)) stand = true) := by
    refine retB_run (by rfl) ?_
    rw [htD_succ, ansN_succ]
    unfold b_answers
    obtain ⟨good, hgood⟩ : ∃ g : List Nat × List Nat × HT n → Bool, g = fun b => decide (b.2.1.length ≤ count) && ansN c E count n b.2.2 (dueL c E stand b.1 b.2.1) b.2.1 := ⟨_, rfl⟩
    rw [← hgood]
    obtain ⟨G, hG⟩ : ∃ G, G = l.all good := ⟨_, rfl⟩
    rw [← hG]
    have hlen : l.length ≤ 1000 := hl.1
    have hMl : M.length ≤ 1000 := hM.1
    simp [start1]
    rw [lc_all l brD (fun b => natsT b.1)]
    · simp
      rw [lc_all M nD (fun m => natsT (bitsN c m))]
      · have hcmp : cmpR .NotEq (.list (l.map fun b => natsT b.1)) (.list (M.map fun m => natsT (bitsN c m))) = .ok (.bool (!decide (l.map (fun b => b.1) = M.map (bitsN c)))) := by
          have := cmp_neL (enc_n 0).tup (by omega) (l.map fun b => b.1) (M.map (bitsN c))
          rw [List.map_map, List.map_map] at this
          exact this
        rw [Res.ok_bind, hcmp]
        by_cases hq : l.map (fun b => b.1) = M.map (bitsN c)
        · simp [hq]
          refine for_gen (RetB (G = true)) (AnI (natsL (rowsN c E)) (nD count) (.tuple (l.map brD)) (natsL M) (nD (maskN stand)) l · good G) ?_ ?_ l _ ⟨none, none, none, none, rfl, fun _ h => h, hG⟩
          · rintro ⟨part, room, sub⟩ rest ρ ⟨y5, y6, y7, y8, q, hm, hall⟩
            subst q
            refine ⟨_, rfl, ?_⟩
            obtain ⟨ok1, ok2, ok3⟩ := hl.2 _ (hm (part, room, sub) (by simp))
            have ok1 : SetOk c part := ok1
            have ok2 : SetOk c room := ok2
            have hdis : ∀ x ∈ part, x ∉ stand := fun x hx hst => by
              have : part ∈ l.map (fun b => b.1) := List.mem_map.mpr ⟨_, hm (part, room, sub) (by simp), rfl⟩
              rw [hq] at this
              obtain ⟨m, hm2, rfl⟩ := List.mem_map.mp this
              have := (hM.2 m hm2).2 x hst
              rw [(mem_bitsN.mp hx).2] at this
              cases this
            have f1 := h1 room fun x hx => by have := ok2.2 x hx; omega
            have f2 := h1 part fun x hx => by have := ok1.2 x hx; omega
            have f3 := h3 (maskN stand) (maskN part) (maskN room) (maskN_lt ok1.2)
            rw [np_due ok1.2 hdis] at f3
            have f4 := h4 sub (dueM c E stand part room) room ok3 (due_ok hc) ok2
            have hi0 : ∀ r x : D, ixop (.tuple [r, x]) (nD 0) = some r := fun _ _ => rfl
            have hi1 : ∀ r x : D, ixop (.tuple [r, x]) (nD 1) = some x := fun _ _ => rfl
            rw [List.all_cons] at hall
            have hg1 : good (part, room, sub) = (decide (room.length ≤ count) && ansN c E count n sub (dueL c E stand part room) room) := by rw [hgood]
            by_cases hlc : room.length ≤ count
            · have hlc' : ¬ count < room.length := by omega
              rw [decide_eq_true hlc, Bool.true_and] at hg1
              have f4 : Φ "answers" [natsL (rowsN c E), nD count, htD n sub, natsL (dueM c E stand part room), nD (maskN room)] = .ok (.bool (good (part, room, sub))) := by rw [f4, hg1]; rfl
              cases hgv : good (part, room, sub) with
              | true =>
                rw [hgv] at f4 hall
                simp [brD, anE, hi0, hi1, hlc', f1, f2, f3, f4]
                exact ⟨_, _, _, _, rfl, fun x hx => hm x (by simp [hx]), by rw [hall]; rfl⟩
              | false =>
                rw [hgv] at f4 hall
                simp [brD, anE, hi0, hi1, hlc', f1, f2, f3, f4]
                exact retB_f (by rw [hall]; simp)
            · have hlc' : count < room.length := by omega
              rw [decide_eq_false hlc, Bool.false_and] at hg1
              simp [brD, anE, hi0, hlc']
              exact retB_f (by rw [hall, hg1]; simp)
          · rintro ρ ⟨y5, y6, y7, y8, q, hm, hall⟩
            exact retB_t (by rw [hall]; rfl)
        · simp [hq]
          exact retB_f (by simp)
      · simp
      · omega
      · intro m hm
        have := h2 m (hM.2 m hm).1
        exact ⟨_, rfl, by simp [wipeE, this]⟩
    · simp
    · omega
    · rintro ⟨part, room, sub⟩ hx
      exact ⟨_, rfl, by simp [wipeE, brD]⟩
  obtain ⟨b, e, h⟩ := key
  rw [e]
  congr 2
  rw [Bool.eq_iff_iff, h]
theorem answers_run0 {Φ : Calls} {c : Nat} {E : List (Nat × Nat)} {count : Nat} (h2 : SNodes Φ c) (h : HT 0) (M : List Nat) (stand : List Nat) (hM : DueOk c M stand) :
    runB 5 9 b_answers Φ [natsL (rowsN c E), nD count, htD 0 h, natsL M, nD (maskN stand)] = .ok (.bool (ansN c E count 0 h (M.map (bitsN c)) stand)) := by
  refine (run_of (by rfl)).trans ?_
  unfold b_answers
  have hMl : M.length ≤ 1000 := hM.1
  simp [start1, htD]
  rw [lc_all ([] : List Nat) nD nD]
  · simp
    rw [lc_all M nD (fun m => natsT (bitsN c m))]
    · have hcmp : cmpR .NotEq (.list []) (.list (M.map fun m => natsT (bitsN c m))) = .ok (.bool (!decide ([] = M.map (bitsN c)))) := by
        have := cmp_neL (enc_n 0).tup (by omega) [] (M.map (bitsN c))
        rw [List.map_map] at this
        exact this
      rw [Res.ok_bind, hcmp]
      cases M with
      | nil => simp [ansN, forL]
      | cons m M => simp [ansN]
    · simp
    · omega
    · intro m hm
      have := h2 m (hM.2 m hm).1
      exact ⟨_, rfl, by simp [wipeE, this]⟩
  · simp
  · simp
  · intro x hx
    cases hx
end Pv

end
section
namespace Pv
open PySem

/-! ### hunts, judged by the law -/
def SBr (Φ : Calls) (c : Nat) (E : List (Nat × Nat)) (count n : Nat) : Prop := ∀ (h : HT n) (due : List (List Nat)) (stand : List Nat), HOk c 1000 n h → stand.length ≤ 1000 → Φ "_law_branches" [grD c E, nD count, htD n h, .tuple (due.map natsT), natsT stand] = .ok (.bool (ansN c E count n h due stand))
def bnE (r n b m s : D) (y5 y6 y7 : Option (Bool × D)) : Env := [some (false, r), some (false, n), some (false, b), some (false, m), some (false, s), y5, y6, y7]
def BnI (r n b m s : D) {k : Nat} (l rest : List (List Nat × List Nat × HT k)) (good : List Nat × List Nat × HT k → Bool) (G : Bool) (ρ : Env) : Prop := ∃ (y5 y6 y7 : Option (Bool × D)), ρ = bnE r n b m s y5 y6 y7 ∧ (∀ x ∈ rest, x ∈ l) ∧ G = rest.all good
theorem branches_run {Φ : Calls} {c : Nat} {E : List (Nat × Nat)} {count n : Nat} (h1 : SDue Φ) (h4 : SBr Φ c E count n) (hc : c ≤ 8) (hE : EOk c E) (l : List (List Nat × List Nat × HT n)) (due : List (List Nat)) (stand : List Nat) (hl : HOk c 1000 (n + 1) l) (hs : stand.length ≤ 1000) :
    runB 5 8 b__law_branches Φ [grD c E, nD count, htD (n + 1) l, .tuple (due.map natsT), natsT stand] = .ok (.bool (ansN c E count (n + 1) l due stand)) := by
  have key : ∃ b : Bool, runB 5 8 b__law_branches Φ [grD c E, nD count, htD (n + 1) l, .tuple (due.map natsT), natsT stand] = .ok (.bool b) ∧ (b = true ↔ ansN c E count (n + 1) l due stand = true) := by
    refine retB_run (by rfl) ?_
    rw [htD_succ, ansN_succ]
    unfold b__law_branches
    obtain ⟨good, hgood⟩ : ∃ g : List Nat × List Nat × HT n → Bool, g = fun b => decide (b.2.1.length ≤ count) && ansN c E count n b.2.2 (dueL c E stand b.1 b.2.1) b.2.1 := ⟨_, rfl⟩
    rw [← hgood]
    obtain ⟨G, hG⟩ : ∃ G, G = l.all good := ⟨_, rfl⟩
    rw [← hG]
    have hlen : l.length ≤ 1000 := hl.1
    simp [start1, isiop]
    rw [lc_all l brD (fun b => natsT b.1)]
    · have htl : ∀ l : List D, bltop .tuple [.list l] = some (.tuple l) := fun _ => rfl
      have hcmp : cmpR .NotEq (.tuple (l.map fun b => natsT b.1)) (.tuple (due.map natsT)) = .ok (.bool (!decide (l.map (fun b => b.1) = due))) := by
        have := cmp_neT (enc_n 0).tup (by omega) (l.map fun b => b.1) due
        rw [List.map_map] at this
        exact this
      simp only [Res.ok_bind, htl, Res.ofO_some]
      rw [hcmp]
      by_cases hq : l.map (fun b => b.1) = due
      · simp [hq]
        refine for_gen (RetB (G = true)) (BnI (grD c E) (nD count) (.tuple (l.map brD)) (.tuple (due.map natsT)) (natsT stand) l · good G) ?_ ?_ l _ ⟨none, none, none, rfl, fun _ h => h, hG⟩
        · rintro ⟨part, room, sub⟩ rest ρ ⟨y5, y6, y7, q, hm, hall⟩
          subst q
          refine ⟨_, rfl, ?_⟩
          obtain ⟨ok1, ok2, ok3⟩ := hl.2 _ (hm (part, room, sub) (by simp))
          have ok1 : SetOk c part := ok1
          have ok2 : SetOk c room := ok2
          have f1 := h1 c E stand part room hc hE ok1.1 ok1.2 hs (by have := ok2.len; omega)
          have f4 := h4 sub (dueL c E stand part room) room ok3 (by have := ok2.len; omega)
          have hi0 : ∀ r x : D, ixop (.tuple [r, x]) (nD 0) = some r := fun _ _ => rfl
          have hi1 : ∀ r x : D, ixop (.tuple [r, x]) (nD 1) = some x := fun _ _ => rfl
          rw [List.all_cons] at hall
          have hg1 : good (part, room, sub) = (decide (room.length ≤ count) && ansN c E count n sub (dueL c E stand part room) room) := by rw [hgood]
          by_cases hlc : room.length ≤ count
          · have hlc' : ¬ count < room.length := by omega
            rw [decide_eq_true hlc, Bool.true_and] at hg1
            rw [← hg1] at f4
            cases hgv : good (part, room, sub) with
            | true =>
              rw [hgv] at f4 hall
              simp [brD, bnE, hi0, hi1, hlc', f1, f4]
              exact ⟨_, _, _, rfl, fun x hx => hm x (by simp [hx]), by rw [hall]; rfl⟩
            | false =>
              rw [hgv] at f4 hall
              simp [brD, bnE, hi0, hi1, hlc', f1, f4]
              exact retB_f (by rw [hall]; simp)
          · have hlc' : count < room.length := by omega
            rw [decide_eq_false hlc, Bool.false_and] at hg1
            simp [brD, bnE, hi0, hlc']
            exact retB_f (by rw [hall, hg1]; simp)
        · rintro ρ ⟨y5, y6, y7, q, hm, hall⟩
          exact retB_t (by rw [hall]; rfl)
      · simp [hq]
        exact retB_f (by simp)
    · simp
    · omega
    · rintro ⟨part, room, sub⟩ hx
      have hi0 : ∀ r x : D, ixop (.tuple [r, x]) (nD 0) = some r := fun _ _ => rfl
      exact ⟨_, rfl, by simp [wipeE, brD, hi0]⟩
  obtain ⟨b, e, h⟩ := key
  rw [e]
  congr 2
  rw [Bool.eq_iff_iff, h]
theorem branches_run0 {Φ : Calls} {c : Nat} {E : List (Nat × Nat)} {count : Nat} (h : HT 0) (due : List (List Nat)) (stand : List Nat) :
    runB 5 8 b__law_branches Φ [grD c E, nD count, htD 0 h, .tuple (due.map natsT), natsT stand] = .ok (.bool (ansN c E count 0 h due stand)) := by
  refine (run_of (by rfl)).trans ?_
  unfold b__law_branches
  simp [start1, htD, isiop]
  rw [lc_all ([] : List Nat) nD nD]
  · have hcmp : cmpR .NotEq (.tuple []) (.tuple (due.map natsT)) = .ok (.bool (!decide ([] = due))) := cmp_neT (enc_n 0).tup (by omega) [] due
    have htl : ∀ l : List D, bltop .tuple [.list l] = some (.tuple l) := fun _ => rfl
    simp only [Res.ok_bind, htl, Res.ofO_some, List.map_nil]
    rw [hcmp]
    cases due with
    | nil => simp [ansN, forL]
    | cons m M => simp [ansN]
  · simp
  · simp
  · intro x hx
    cases hx
def SHunt (Φ : Calls) (n : Nat) : Prop := ∀ c E count (h : HT n), c ≤ 8 → EOk c E → HOk c 1000 n h → Φ "hunt_holds" [grD c E, nD count, htD n h] = .ok (.bool (ansN c E count n h (partsT c E (frB c [])) []))
def SHuntR (Φ : Calls) (n : Nat) : Prop := ∀ c E count (h : HT n), c ≤ 8 → EOk c E → HOk c 1000 n h → Φ "_law_hunt_right" [grD c E, nD count, htD n h] = .ok (.bool (ansN c E count n h (partsT c E (frB c [])) []))
theorem fr_all {c : Nat} : bitP (2 ^ c - 1) = frB c [] := by
  funext v
  apply propext
  show (2 ^ c - 1).testBit v = true ↔ _
  rw [test_all, decide_eq_true_eq]
  simp [frB]
theorem hunt_holds_run {Φ : Calls} {c : Nat} {E : List (Nat × Nat)} {count n : Nat} {h : HT n} (h1 : SRows Φ c E) (h2 : SAll Φ c E) (h3 : SPartM Φ c E) (h4 : SAns Φ c E count n) (hc : c ≤ 1000) (ho : HOk c 1000 n h) :
    runB 3 4 b_hunt_holds Φ [grD c E, nD count, htD n h] = .ok (.bool (ansN c E count n h (partsT c E (frB c [])) [])) := by
  refine (run_of (by rfl)).trans ?_
  unfold b_hunt_holds
  have f1 : Φ "neighbour_masks" [grD c E] = .ok (natsL (rowsN c E)) := h1
  have f2 : Φ "all_nodes" [grD c E] = .ok (nD (2 ^ c - 1)) := h2
  have hpos := Nat.two_pow_pos c
  have f3 := h3 (2 ^ c - 1) (by omega)
  rw [fr_all] at f3
  have hl := reps_lt_len E (frB c []) c
  have f4 := h4 h (partsM c E (frB c [])) [] ho ⟨by unfold partsM; rw [List.length_map]; omega, fun m hm => by
    unfold partsM at hm
    obtain ⟨r, hr, rfl⟩ := List.mem_map.mp hm
    exact ⟨compM_lt, by simp⟩⟩ ⟨List.nodup_nil, by simp⟩
  have f4 : Φ "answers" [natsL (rowsN c E), nD count, htD n h, natsL (partsM c E (frB c [])), nD 0] = .ok (.bool (ansN c E count n h (partsT c E (frB c [])) [])) := f4
  simp [start1, f1, f2, f3, f4]
theorem hunt_right_run {Φ : Calls} {c : Nat} {E : List (Nat × Nat)} {count n : Nat} {h : HT n} (h1 : SLParts Φ) (h4 : SBr Φ c E count n) (hc : c ≤ 8) (hE : EOk c E) (ho : HOk c 1000 n h) :
    runB 3 3 b__law_hunt_right Φ [grD c E, nD count, htD n h] = .ok (.bool (ansN c E count n h (partsT c E (frB c [])) [])) := by
  refine (run_of (by rfl)).trans ?_
  unfold b__law_hunt_right
  have f1 := h1 c E [] hc hE (by simp)
  have f1 : Φ "_law_parts" [grD c E, .tuple []] = .ok (.tuple ((partsT c E (frB c [])).map natsT)) := f1
  have f4 := h4 h (partsT c E (frB c [])) [] ho (by simp)
  have f4 : Φ "_law_branches" [grD c E, nD count, htD n h, .tuple ((partsT c E (frB c [])).map natsT), .tuple []] = .ok (.bool (ansN c E count n h (partsT c E (frB c [])) [])) := f4
  simp [start1, f1, f4]
/-! spoilt hunts -/
def liftH : (n : Nat) → HT n → HT (n + 1)
  | 0, _ => ([] : List (List Nat × List Nat × HT 0))
  | n + 1, l => List.map (fun b : List Nat × List Nat × HT n => ((b.1, b.2.1, liftH n b.2.2) : List Nat × List Nat × HT (n + 1))) l
theorem liftH_D : ∀ (n : Nat) (h : HT n), htD (n + 1) (liftH n h) = htD n h
  | 0, _ => rfl
  | n + 1, l => by
    have key : ∀ l : List (List Nat × List Nat × HT n), PyData.tuple (List.map (fun b : List Nat × List Nat × HT (n + 1) => PyData.tuple [natsT b.1, .tuple [natsT b.2.1, htD (n + 1) b.2.2]]) (List.map (fun b => (b.1, b.2.1, liftH n b.2.2)) l)) = PyData.tuple (List.map (fun b => PyData.tuple [natsT b.1, .tuple [natsT b.2.1, htD n b.2.2]]) l) := fun l => by
      rw [List.map_map]
      congr 1
      refine List.map_congr_left fun b hb => ?_
      show PyData.tuple [natsT b.1, .tuple [natsT b.2.1, htD (n + 1) (liftH n b.2.2)]] = _
      rw [liftH_D n]
    exact key l
theorem liftH_ok {c B : Nat} : ∀ (n : Nat) (h : HT n), HOk c B n h → HOk c B (n + 1) (liftH n h)
  | 0, _, _ => ⟨Nat.zero_le _, fun b hb => by cases hb⟩
  | n + 1, l, h => by
    have key : ∀ l : List (List Nat × List Nat × HT n), l.length ≤ B → (List.map (fun b => ((b.1, b.2.1, liftH n b.2.2) : List Nat × List Nat × HT (n + 1))) l).length ≤ B := fun l hl => by rw [List.length_map]; exact hl
    refine ⟨key l h.1, fun b hb => ?_⟩
    obtain ⟨a, ha, rfl⟩ := List.mem_map.mp (show b ∈ List.map _ l from hb)
    obtain ⟨h1, h2, h3⟩ := h.2 a ha
    exact ⟨h1, h2, liftH_ok n _ h3⟩
theorem HOk.mono {c B B' : Nat} (hB : B ≤ B') : ∀ (n : Nat) (h : HT n), HOk c B n h → HOk c B' n h
  | 0, _, _ => trivial
  | n + 1, l, h => ⟨Nat.le_trans h.1 hB, fun b hb => ⟨(h.2 b hb).1, (h.2 b hb).2.1, HOk.mono hB n _ (h.2 b hb).2.2⟩⟩
def liftB {n : Nat} (b : List Nat × List Nat × HT n) : List Nat × List Nat × HT (n + 1) := (b.1, b.2.1, liftH n b.2.2)
theorem liftB_D {n : Nat} (b : List Nat × List Nat × HT n) : brD (liftB b) = brD b := by
  show PyData.tuple [natsT b.1, .tuple [natsT b.2.1, htD (n + 1) (liftH n b.2.2)]] = _
  rw [liftH_D]; rfl
def BrOk (c B : Nat) {n : Nat} (b : List Nat × List Nat × HT n) : Prop := SetOk c b.1 ∧ SetOk c b.2.1 ∧ HOk c B n b.2.2
theorem liftB_ok {c B : Nat} {n : Nat} {b : List Nat × List Nat × HT n} (h : BrOk c B b) : BrOk c B (liftB b) := ⟨h.1, h.2.1, liftH_ok n _ h.2.2⟩
theorem BrOk.mono {c B B' : Nat} (hB : B ≤ B') {n : Nat} {b : List Nat × List Nat × HT n} (h : BrOk c B b) : BrOk c B' b := ⟨h.1, h.2.1, HOk.mono hB n _ h.2.2⟩
theorem map_lift {n : Nat} (l : List (List Nat × List Nat × HT n)) : (l.map liftB).map brD = l.map brD := by
  rw [List.map_map]
  exact List.map_congr_left fun b hb => liftB_D b
def SSp (Φ : Calls) (n : Nat) : Prop := ∀ (c : Nat) (E : List (Nat × Nat)) (h : HT n) (v B : Nat), 1 ≤ c → c ≤ 8 → 1 ≤ B → B ≤ 900 → HOk c B n h → ∃ h' : HT (n + 1), Φ "_law_spoilt" [grD c E, htD n h, nD v] = .ok (htD (n + 1) h') ∧ HOk c (B + 1) (n + 1) h'
end Pv

end
section
namespace Pv
open PySem

theorem okN_mono {a b : Nat} {d : D} (h : okN a d) (q : a ≤ b) : okN b d := ⟨h.1, Nat.le_trans h.2 q⟩
theorem okN_ht : ∀ (n : Nat) (h : HT n), okN (3 * n + 1) (htD n h)
  | 0, _ => okN_tup (n := 0) fun d hd => by cases hd
  | n + 1, l => okN_tup (n := 3 * n + 3) fun d hd => by
    have key : ∀ l : List (List Nat × List Nat × HT n), d ∈ l.map brD → okN (3 * n + 3) d := fun l hd => by
      obtain ⟨b, _, rfl⟩ := List.mem_map.mp hd
      refine okN_tup (n := 3 * n + 2) fun d hd => ?_
      rcases List.mem_cons.mp hd with rfl | hd
      · exact okN_mono (okN_natsT 0 b.1) (by omega)
      · rw [List.mem_singleton.mp hd]
        refine okN_tup (n := 3 * n + 1) fun d hd => ?_
        rcases List.mem_cons.mp hd with rfl | hd
        · exact okN_mono (okN_natsT 0 b.2.1) (by omega)
        · rw [List.mem_singleton.mp hd]; exact okN_ht n b.2.2
    exact key l hd
theorem cmp_emp {xs : List D} (h : okN 60 (.tuple xs)) : cmpR .Eq (.tuple xs) (.tuple []) = .ok (.bool xs.isEmpty) := by
  refine cmpR_of ?_
  have h1 := okN_ok h (Nat.le_refl _)
  have h2 : okD (.tuple []) = true := okN_ok (n := 1) (okN_tup (n := 0) fun d hd => by cases hd) (by omega)
  show (if okD (.tuple xs) && okD (.tuple []) then some (PyData.eqv (.tuple xs) (.tuple [])) else none) = _
  rw [h1, h2, PyData.eqv]
  cases xs with
  | nil => rfl
  | cons x xs => rfl
theorem law_spoilt0 (Φ : Calls) (c : Nat) (E : List (Nat × Nat)) (h : HT 0) (v : Nat) : runB 3 7 b__law_spoilt_v2 Φ [grD c E, htD 0 h, nD v] = .ok (.tuple [.tuple [.tuple [nD 0], .tuple [.tuple [nD 0], .tuple []]]]) := by
  refine (run_of (by rfl)).trans ?_
  unfold b__law_spoilt_v2
  have e := cmp_emp (xs := []) (okN_tup (n := 59) fun d hd => by cases hd)
  simp at e
  simp [start1, htD, e]
def nilH (n : Nat) : HT (n + 1) := ([] : List (List Nat × List Nat × HT n))
theorem nilH_D (n : Nat) : htD (n + 1) (nilH n) = .tuple [] := rfl
theorem nilH_ok (c B n : Nat) : HOk c B (n + 1) (nilH n) := ⟨Nat.zero_le _, fun b hb => by cases hb⟩
def zeroB (n : Nat) : List Nat × List Nat × HT (n + 1) := ([0], [0], nilH n)
theorem zeroB_ok {c B n : Nat} (hc : 1 ≤ c) : BrOk c B (zeroB n) := ⟨⟨by simp [zeroB], by simp [zeroB]; omega⟩, ⟨by simp [zeroB], by simp [zeroB]; omega⟩, nilH_ok _ _ _⟩
theorem spoilt_run {Φ : Calls} {n : Nat} (h1 : SSet Φ) (h2 : SSp Φ n) (hn : n ≤ 15) {c : Nat} {E : List (Nat × Nat)} (l : List (List Nat × List Nat × HT n)) {v B : Nat} (hc1 : 1 ≤ c) (hc : c ≤ 8) (hB1 : 1 ≤ B) (hB : B ≤ 900) (hl : HOk c B (n + 1) l) :
    ∃ h' : List (List Nat × List Nat × HT (n + 1)), runB 3 7 b__law_spoilt_v2 Φ [grD c E, htD (n + 1) l, nD v] = .ok (.tuple (h'.map brD)) ∧ h'.length ≤ B + 1 ∧ ∀ b ∈ h', BrOk c (B + 1) b := by
  suffices hh : ∃ h' : List (List Nat × List Nat × HT (n + 1)), endR (exs b__law_spoilt_v2 Φ (start1 7 [grD c E, .tuple (l.map brD), nD v])) = .ok (.tuple (h'.map brD)) ∧ h'.length ≤ B + 1 ∧ ∀ b ∈ h', BrOk c (B + 1) b by
    obtain ⟨h', e, q⟩ := hh
    exact ⟨h', (run_of (by rfl)).trans e, q⟩
  unfold b__law_spoilt_v2
  have hemp := cmp_emp (xs := l.map brD) (okN_mono (okN_ht (n + 1) l) (by omega))
  have hlen : l.length ≤ B := hl.1
  have hok : ∀ b ∈ l, BrOk c B b := hl.2
  have hokl : ∀ b ∈ l, BrOk c (B + 1) (liftB b) := fun b hb => (liftB_ok (hok b hb)).mono (by omega)
  by_cases hne : l = []
  · subst hne
    simp at hemp
    simp [start1, hemp]
    refine ⟨[zeroB n], rfl, by simp, fun x y z hb => ?_⟩
    have e := List.mem_singleton.mp hb
    rw [e]
    exact zeroB_ok hc1
  · have hpos : 0 < l.length := List.length_pos_iff.mpr hne
    have hemp : cmpR .Eq (.tuple (l.map brD)) (.tuple []) = .ok (.bool false) := by
      rw [hemp]
      cases l with
      | nil => exact absurd rfl hne
      | cons b l => rfl
    have hi : v % l.length < l.length := Nat.mod_lt _ hpos
    obtain ⟨i, hie⟩ : ∃ i, i = v % l.length := ⟨_, rfl⟩
    rw [← hie] at hi
    obtain ⟨⟨part, room, sub⟩, hg⟩ : ∃ r, l[i]? = some r := ⟨_, List.getElem?_eq_getElem hi⟩
    have hgi : (l.map brD)[i]? = some (.tuple [natsT part, .tuple [natsT room, htD n sub]]) := by rw [List.getElem?_map, hg]; rfl
    obtain ⟨o1, o2, o3⟩ := hok _ (List.mem_of_getElem? hg)
    have o1 : SetOk c part := o1
    have o2 : SetOk c room := o2
    have o3 : HOk c B n sub := o3
    have hix : ixop (grD c E) (nD 0) = some (nD c) := rfl
    have hi0 : ∀ r x : D, ixop (.tuple [r, x]) (nD 0) = some r := fun _ _ => rfl
    have hi1 : ∀ r x : D, ixop (.tuple [r, x]) (nD 1) = some x := fun _ _ => rfl
    have c1 : slop (.tuple (l.map brD)) none (some (i : Int)) = some (.tuple ((l.map brD).take i)) := cut_takeT
    have c2 : slop (.tuple (l.map brD)) (some ((i : Int) + 1)) none = some (.tuple ((l.map brD).drop (i + 1))) := by
      have := cut_dropT (xs := l.map brD) (n := i + 1)
      rw [Int.natCast_add] at this
      exact this
    have c3 : slop (.tuple (l.map brD)) none (some 1) = some (.tuple ((l.map brD).take 1)) := cut_takeT (n := 1)
    have add2 : ∀ xs ys : List D, xs.length + ys.length ≤ 10000 → binop .Add (.tuple xs) (.tuple ys) = some (.tuple (xs ++ ys)) := fun xs ys q => by
      show (if sm _ then some _ else none) = _
      unfold sm
      rw [if_pos (decide_eq_true (by omega))]
    have mid : ∀ x : D, binop .Add (.tuple ((l.map brD).take i)) (.tuple [x]) = some (.tuple ((l.map brD).take i ++ [x])) := fun x => add2 _ _ (by simp; omega)
    have fin : ∀ x : D, binop .Add (.tuple ((l.map brD).take i ++ [x])) (.tuple ((l.map brD).drop (i + 1))) = some (.tuple ((l.map brD).take i ++ x :: (l.map brD).drop (i + 1))) := fun x => by
      rw [add2 _ _ (by simp; omega)]
      simp
    have swap : ∀ b' : List Nat × List Nat × HT (n + 1), BrOk c (B + 1) b' → ∃ h' : List (List Nat × List Nat × HT (n + 1)), PyData.tuple ((l.map brD).take i ++ brD b' :: (l.map brD).drop (i + 1)) = .tuple (h'.map brD) ∧ h'.length ≤ B + 1 ∧ ∀ b ∈ h', BrOk c (B + 1) b := fun b' hb' => by
      refine ⟨(l.map liftB).take i ++ b' :: (l.map liftB).drop (i + 1), ?_, by simp; omega, fun b hb => ?_⟩
      · rw [← map_lift]; simp
      · rcases List.mem_append.mp hb with q | q
        · obtain ⟨a, ha, rfl⟩ := List.mem_map.mp (List.mem_of_mem_take q)
          exact hokl a ha
        · rcases List.mem_cons.mp q with rfl | q
          · exact hb'
          · obtain ⟨a, ha, rfl⟩ := List.mem_map.mp (List.mem_of_mem_drop q)
            exact hokl a ha
    have some_of : ∀ (xs : List (List Nat × List Nat × HT n)) (d : D), d = .tuple (xs.map brD) → xs.length ≤ B + 1 → (∀ b ∈ xs, b ∈ l) → ∃ h' : List (List Nat × List Nat × HT (n + 1)), d = .tuple (h'.map brD) ∧ h'.length ≤ B + 1 ∧ ∀ b ∈ h', BrOk c (B + 1) b := fun xs d hd hx hxl => by
      refine ⟨xs.map liftB, by rw [map_lift]; exact hd, by rw [List.length_map]; exact hx, fun b hb => ?_⟩
      obtain ⟨a, ha, rfl⟩ := List.mem_map.mp hb
      exact hokl a (hxl a ha)
    obtain ⟨k, hk⟩ : ∃ k, k = v / 8 % 9 := ⟨_, rfl⟩
    obtain ⟨w, hw⟩ : ∃ w, w = v / 8 / 9 := ⟨_, rfl⟩
    obtain ⟨set, f1, s1, s2, s3⟩ := h1 w c 8 (by omega)
    have hset : SetOk c set := ⟨s1.nodup, s2⟩
    obtain ⟨sub', f2, s4⟩ := h2 c E sub w B hc1 hc hB1 hB o3
    have hk9 : k < 9 := by rw [hk]; omega
    have base : ∀ b : Bool, True := fun _ => trivial
    by_cases k0 : k = 0
    · have := some_of (l.take i ++ l.drop (i + 1)) _ rfl (by simp; omega) fun b hb => by
        rcases List.mem_append.mp hb with q | q
        · exact List.mem_of_mem_take q
        · exact List.mem_of_mem_drop q
      have ha : binop .Add (.tuple ((l.map brD).take i)) (.tuple ((l.map brD).drop (i + 1))) = some (.tuple ((l.map brD).take i ++ (l.map brD).drop (i + 1))) := add2 _ _ (by simp; omega)
      rw [k0] at hk
      simp [start1, hemp, bin_div, bin_mod, hpos, ← hie, hgi, hix, -List.getElem?_map, ← hk, c1, c2, ha]
      simpa using this
    · by_cases k1 : k = 1
      · have := some_of (l ++ l.take 1) _ rfl (by simp; omega) fun b hb => by
          rcases List.mem_append.mp hb with q | q
          · exact q
          · exact List.mem_of_mem_take q
        have ha : binop .Add (.tuple (l.map brD)) (.tuple ((l.map brD).take 1)) = some (.tuple (l.map brD ++ (l.map brD).take 1)) := add2 _ _ (by simp; omega)
        rw [k1] at hk
        simp [start1, hemp, bin_div, bin_mod, hpos, ← hie, hgi, hix, -List.getElem?_map, ← hk, c3, ha]
        simpa using this
      · by_cases k2 : k = 2
        · have := some_of l.reverse _ rfl (by simp; omega) fun b hb => List.mem_reverse.mp hb
          rw [k2] at hk
          simp [start1, hemp, bin_div, bin_mod, hpos, ← hie, hgi, hix, -List.getElem?_map, ← hk]
          simpa using this
        · by_cases k3 : k = 3
          · have := swap (set, room, liftH n sub) ⟨hset, o2, HOk.mono (by omega) _ _ (liftH_ok n _ o3)⟩
            have e : brD (set, room, liftH n sub) = .tuple [natsT set, .tuple [natsT room, htD n sub]] := by unfold brD; rw [liftH_D]
            rw [e] at this
            rw [k3] at hk
            simp [start1, hemp, bin_div, bin_mod, hpos, ← hie, hgi, hix, -List.getElem?_map, ← hk, ← hw, c1, c2, f1]
            simp [mid, fin, -List.map_append, -List.map_cons, -List.map_drop, -List.map_take]
            obtain ⟨h', q1, q2, q3⟩ := this
            exact ⟨h', PyData.tuple.inj q1, q2, fun a a1 b hb => q3 _ hb⟩
          · by_cases k4 : k = 4
            · have := swap (part, set, liftH n sub) ⟨o1, hset, HOk.mono (by omega) _ _ (liftH_ok n _ o3)⟩
              have e : brD (part, set, liftH n sub) = .tuple [natsT part, .tuple [natsT set, htD n sub]] := by unfold brD; rw [liftH_D]
              rw [e] at this
              rw [k4] at hk
              simp [start1, hemp, bin_div, bin_mod, hpos, ← hie, hgi, hix, -List.getElem?_map, ← hk, ← hw, c1, c2, f1, hi0, hi1]
              simp [mid, fin, -List.map_append, -List.map_cons, -List.map_drop, -List.map_take]
              obtain ⟨h', q1, q2, q3⟩ := this
              exact ⟨h', PyData.tuple.inj q1, q2, fun a a1 b hb => q3 _ hb⟩
            · by_cases k5 : k = 5
              · have := swap (part, room, nilH n) ⟨o1, o2, nilH_ok _ _ _⟩
                rw [k5] at hk
                simp [start1, hemp, bin_div, bin_mod, hpos, ← hie, hgi, hix, -List.getElem?_map, ← hk, ← hw, c1, c2, hi0, hi1]
                simp [mid, fin, -List.map_append, -List.map_cons, -List.map_drop, -List.map_take]
                obtain ⟨h', q1, q2, q3⟩ := this
                exact ⟨h', PyData.tuple.inj q1, q2, fun a a1 b hb => q3 _ hb⟩
              · have := swap (part, room, sub') ⟨o1, o2, s4⟩
                simp [start1, hemp, bin_div, bin_mod, hpos, ← hie, hgi, hix, -List.getElem?_map, ← hk, ← hw, c1, c2, hi0, hi1, k0, k1, k2, k3, k4, k5, f2]
                simp [mid, fin, -List.map_append, -List.map_cons, -List.map_drop, -List.map_take]
                obtain ⟨h', q1, q2, q3⟩ := this
                exact ⟨h', PyData.tuple.inj q1, q2, fun a a1 b hb => q3 _ hb⟩
end Pv

end
section
namespace Pv
open PySem

/-! ### hunt_of -/
theorem rng3_n {n : Nat} (h : n ≤ 1000) : rng [nD n, nD 0, negD 1] = .ok ((List.range n).map fun i => nD (n - i)) := by
  show (if i62 (n : Int) && i62 ((0 : Nat) : Int) && (-((1 : Nat) : Int)) == -1 then Res.ok (rngD (n : Int) ((n : Int) - ((0 : Nat) : Int)).toNat) else .st) = _
  rw [i62_of (by omega) (by omega), i62_of (by omega) (by omega)]
  show Res.ok (rngD (n : Int) ((n : Int) - ((0 : Nat) : Int)).toNat) = _
  unfold rngD
  rw [show ((n : Int) - ((0 : Nat) : Int)).toNat = n by omega]
  congr 1
  refine List.map_congr_left fun i hi => ?_
  have := List.mem_range.mp hi
  show PyData.int _ = PyData.int _
  congr 1
  omega
def bmE (r : D) (m : List Nat) (y2 y3 y4 y5 : Option (Bool × D)) : Env := [some (false, r), some (true, natsL m), y2, y3, y4, y5]
def BmI (c : Nat) (rs : List (List Nat × Int)) (rest : List Nat) (ρ : Env) : Prop := ∃ (m : List Nat) (y2 y3 y4 y5 : Option (Bool × D)), ρ = bmE (.tuple (rs.map roomD)) m y2 y3 y4 y5 ∧ m.length = rs.length ∧ (∀ x ∈ m, x < 2 ^ c) ∧ ∀ i ∈ rest, i < rs.length - 1
theorem below_run {Φ : Calls} {c : Nat} {E : List (Nat × Nat)} {rs : List (List Nat × Int)} (h1 : SMask Φ) (hc : c ≤ 1000) (h : TDL c E rs) (hl : rs.length ≤ 1000) :
    ∃ m : List Nat, runB 1 6 b_below_masks Φ [.tuple (rs.map roomD)] = .ok (natsL m) ∧ m.length = rs.length ∧ ∀ x ∈ m, x < 2 ^ c := by
  suffices hh : ∃ m : List Nat, endR (exs b_below_masks Φ (start1 6 [.tuple (rs.map roomD)])) = .ok (natsL m) ∧ m.length = rs.length ∧ ∀ x ∈ m, x < 2 ^ c by
    obtain ⟨m, e, q⟩ := hh
    exact ⟨m, (run_of (by rfl)).trans e, q⟩
  unfold b_below_masks
  have hpos := h.pos
  simp [start1]
  rw [lc_all rs roomD (fun r => nD (maskN r.1))]
  · rw [stF_ok _ _ _ (by simp)]
    simp [bin_sub (show 1 ≤ rs.length by omega), rng3_n (show rs.length - 1 ≤ 1000 by omega)]
    refine for_gen (fun r => ∃ m : List Nat, endR r = .ok (natsL m) ∧ m.length = rs.length ∧ ∀ x ∈ m, x < 2 ^ c) (BmI c rs) ?_ ?_ (List.range (rs.length - 1)) _ ⟨rs.map fun r => maskN r.1, none, none, none, none, by simp [bmE], by simp, fun x hx => ?_, fun i hi => List.mem_range.mp hi⟩
    · rintro i rest ρ ⟨m, y2, y3, y4, y5, q, hm, hmx, hr⟩
      subst q
      refine ⟨_, rfl, ?_⟩
      have hi := hr i (by simp)
      obtain ⟨k, hk⟩ : ∃ k, k = rs.length - 1 - i := ⟨_, rfl⟩
      have hkl : k < rs.length := by omega
      obtain ⟨u1, u2⟩ := h.upN hkl (by omega)
      obtain ⟨u, hu⟩ : ∃ u, u = (up rs k).toNat := ⟨_, rfl⟩
      rw [← hu] at u1 u2
      have hixk := ix_room (rs := rs) hkl
      rw [u2] at hixk
      have hi1 : ∀ r x : D, ixop (.tuple [r, x]) (nD 1) = some x := fun _ _ => rfl
      have hnu : PyData.int (u : Int) = nD u := rfl
      have g1 : ixop (natsL m) (nD u) = some (nD (m[u]?.getD 0)) := (atI_nn _ u).trans (get_nD (by omega))
      have g2 : ixop (natsL m) (nD k) = some (nD (m[k]?.getD 0)) := (atI_nn _ k).trans (get_nD (by omega))
      have hset : ∀ w, setS 1 (bmE (.tuple (rs.map roomD)) m (some (false, nD k)) (some (false, nD u)) y4 y5) (.ok (nD w)) (.ok (nD u)) = .nx (bmE (.tuple (rs.map roomD)) (m.set u w) (some (false, nD k)) (some (false, nD u)) y4 y5) := fun w => by
        rw [setS_ok (ds := m.map nD) (by rfl) (by rw [List.length_map]; omega)]
        simp [bmE, List.map_set]
      simp only [bmE] at hset
      simp [bmE, ← hk, hixk, hi1, hnu, g1, g2, hset]
      refine ⟨m.set u (m[u]?.getD 0 ||| m[k]?.getD 0), some (false, nD k), some (false, nD u), y4, y5, by simp [bmE, List.map_set], by simp [hm], fun x hx => ?_, fun j hj => hr j (by simp [hj])⟩
      rcases List.mem_or_eq_of_mem_set hx with q | q
      · exact hmx x q
      · rw [q]
        have b1 : m[u]?.getD 0 < 2 ^ c := by rw [List.getElem?_eq_getElem (by omega)]; exact hmx _ (List.getElem_mem _)
        have b2 : m[k]?.getD 0 < 2 ^ c := by rw [List.getElem?_eq_getElem (by omega)]; exact hmx _ (List.getElem_mem _)
        exact Nat.or_lt_two_pow b1 b2
    · rintro ρ ⟨m, y2, y3, y4, y5, q, hm, hmx, hr⟩
      subst q
      exact ⟨m, by simp [bmE], hm, hmx⟩
    · obtain ⟨r, hr, rfl⟩ := List.mem_map.mp hx
      obtain ⟨k, hk, e⟩ := List.mem_iff_getElem.mp hr
      have := (h.as k hk).2
      rw [(rm_at (rs := rs) (k := k) (r := r) (by rw [List.getElem?_eq_getElem hk, e])).1] at this
      exact maskN_lt this
  · simp
  · omega
  · rintro ⟨room, a⟩ hx
    obtain ⟨k, hk, e⟩ := List.mem_iff_getElem.mp hx
    have hz := (h.as k hk).2
    rw [(rm_at (rs := rs) (k := k) (r := (room, a)) (by rw [List.getElem?_eq_getElem hk, e])).1] at hz
    have f1 := h1 room fun x hx => by have := hz x hx; omega
    exact ⟨_, rfl, by simp [wipeE, roomD, f1]⟩
def SFollow (Φ : Calls) (c : Nat) (E : List (Nat × Nat)) (rs : List (List Nat × Int)) (bel : List Nat) (n : Nat) : Prop := ∀ k part, k < rs.length → rs.length - k ≤ n → part < 2 ^ c → ∃ (room : List Nat) (sub : HT n), Φ "follow" [natsL (rowsN c E), .tuple (rs.map roomD), natsL bel, nD k, nD part] = .ok (.tuple [natsT room, htD n sub]) ∧ SetOk c room ∧ HOk c 20 n sub
theorem np_len {c : Nat} {E : List (Nat × Nat)} {s p a : Nat} : (npM c E s p a).length ≤ c ∧ ∀ m ∈ npM c E s p a, m < 2 ^ c := by
  unfold npM
  refine ⟨Nat.le_trans (List.length_filter_le _ _) ?_, fun m hm => ?_⟩
  · unfold partsM
    rw [List.length_map]
    exact reps_lt_len _ _ _
  · have := (List.mem_filter.mp hm).1
    unfold partsM at this
    obtain ⟨r, _, rfl⟩ := List.mem_map.mp this
    exact compM_lt
/-- the branches that follow makes -/
theorem branches_of {Φ : Calls} {c : Nat} {E : List (Nat × Nat)} {rs : List (List Nat × Int)} {bel : List Nat} {n k : Nat} (h2 : SNodes Φ c) (h4 : SFollow Φ c E rs bel n) (hk : k < rs.length) (hkn : rs.length - k ≤ n) (M : List Nat) (hM : ∀ m ∈ M, m < 2 ^ c) :
    ∃ L : List (List Nat × List Nat × HT n), L.length = M.length ∧ (∀ b ∈ L, BrOk c 20 b) ∧ ∃ f : Nat → List Nat × List Nat × HT n, L = M.map f ∧ ∀ m ∈ M, Φ "nodes_of" [nD m] = .ok (natsT (bitsN c m)) ∧ ∃ d, Φ "follow" [natsL (rowsN c E), .tuple (rs.map roomD), natsL bel, nD k, nD m] = .ok d ∧ brD (f m) = .tuple [natsT (bitsN c m), d] := by
  have hx : ∀ m : Nat, ∃ b : List Nat × List Nat × HT n, m < 2 ^ c → BrOk c 20 b ∧ ∃ d, Φ "follow" [natsL (rowsN c E), .tuple (rs.map roomD), natsL bel, nD k, nD m] = .ok d ∧ brD b = .tuple [natsT (bitsN c m), d] := fun m => by
    by_cases hm : m < 2 ^ c
    · obtain ⟨room, sub, e, o1, o2⟩ := h4 k m hk hkn hm
      exact ⟨(bitsN c m, room, sub), fun _ => ⟨⟨SetOk.bits c m, o1, o2⟩, _, e, rfl⟩⟩
    · obtain ⟨room, sub, e, o1, o2⟩ := h4 k 0 hk hkn (Nat.two_pow_pos c)
      exact ⟨(bitsN c m, room, sub), fun z => absurd z hm⟩
  obtain ⟨f, hf⟩ := Classical.axiomOfChoice hx
  refine ⟨M.map f, by simp, fun b hb => ?_, f, rfl, fun m hm => ⟨h2 m (hM m hm), (hf m (hM m hm)).2⟩⟩
  obtain ⟨m, hm, rfl⟩ := List.mem_map.mp hb
  exact (hf m (hM m hm)).1
end Pv

end
section
namespace Pv
open PySem

def FoP (c n : Nat) (r : SR) : Prop := ∃ (room : List Nat) (sub : HT n), endR r = .ok (.tuple [natsT room, htD n sub]) ∧ SetOk c room ∧ HOk c 20 n sub
def foE (r s b : D) (k p : Nat) (y5 y6 y7 : Option (Bool × D)) : Env := [some (false, r), some (false, s), some (false, b), some (false, nD k), some (false, nD p), y5, y6, y7, none, none, none]
def FoI (r b : D) (rs : List (List Nat × Int)) (k p : Nat) (rest : List ((List Nat × Int) × Nat)) (ρ : Env) : Prop := ∃ (j : Nat) (y5 y6 y7 : Option (Bool × D)), rs.zipIdx.drop j = rest ∧ ρ = foE r (.tuple (rs.map roomD)) b k p y5 y6 y7
theorem follow_run {Φ : Calls} {c : Nat} {E : List (Nat × Nat)} {rs : List (List Nat × Int)} {bel : List Nat} {n : Nat} (h1 : SMask Φ) (h2 : SNodes Φ c) (h3 : SNextP Φ c E) (h4 : SFollow Φ c E rs bel n) (hc : c ≤ 16) (h : TDL c E rs) (hb : bel.length = rs.length) {k part : Nat} (hk : k < rs.length) (hkn : rs.length - k ≤ n + 1) (hp : part < 2 ^ c) :
    ∃ (room : List Nat) (sub : HT (n + 1)), runB 5 11 b_follow Φ [natsL (rowsN c E), .tuple (rs.map roomD), natsL bel, nD k, nD part] = .ok (.tuple [natsT room, htD (n + 1) sub]) ∧ SetOk c room ∧ HOk c 20 (n + 1) sub := by
  suffices hh : FoP c (n + 1) (exs b_follow Φ (start1 11 [natsL (rowsN c E), .tuple (rs.map roomD), natsL bel, nD k, nD part])) by
    obtain ⟨room, sub, e, q⟩ := hh
    exact ⟨room, sub, (run_of (by rfl)).trans e, q⟩
  unfold b_follow
  simp [start1]
  rw [enum_map]
  refine for_gen (FoP c (n + 1)) (FoI (natsL (rowsN c E)) (natsL bel) rs k part) ?_ ?_ _ _ ⟨0, none, none, none, rfl, rfl⟩
  · rintro ⟨⟨room, a⟩, i⟩ rest ρ ⟨j, y5, y6, y7, hd, q⟩
    subst q
    obtain ⟨hi, hg, rfl, hrest⟩ := zdrop hd
    obtain ⟨hr, ha⟩ := rm_at hg
    have hr : rm rs i = room := hr
    have ha : up rs i = a := ha
    refine ⟨_, rfl, ?_⟩
    have e1 : cmpR .Eq (.int a) (nD k) = .ok (.bool (decide (a = (k : Int)))) := by
      rw [show nD k = .int (k : Int) from rfl, cmpR_eq]
      by_cases z : a = (k : Int) <;> simp [z]
    have g1 : ixop (natsL bel) (nD i) = some (nD (bel[i]?.getD 0)) := (atI_nn _ i).trans (get_nD (by omega))
    by_cases z1 : a = (k : Int)
    · rw [decide_eq_true z1] at e1
      by_cases z2 : dif part (bel[i]?.getD 0) = 0
      · have hi0 : i ≠ 0 := fun z => by
          have := (h.up i hi).1 z
          omega
        obtain ⟨u1, u2⟩ := h.upN hi hi0
        have hki : k < i := by omega
        have hz := h.as i hi
        rw [hr] at hz
        have f1 := h1 room fun x hx => by have := hz.2 x hx; omega
        have f2 := h1 (rm rs k) fun x hx => by have := (h.as k hk).2 x hx; omega
        have f3 := h3 (maskN (rm rs k)) part (maskN room) hp
        obtain ⟨hnl, hnx⟩ := np_len (c := c) (E := E) (s := maskN (rm rs k)) (p := part) (a := maskN room)
        obtain ⟨L, hL1, hL2, f, hL3, hL4⟩ := branches_of h2 h4 (k := i) hi (by omega) (npM c E (maskN (rm rs k)) part (maskN room)) hnx
        have hixk := ix_room (rs := rs) hk
        have hi0' : ∀ r x : D, ixop (.tuple [r, x]) (nD 0) = some r := fun _ _ => rfl
        simp [roomD, foE, e1, g1, and_not, z2, f1, hixk, hi0', f2, f3]
        rw [lc_all (npM c E (maskN (rm rs k)) part (maskN room)) nD (fun m => brD (f m))]
        · have htl : ∀ l : List D, bltop .tuple [.list l] = some (.tuple l) := fun _ => rfl
          simp only [Res.ok_bind, htl, Res.ofO_some]
          refine ⟨room, L, ?_, ⟨hz.1.nodup, hz.2⟩, by show L.length ≤ 20; omega, hL2⟩
          rw [htD_succ, hL3]
          simp
        · simp
        · omega
        · intro m hm
          obtain ⟨w1, d, w2, w3⟩ := hL4 m hm
          refine ⟨_, rfl, ?_⟩
          simp [wipeE, w1, w2, w3]
      · simp [roomD, foE, e1, g1, and_not, z2]
        exact ⟨i + 1, _, _, _, hrest.symm, rfl⟩
    · rw [decide_eq_false z1] at e1
      simp [roomD, foE, e1]
      exact ⟨i + 1, _, _, _, hrest.symm, rfl⟩
  · rintro ρ ⟨j, y5, y6, y7, hd, q⟩
    subst q
    exact ⟨[], nilH n, rfl, ⟨List.nodup_nil, by simp⟩, nilH_ok _ _ _⟩
/-! hunt_of -/
def SHuntOf (Φ : Calls) (n : Nat) : Prop := ∀ c E rs, c ≤ 8 → EOk c E → TDL c E rs → rs.length ≤ n → ∃ h : HT (n + 2), Φ "hunt_of" [grD c E, .tuple (rs.map roomD)] = .ok (htD (n + 2) h) ∧ HOk c 20 (n + 2) h
def HoP (c n : Nat) (r : SR) : Prop := ∃ h : HT (n + 2), endR r = .ok (htD (n + 2) h) ∧ HOk c 20 (n + 2) h
def hoE (g r w b o f : D) (y6 y7 y8 : Option (Bool × D)) : Env := [some (false, g), some (false, r), some (false, w), some (false, b), some (false, o), some (true, f), y6, y7, y8, none]
def HoI (c : Nat) (g r w b o : D) (n : Nat) (rest : List Nat) (ρ : Env) : Prop := ∃ (L : List (List Nat × List Nat × HT (n + 1))) (y6 y7 y8 : Option (Bool × D)), ρ = hoE g r w b o (.list (L.map brD)) y6 y7 y8 ∧ (∀ x ∈ L, BrOk c 20 x) ∧ (∀ m ∈ rest, m < 2 ^ c) ∧ L.length + rest.length ≤ c
def SBelow (Φ : Calls) (c : Nat) (E : List (Nat × Nat)) : Prop := ∀ rs, TDL c E rs → rs.length ≤ 1000 → ∃ m : List Nat, Φ "below_masks" [.tuple (rs.map roomD)] = .ok (natsL m) ∧ m.length = rs.length ∧ ∀ x ∈ m, x < 2 ^ c
theorem hunt_of_run {Φ : Calls} {c : Nat} {E : List (Nat × Nat)} {rs : List (List Nat × Int)} {n : Nat} (h1 : SRows Φ c E) (h2 : SBelow Φ c E) (h3 : SAll Φ c E) (h4 : SPartM Φ c E) (h5 : SNextP Φ c E) (h6 : SMask Φ) (h7 : SNodes Φ c) (h8 : ∀ bel : List Nat, bel.length = rs.length → SFollow Φ c E rs bel n) (hc : c ≤ 8) (h : TDL c E rs) (hn : rs.length ≤ n) (hl : rs.length ≤ 1000) :
    ∃ h : HT (n + 2), runB 2 10 b_hunt_of Φ [grD c E, .tuple (rs.map roomD)] = .ok (htD (n + 2) h) ∧ HOk c 20 (n + 2) h := by
  suffices hh : HoP c n (exs b_hunt_of Φ (start1 10 [grD c E, .tuple (rs.map roomD)])) by
    obtain ⟨t, e, q⟩ := hh
    exact ⟨t, (run_of (by rfl)).trans e, q⟩
  unfold b_hunt_of
  have f1 : Φ "neighbour_masks" [grD c E] = .ok (natsL (rowsN c E)) := h1
  obtain ⟨bel, f2, hbl, _⟩ := h2 rs h hl
  have f3 : Φ "all_nodes" [grD c E] = .ok (nD (2 ^ c - 1)) := h3
  have hpos := Nat.two_pow_pos c
  have f4 := h4 (2 ^ c - 1) (by omega)
  have hix0 := ix_room (rs := rs) (k := 0) h.pos
  have hi0 : ∀ r x : D, ixop (.tuple [r, x]) (nD 0) = some r := fun _ _ => rfl
  have hz := h.as 0 h.pos
  have f5 := h6 (rm rs 0) fun x hx => by have := hz.2 x hx; omega
  have hfol := h8 bel hbl
  simp [start1, f1, f2, hix0, hi0, f3, f4]
  have hpl : (partsM c E (bitP (2 ^ c - 1))).length ≤ c := by
    unfold partsM
    rw [List.length_map]
    exact reps_lt_len _ _ _
  refine for_gen (HoP c n) (HoI c (grD c E) (.tuple (rs.map roomD)) (natsL (rowsN c E)) (natsL bel) (natsT (rm rs 0)) n) ?_ ?_ _ _ ⟨[], none, none, none, rfl, by simp, fun m hm => ?_, by simpa using hpl⟩
  · rintro m rest ρ ⟨L, y6, y7, y8, q, hL, hr, hlen⟩
    subst q
    refine ⟨_, rfl, ?_⟩
    have hm := hr m (by simp)
    rw [List.length_cons] at hlen
    have g1 : Φ "next_parts" [natsL (rowsN c E), nD 0, nD m, nD (maskN (rm rs 0))] = .ok (natsL (npM c E 0 m (maskN (rm rs 0)))) := h5 0 m (maskN (rm rs 0)) hm
    obtain ⟨hnl, hnx⟩ := np_len (c := c) (E := E) (s := 0) (p := m) (a := maskN (rm rs 0))
    obtain ⟨B, hB1, hB2, f, hB3, hB4⟩ := branches_of h7 hfol (k := 0) h.pos (by omega) (npM c E 0 m (maskN (rm rs 0))) hnx
    have g2 := h7 m hm
    have happ : ∀ (b : List Nat × List Nat × HT (n + 1)) (y6 y7 y8 : Option (Bool × D)), apS 5 (hoE (grD c E) (.tuple (rs.map roomD)) (natsL (rowsN c E)) (natsL bel) (natsT (rm rs 0)) (.list (L.map brD)) y6 y7 y8) (.ok (brD b)) = .nx (hoE (grD c E) (.tuple (rs.map roomD)) (natsL (rowsN c E)) (natsL bel) (natsT (rm rs 0)) (.list ((L ++ [b]).map brD)) y6 y7 y8) := fun b y6 y7 y8 => by
      rw [apS_ok (ds := L.map brD) (by rfl) (by rw [List.length_map]; omega)]
      simp [hoE]
    simp only [hoE] at happ
    simp [hoE, f5, g1]
    rw [lc_all (npM c E 0 m (maskN (rm rs 0))) nD (fun m => brD (f m))]
    · have htl : ∀ l : List D, bltop .tuple [.list l] = some (.tuple l) := fun _ => rfl
      have hbr : PyData.tuple [natsT (bitsN c m), .tuple [natsT (rm rs 0), .tuple ((npM c E 0 m (maskN (rm rs 0))).map fun m => brD (f m))]] = brD (n := n + 1) (bitsN c m, rm rs 0, B) := by
        show _ = PyData.tuple [natsT (bitsN c m), .tuple [natsT (rm rs 0), .tuple (B.map brD)]]
        rw [hB3, List.map_map]; rfl
      simp only [Res.ok_bind, htl, Res.ofO_some]
      simp [g2]
      rw [hbr, happ]
      simp only [SR.seq_nx]
      refine ⟨L ++ [((bitsN c m, rm rs 0, B) : List Nat × List Nat × HT (n + 1))], _, _, _, rfl, fun x hx => ?_, fun x hx => hr x (by simp [hx]), by rw [List.length_append, List.length_singleton]; omega⟩
      rcases List.mem_append.mp hx with q | q
      · exact hL x q
      · rw [List.mem_singleton.mp q]
        exact ⟨SetOk.bits c m, ⟨hz.1.nodup, hz.2⟩, by show B.length ≤ 20; omega, hB2⟩
    · simp
    · omega
    · intro x hx
      obtain ⟨w1, d, w2, w3⟩ := hB4 x hx
      refine ⟨_, rfl, ?_⟩
      simp [wipeE, w1, w2, w3]
  · rintro ρ ⟨L, y6, y7, y8, q, hL, hr, hlen⟩
    subst q
    refine ⟨L, ?_, by show L.length ≤ 20; simp at hlen; omega, hL⟩
    simp [hoE, htD_succ]
  · unfold partsM at hm
    obtain ⟨r, hr, rfl⟩ := List.mem_map.mp hm
    exact compM_lt
/-! k05 -/
def k05E (s g v r h w : D) (y6 y7 y8 : Option (Bool × D)) : Env := [some (false, s), some (false, g), some (false, v), some (false, r), some (false, h), some (false, w), y6, y7, y8]
def K05I (s g v r h w : D) (rest : List Nat) (ρ : Env) : Prop := ∃ (y6 y7 y8 : Option (Bool × D)), ρ = k05E s g v r h w y6 y7 y8
theorem k05_run {Φ : Calls} (h1 : SCell Φ) (h2 : SGraph Φ) (h3 : SOrder Φ) (h4 : SRooms Φ) (h5 : SHuntOf Φ 6) (h6 : SSp Φ 8) (h7 : SHunt Φ 9) (h8 : SHuntR Φ 9) (ns : List Int) (hn : ns.length ≤ 63) : runB 1 9 b_law_v3 Φ [scrD ns] = .ok (.bool true) := by
  refine (run_of (by rfl)).trans ?_
  unfold b_law_v3
  obtain ⟨v0, e0⟩ := h1 ns 0
  obtain ⟨v, e1⟩ := h1 ns 1
  obtain ⟨v2, e2⟩ := h1 ns 2
  obtain ⟨c, E, e3, c1, c6, g⟩ := h2 v0 6 (by omega) (by omega)
  obtain ⟨order, e4, op⟩ := h3 v c (by omega)
  have e5 := h4 c E order (by omega) g.e op
  have td := rooms_td c1 g op
  have hl0 := roomsN_len c E order
  obtain ⟨h, e6, ho⟩ := h5 c E (roomsN c E order) (by omega) g.e td (by omega)
  obtain ⟨h', e7, ho'⟩ := h6 c E h v2 20 c1 (by omega) (by omega) (by omega) ho
  have hix : ixop (grD c E) (nD 0) = some (nD c) := rfl
  obtain ⟨r0, rs0, hrs⟩ : ∃ r l, roomsN c E order = r :: l := by
    cases hq : roomsN c E order with
    | nil => rw [hq] at hl0; simp at hl0; omega
    | cons r l => exact ⟨r, l, rfl⟩
  obtain ⟨w, hw, hwle⟩ := max_lens (r0 := r0) (rs0 := rs0)
  rw [← hrs] at hw hwle
  have hw1 : 1 ≤ w := by
    have := hwle _ (List.mem_of_getElem? (roomsN_at (E := E) (o := order) (k := 0) (show 0 < c by omega)))
    have q : (roomK c E order 0).length ≤ w := this
    rw [roomK_len op (by omega)] at q
    omega
  have hw2 : w ≤ 1000 := by
    have : w ∈ (roomsN c E order).map fun r => r.1.length := by
      rw [hrs] at hw ⊢
      have hm := max_nL r0.1.length (rs0.map fun r => r.1.length)
      rw [List.map_map] at hm
      have : some (nD w) = some (nD ((rs0.map fun r => r.1.length).foldl max r0.1.length)) := hw.symm.trans hm
      have hww := nD_inj (Option.some.inj this)
      rw [hww]
      have key : ∀ (l : List Nat) (a : Nat), l.foldl max a ∈ a :: l := fun l => by
        induction l with
        | nil => intro a; simp
        | cons b l ih =>
          intro a
          rw [List.foldl_cons]
          rcases List.mem_cons.mp (ih (max a b)) with q | q
          · rw [q]
            by_cases z : a ≤ b
            · rw [Nat.max_eq_right z]; simp
            · rw [Nat.max_eq_left (by omega)]; simp
          · simp [q]
      exact key _ _
    obtain ⟨r, hr, rfl⟩ := List.mem_map.mp this
    have := (rooms_ok (c := c) (E := E) (o := order) (by omega)).2 r hr
    have := nodup_len this.1 this.2
    omega
  have tail : ∀ (t : HT 9) (y5 y6 y7 y8 : Option (Bool × D)), HOk c 21 9 t →
      endR (exs (.cons (.set 5 [] (.blt .max (.cons (.lc [8] (.var 8) (.val (.varB 3)) .none (.blt .len (.cons (.ix (.varB 8) (.cst (.int 0))) .nil))) .nil))) (.cons (.fors [] (.var 6) (.rng2 (.bin .Sub (.varB 5) (.cst (.int 1))) (.bin .Add (.varB 5) (.cst (.int 2)))) (.cons (.set 7 [] (.call "hunt_holds" (.cons (.var 1) (.cons (.var 6) (.cons (.var 4) .nil))))) (.cons (.ifs (.or (.not (.isi .bool (.varB 7))) (.one (.cmp .NotEq (.varB 7) (.call "_law_hunt_right" (.cons (.var 1) (.cons (.var 6) (.cons (.var 4) .nil))))))) (.cons (.ret (.cst (.bool false))) .nil) .nil) .nil))) (.cons (.ret (.cst (.bool true))) .nil))) Φ
        [some (false, scrD ns), some (false, grD c E), some (false, nD v), some (false, .tuple ((roomsN c E order).map roomD)), some (false, htD 9 t), y5, y6, y7, y8]) = .ok (.bool true) := by
    intro t z5 z6 z7 z8 ht
    simp
    rw [lc_all (roomsN c E order) roomD (fun r => nD r.1.length)]
    · simp only [Res.ok_bind, hw, Res.ofO_some]
      simp [bin_sub hw1, bin_add, rng2_n (show w + 2 ≤ 1000000 by omega) (show w - 1 ≤ 1000000 by omega)]
      refine for_EI (K05I (scrD ns) (grD c E) (nD v) (.tuple ((roomsN c E order).map roomD)) (htD 9 t) (nD w)) ⟨z6, z7, z8, rfl⟩ ?_ ?_
      · rintro count rest ρ ⟨x6, x7, x8, q⟩
        subst q
        refine ⟨_, rfl, ?_⟩
        have f1 := h7 c E count t (by omega) g.e (HOk.mono (by omega) _ _ ht)
        have f2 := h8 c E count t (by omega) g.e (HOk.mono (by omega) _ _ ht)
        simp [k05E, f1, f2, isiop, neq_b]
        exact ⟨_, _, _, rfl⟩
      · rintro ρ ⟨x6, x7, x8, q⟩
        subst q
        simp [k05E]
    · simp
    · omega
    · rintro ⟨room, x⟩ hx
      refine ⟨_, rfl, ?_⟩
      have hi0 : ixop (roomD (room, x)) (nD 0) = some (natsT room) := rfl
      simp [wipeE, hi0]
  simp only [exs_cons, exs_nil] at tail
  by_cases hq : v / 7 % 4 = 0
  · have t := tail (liftH 8 h) none none none none (HOk.mono (by omega) _ _ (liftH_ok 8 h ho))
    rw [liftH_D] at t
    simp [start1, e0, e1, e2, e3, hix, e4, e5, e6, bin_div, bin_mod, hq] at t ⊢
    exact t
  · have t := tail h' none none none none ho'
    have hq' : 0 < v / 7 % 4 := by omega
    simp [start1, e0, e1, e2, e3, hix, e4, e5, e6, e7, bin_div, bin_mod, hq'] at t ⊢
    exact t
end Pv

end
section
namespace Pv
open PySem PySem.Spec PyProof.Rows L2
/-! ### the text -/
def topS (i : Nat) : Stmt := PySem.Challenge.pw_havenorhunt_k05_hunt_judge.main.body.getD i (.Pass ⟨0, 0, 0, 0⟩)
abbrev st_mask_of : Stmt := topS 1
def d_mask_of : Fd := ⟨"mask_of", st_mask_of, ["nodes"], ["nodes", "mask", "node"], b_mask_of⟩
abbrev st_nodes_of : Stmt := topS 2
def d_nodes_of : Fd := ⟨"nodes_of", st_nodes_of, ["mask"], ["mask", "node"], b_nodes_of⟩
abbrev st_all_nodes : Stmt := topS 4
def d_all_nodes : Fd := ⟨"all_nodes", st_all_nodes, ["graph"], ["graph"], b_all_nodes⟩
abbrev st_neighbour_masks : Stmt := topS 5
def d_neighbour_masks : Fd := ⟨"neighbour_masks", st_neighbour_masks, ["graph"], ["graph", "rows", "first", "second"], b_neighbour_masks⟩
abbrev st_around : Stmt := topS 6
def d_around : Fd := ⟨"around", st_around, ["rows", "mask"], ["rows", "mask", "found", "node"], b_around⟩
abbrev st_spread : Stmt := topS 7
def d_spread : Fd := ⟨"spread", st_spread, ["rows", "start", "free"], ["rows", "start", "free", "reached", "fresh"], b_spread⟩
abbrev st_part_masks : Stmt := topS 8
def d_part_masks : Fd := ⟨"part_masks", st_part_masks, ["rows", "free"], ["rows", "free", "found", "left", "part"], b_part_masks⟩
abbrev st_next_parts : Stmt := topS 10
def d_next_parts : Fd := ⟨"next_parts", st_next_parts, ["rows", "stand", "part", "after"], ["rows", "stand", "part", "after", "every", "region", "other"], b_next_parts⟩
abbrev st_answers : Stmt := topS 12
def d_answers : Fd := ⟨"answers", st_answers, ["rows", "count", "branches", "due", "stand"], ["rows", "count", "branches", "due", "stand", "part", "hunt", "after", "_"], b_answers⟩
abbrev st_hunt_holds : Stmt := topS 13
def d_hunt_holds : Fd := ⟨"hunt_holds", st_hunt_holds, ["graph", "count", "hunt"], ["graph", "count", "hunt", "rows"], b_hunt_holds⟩
abbrev st_beyond : Stmt := topS 15
def d_beyond : Fd := ⟨"beyond", st_beyond, ["rows", "gone", "node"], ["rows", "gone", "node", "reached"], b_beyond⟩
abbrev st_rooms_of : Stmt := topS 17
def d_rooms_of : Fd := ⟨"rooms_of", st_rooms_of, ["graph", "order"], ["graph", "order", "rows", "places", "gone", "found", "node", "others", "above", "at", "other"], b_rooms_of⟩
abbrev st_below_masks : Stmt := topS 18
def d_below_masks : Fd := ⟨"below_masks", st_below_masks, ["rooms"], ["rooms", "masks", "at", "above", "room", "_"], b_below_masks⟩
abbrev st_follow : Stmt := topS 19
def d_follow : Fd := ⟨"follow", st_follow, ["rows", "rooms", "below", "at", "part"], ["rows", "rooms", "below", "at", "part", "child", "room", "above", "stand", "due", "other"], b_follow⟩
abbrev st_hunt_of : Stmt := topS 20
def d_hunt_of : Fd := ⟨"hunt_of", st_hunt_of, ["graph", "rooms"], ["graph", "rooms", "rows", "below", "room", "found", "part", "due", "branches", "other"], b_hunt_of⟩
abbrev st__law_mixed : Stmt := topS 22
def d__law_mixed : Fd := ⟨"_law_mixed", st__law_mixed, ["_law_cell_here", "_law_turn"], ["_law_cell_here", "_law_turn", "_law_value", "_law_first", "_law_second", "_law_third"], b__law_mixed⟩
abbrev st__law_cell : Stmt := topS 23
def d__law_cell : Fd := ⟨"_law_cell", st__law_cell, ["_law_script", "_law_k"], ["_law_script", "_law_k"], b__law_cell⟩
abbrev st__law_graph : Stmt := topS 24
def d__law_graph : Fd := ⟨"_law_graph", st__law_graph, ["_law_value", "_law_most"], ["_law_value", "_law_most", "_law_count", "_law_thin", "_law_left", "_law_edges", "_law_second", "_law_first"], b__law_graph⟩
abbrev st__law_reach : Stmt := topS 25
def d__law_reach : Fd := ⟨"_law_reach", st__law_reach, ["_law_graph_here", "_law_start", "_law_banned"], ["_law_graph_here", "_law_start", "_law_banned", "_law_reached", "_law_spare", "_law_node", "_law_first", "_law_second"], b__law_reach⟩
abbrev st__law_parts : Stmt := topS 26
def d__law_parts : Fd := ⟨"_law_parts", st__law_parts, ["_law_graph_here", "_law_gone"], ["_law_graph_here", "_law_gone", "_law_found", "_law_met", "_law_node", "_law_part"], b__law_parts⟩
abbrev st__law_set : Stmt := topS 27
def d__law_set : Fd := ⟨"_law_set", st__law_set, ["_law_value", "_law_count", "_law_most"], ["_law_value", "_law_count", "_law_most", "_law_nodes", "_law_left", "_law_node"], b__law_set⟩
abbrev st__law_order : Stmt := topS 28
def d__law_order : Fd := ⟨"_law_order", st__law_order, ["_law_value", "_law_count"], ["_law_value", "_law_count", "_law_left", "_law_order_here", "_law_rest", "_law_k", "_law_at"], b__law_order⟩
abbrev st__law_due : Stmt := topS 29
def d__law_due : Fd := ⟨"_law_due", st__law_due, ["_law_graph_here", "_law_stand", "_law_part", "_law_after"], ["_law_graph_here", "_law_stand", "_law_part", "_law_after", "_law_stay", "_law_region", "_law_node", "_law_other"], b__law_due_v4⟩
abbrev st__law_branches : Stmt := topS 30
def d__law_branches : Fd := ⟨"_law_branches", st__law_branches, ["_law_graph_here", "_law_count", "_law_branches_here", "_law_due_here", "_law_stand"], ["_law_graph_here", "_law_count", "_law_branches_here", "_law_due_here", "_law_stand", "_law_part", "_law_go", "_law_branch"], b__law_branches⟩
abbrev st__law_hunt_right : Stmt := topS 31
def d__law_hunt_right : Fd := ⟨"_law_hunt_right", st__law_hunt_right, ["_law_graph_here", "_law_count", "_law_hunt"], ["_law_graph_here", "_law_count", "_law_hunt"], b__law_hunt_right⟩
abbrev st__law_spoilt : Stmt := topS 32
def d__law_spoilt : Fd := ⟨"_law_spoilt", st__law_spoilt, ["_law_graph_here", "_law_hunt", "_law_value"], ["_law_graph_here", "_law_hunt", "_law_value", "_law_at", "_law_kind", "_law_part", "_law_go"], b__law_spoilt_v2⟩
abbrev st_law : Stmt := topS 33
def d_law : Fd := ⟨"law", st_law, ["_law_script"], ["_law_script", "_law_graph_here", "_law_value", "_law_rooms", "_law_hunt", "_law_widest", "_law_count", "_law_told", "_law_room"], b_law_v3⟩
def TT : Tab := [d_mask_of, d_nodes_of, d_all_nodes, d_neighbour_masks, d_around, d_spread, d_part_masks, d_next_parts, d_answers, d_hunt_holds, d_beyond, d_rooms_of, d_below_masks, d_follow, d_hunt_of, d__law_mixed, d__law_cell, d__law_graph, d__law_reach, d__law_parts, d__law_set, d__law_order, d__law_due, d__law_branches, d__law_hunt_right, d__law_spoilt, d_law]
def BB : Base := ⟨["bool", "enumerate", "int", "isinstance", "len", "list", "max", "min", "range", "reversed", "sorted", "tuple"], [], []⟩
theorem find_mask_of : findT TT "mask_of" = some d_mask_of := by kernel_rfl
theorem ok_mask_of : FdOk TT BB d_mask_of := ⟨⟨rfl, rfl, rfl, by decide +kernel, rfl, by decide +kernel, by decide +kernel⟩, by kernel_rfl⟩
theorem find_nodes_of : findT TT "nodes_of" = some d_nodes_of := by kernel_rfl
theorem ok_nodes_of : FdOk TT BB d_nodes_of := ⟨⟨rfl, rfl, rfl, by decide +kernel, rfl, by decide +kernel, by decide +kernel⟩, by kernel_rfl⟩
theorem find_all_nodes : findT TT "all_nodes" = some d_all_nodes := by kernel_rfl
theorem ok_all_nodes : FdOk TT BB d_all_nodes := ⟨⟨rfl, rfl, rfl, by decide +kernel, rfl, by decide +kernel, by decide +kernel⟩, by kernel_rfl⟩
theorem find_neighbour_masks : findT TT "neighbour_masks" = some d_neighbour_masks := by kernel_rfl
theorem ok_neighbour_masks : FdOk TT BB d_neighbour_masks := ⟨⟨rfl, rfl, rfl, by decide +kernel, rfl, by decide +kernel, by decide +kernel⟩, by kernel_rfl⟩
theorem find_around : findT TT "around" = some d_around := by kernel_rfl
theorem ok_around : FdOk TT BB d_around := ⟨⟨rfl, rfl, rfl, by decide +kernel, rfl, by decide +kernel, by decide +kernel⟩, by kernel_rfl⟩
theorem find_spread : findT TT "spread" = some d_spread := by kernel_rfl
theorem ok_spread : FdOk TT BB d_spread := ⟨⟨rfl, rfl, rfl, by decide +kernel, rfl, by decide +kernel, by decide +kernel⟩, by kernel_rfl⟩
theorem find_part_masks : findT TT "part_masks" = some d_part_masks := by kernel_rfl
theorem ok_part_masks : FdOk TT BB d_part_masks := ⟨⟨rfl, rfl, rfl, by decide +kernel, rfl, by decide +kernel, by decide +kernel⟩, by kernel_rfl⟩
theorem find_next_parts : findT TT "next_parts" = some d_next_parts := by kernel_rfl
theorem ok_next_parts : FdOk TT BB d_next_parts := ⟨⟨rfl, rfl, rfl, by decide +kernel, rfl, by decide +kernel, by decide +kernel⟩, by kernel_rfl⟩
theorem find_answers : findT TT "answers" = some d_answers := by kernel_rfl
theorem ok_answers : FdOk TT BB d_answers := ⟨⟨rfl, rfl, rfl, by decide +kernel, rfl, by decide +kernel, by decide +kernel⟩, by kernel_rfl⟩
theorem find_hunt_holds : findT TT "hunt_holds" = some d_hunt_holds := by kernel_rfl
theorem ok_hunt_holds : FdOk TT BB d_hunt_holds := ⟨⟨rfl, rfl, rfl, by decide +kernel, rfl, by decide +kernel, by decide +kernel⟩, by kernel_rfl⟩
theorem find_beyond : findT TT "beyond" = some d_beyond := by kernel_rfl
theorem ok_beyond : FdOk TT BB d_beyond := ⟨⟨rfl, rfl, rfl, by decide +kernel, rfl, by decide +kernel, by decide +kernel⟩, by kernel_rfl⟩
theorem find_rooms_of : findT TT "rooms_of" = some d_rooms_of := by kernel_rfl
theorem ok_rooms_of : FdOk TT BB d_rooms_of := ⟨⟨rfl, rfl, rfl, by decide +kernel, rfl, by decide +kernel, by decide +kernel⟩, by kernel_rfl⟩
theorem find_below_masks : findT TT "below_masks" = some d_below_masks := by kernel_rfl
theorem ok_below_masks : FdOk TT BB d_below_masks := ⟨⟨rfl, rfl, rfl, by decide +kernel, rfl, by decide +kernel, by decide +kernel⟩, by kernel_rfl⟩
theorem find_follow : findT TT "follow" = some d_follow := by kernel_rfl
theorem ok_follow : FdOk TT BB d_follow := ⟨⟨rfl, rfl, rfl, by decide +kernel, rfl, by decide +kernel, by decide +kernel⟩, by kernel_rfl⟩
theorem find_hunt_of : findT TT "hunt_of" = some d_hunt_of := by kernel_rfl
theorem ok_hunt_of : FdOk TT BB d_hunt_of := ⟨⟨rfl, rfl, rfl, by decide +kernel, rfl, by decide +kernel, by decide +kernel⟩, by kernel_rfl⟩
theorem find__law_mixed : findT TT "_law_mixed" = some d__law_mixed := by kernel_rfl
theorem ok__law_mixed : FdOk TT BB d__law_mixed := ⟨⟨rfl, rfl, rfl, by decide +kernel, rfl, by decide +kernel, by decide +kernel⟩, by kernel_rfl⟩
theorem find__law_cell : findT TT "_law_cell" = some d__law_cell := by kernel_rfl
theorem ok__law_cell : FdOk TT BB d__law_cell := ⟨⟨rfl, rfl, rfl, by decide +kernel, rfl, by decide +kernel, by decide +kernel⟩, by kernel_rfl⟩
theorem find__law_graph : findT TT "_law_graph" = some d__law_graph := by kernel_rfl
theorem ok__law_graph : FdOk TT BB d__law_graph := ⟨⟨rfl, rfl, rfl, by decide +kernel, rfl, by decide +kernel, by decide +kernel⟩, by kernel_rfl⟩
theorem find__law_reach : findT TT "_law_reach" = some d__law_reach := by kernel_rfl
theorem ok__law_reach : FdOk TT BB d__law_reach := ⟨⟨rfl, rfl, rfl, by decide +kernel, rfl, by decide +kernel, by decide +kernel⟩, by kernel_rfl⟩
theorem find__law_parts : findT TT "_law_parts" = some d__law_parts := by kernel_rfl
theorem ok__law_parts : FdOk TT BB d__law_parts := ⟨⟨rfl, rfl, rfl, by decide +kernel, rfl, by decide +kernel, by decide +kernel⟩, by kernel_rfl⟩
theorem find__law_set : findT TT "_law_set" = some d__law_set := by kernel_rfl
theorem ok__law_set : FdOk TT BB d__law_set := ⟨⟨rfl, rfl, rfl, by decide +kernel, rfl, by decide +kernel, by decide +kernel⟩, by kernel_rfl⟩
theorem find__law_order : findT TT "_law_order" = some d__law_order := by kernel_rfl
theorem ok__law_order : FdOk TT BB d__law_order := ⟨⟨rfl, rfl, rfl, by decide +kernel, rfl, by decide +kernel, by decide +kernel⟩, by kernel_rfl⟩
theorem find__law_due : findT TT "_law_due" = some d__law_due := by kernel_rfl
theorem ok__law_due : FdOk TT BB d__law_due := ⟨⟨rfl, rfl, rfl, by decide +kernel, rfl, by decide +kernel, by decide +kernel⟩, by kernel_rfl⟩
theorem find__law_branches : findT TT "_law_branches" = some d__law_branches := by kernel_rfl
theorem ok__law_branches : FdOk TT BB d__law_branches := ⟨⟨rfl, rfl, rfl, by decide +kernel, rfl, by decide +kernel, by decide +kernel⟩, by kernel_rfl⟩
theorem find__law_hunt_right : findT TT "_law_hunt_right" = some d__law_hunt_right := by kernel_rfl
theorem ok__law_hunt_right : FdOk TT BB d__law_hunt_right := ⟨⟨rfl, rfl, rfl, by decide +kernel, rfl, by decide +kernel, by decide +kernel⟩, by kernel_rfl⟩
theorem find__law_spoilt : findT TT "_law_spoilt" = some d__law_spoilt := by kernel_rfl
theorem ok__law_spoilt : FdOk TT BB d__law_spoilt := ⟨⟨rfl, rfl, rfl, by decide +kernel, rfl, by decide +kernel, by decide +kernel⟩, by kernel_rfl⟩
theorem find_law : findT TT "law" = some d_law := by kernel_rfl
theorem ok_law : FdOk TT BB d_law := ⟨⟨rfl, rfl, rfl, by decide +kernel, rfl, by decide +kernel, by decide +kernel⟩, by kernel_rfl⟩
theorem ok_all : ∀ d ∈ TT, FdOk TT BB d := AllP.mem ⟨ok_mask_of, ok_nodes_of, ok_all_nodes, ok_neighbour_masks, ok_around, ok_spread, ok_part_masks, ok_next_parts, ok_answers, ok_hunt_holds, ok_beyond, ok_rooms_of, ok_below_masks, ok_follow, ok_hunt_of, ok__law_mixed, ok__law_cell, ok__law_graph, ok__law_reach, ok__law_parts, ok__law_set, ok__law_order, ok__law_due, ok__law_branches, ok__law_hunt_right, ok__law_spoilt, ok_law, trivial⟩
theorem known_mk {K : PySem.W.Frag} {h : Heap} {mg : Str → Option Value} (X : K.In h) (G : h.Ns mainGlobals mg) (F0 : FnFact K mg "mask_of" st_mask_of ["nodes"])
    (F1 : FnFact K mg "nodes_of" st_nodes_of ["mask"])
    (F2 : FnFact K mg "all_nodes" st_all_nodes ["graph"])
    (F3 : FnFact K mg "neighbour_masks" st_neighbour_masks ["graph"])
    (F4 : FnFact K mg "around" st_around ["rows", "mask"])
    (F5 : FnFact K mg "spread" st_spread ["rows", "start", "free"])
    (F6 : FnFact K mg "part_masks" st_part_masks ["rows", "free"])
    (F7 : FnFact K mg "next_parts" st_next_parts ["rows", "stand", "part", "after"])
    (F8 : FnFact K mg "answers" st_answers ["rows", "count", "branches", "due", "stand"])
    (F9 : FnFact K mg "hunt_holds" st_hunt_holds ["graph", "count", "hunt"])
    (F10 : FnFact K mg "beyond" st_beyond ["rows", "gone", "node"])
    (F11 : FnFact K mg "rooms_of" st_rooms_of ["graph", "order"])
    (F12 : FnFact K mg "below_masks" st_below_masks ["rooms"])
    (F13 : FnFact K mg "follow" st_follow ["rows", "rooms", "below", "at", "part"])
    (F14 : FnFact K mg "hunt_of" st_hunt_of ["graph", "rooms"])
    (F15 : FnFact K mg "_law_mixed" st__law_mixed ["_law_cell_here", "_law_turn"])
    (F16 : FnFact K mg "_law_cell" st__law_cell ["_law_script", "_law_k"])
    (F17 : FnFact K mg "_law_graph" st__law_graph ["_law_value", "_law_most"])
    (F18 : FnFact K mg "_law_reach" st__law_reach ["_law_graph_here", "_law_start", "_law_banned"])
    (F19 : FnFact K mg "_law_parts" st__law_parts ["_law_graph_here", "_law_gone"])
    (F20 : FnFact K mg "_law_set" st__law_set ["_law_value", "_law_count", "_law_most"])
    (F21 : FnFact K mg "_law_order" st__law_order ["_law_value", "_law_count"])
    (F22 : FnFact K mg "_law_due" st__law_due ["_law_graph_here", "_law_stand", "_law_part", "_law_after"])
    (F23 : FnFact K mg "_law_branches" st__law_branches ["_law_graph_here", "_law_count", "_law_branches_here", "_law_due_here", "_law_stand"])
    (F24 : FnFact K mg "_law_hunt_right" st__law_hunt_right ["_law_graph_here", "_law_count", "_law_hunt"])
    (F25 : FnFact K mg "_law_spoilt" st__law_spoilt ["_law_graph_here", "_law_hunt", "_law_value"])
    (F26 : FnFact K mg "law" st_law ["_law_script"])
    (z0 : PySem.W.nsIn K mainGlobals "bool" = some none) (z1 : PySem.W.nsIn K mainGlobals "enumerate" = some none) (z2 : PySem.W.nsIn K mainGlobals "int" = some none) (z3 : PySem.W.nsIn K mainGlobals "isinstance" = some none) (z4 : PySem.W.nsIn K mainGlobals "len" = some none) (z5 : PySem.W.nsIn K mainGlobals "list" = some none) (z6 : PySem.W.nsIn K mainGlobals "max" = some none) (z7 : PySem.W.nsIn K mainGlobals "min" = some none) (z8 : PySem.W.nsIn K mainGlobals "range" = some none) (z9 : PySem.W.nsIn K mainGlobals "reversed" = some none) (z10 : PySem.W.nsIn K mainGlobals "sorted" = some none) (z11 : PySem.W.nsIn K mainGlobals "tuple" = some none)
      : Known K mg TT BB :=
  ⟨AllP.mem ⟨F0, F1, F2, F3, F4, F5, F6, F7, F8, F9, F10, F11, F12, F13, F14, F15, F16, F17, F18, F19, F20, F21, F22, F23, F24, F25, F26, trivial⟩, AllB.mem ⟨PySem.W.mg_none_of X G z0, PySem.W.mg_none_of X G z1, PySem.W.mg_none_of X G z2, PySem.W.mg_none_of X G z3, PySem.W.mg_none_of X G z4, PySem.W.mg_none_of X G z5, PySem.W.mg_none_of X G z6, PySem.W.mg_none_of X G z7, PySem.W.mg_none_of X G z8, PySem.W.mg_none_of X G z9, PySem.W.mg_none_of X G z10, PySem.W.mg_none_of X G z11, trivial⟩, AllG.mem trivial, AllB.mem trivial⟩
end Pv

end
section
namespace Pv
open PySem
theorem p_nodes (n : Nat) {c : Nat} (hc : c ≤ 1000) : SNodes (callAt TT (n + 1)) c := fun m hm => (callAt_eq find_nodes_of).trans (nodes_of_run _ hm (by omega))
theorem p_mask (n : Nat) : SMask (callAt TT (n + 1)) := fun l hl => (callAt_eq find_mask_of).trans (mask_of_run _ hl)
theorem p_all (n : Nat) {c : Nat} {E : List (Nat × Nat)} (hc : c ≤ 1000) : SAll (callAt TT (n + 1)) c E := (callAt_eq find_all_nodes).trans (all_nodes_run _ (by omega))
theorem p_rows (n : Nat) {c : Nat} {E : List (Nat × Nat)} (hc : c ≤ 1000) (hE : EOk c E) : SRows (callAt TT (n + 1)) c E := (callAt_eq find_neighbour_masks).trans (neighbour_masks_run _ hc hE)
theorem p_around (n : Nat) {c : Nat} {E : List (Nat × Nat)} (hc : c ≤ 1000) (hE : EOk c E) : SAround (callAt TT (n + 2)) c (rowsN c E) := fun m hm => (callAt_eq find_around).trans (around_run (p_nodes n hc) (rowsN_ok hE).1 hm)
theorem p_spread (n : Nat) {c : Nat} {E : List (Nat × Nat)} (hc : c ≤ 16) (hE : EOk c E) : SSpread (callAt TT (n + 3)) c E (rowsN c E) := fun s f hs hf => (callAt_eq find_spread).trans (spread_run (p_around n (by omega) hE) (rowsN_ok hE) hE hc hs hf)
theorem p_partm (n : Nat) {c : Nat} {E : List (Nat × Nat)} (hc : c ≤ 16) (hE : EOk c E) : SPartM (callAt TT (n + 4)) c E := fun f hf => (callAt_eq find_part_masks).trans (part_masks_run (p_spread n hc hE) hE hc hf)
theorem p_mixed (n : Nat) : SMixed (callAt TT (n + 1)) := fun cell turn => let ⟨v, e⟩ := law_mixed_run (callAt TT n) cell turn; ⟨v, (callAt_eq find__law_mixed).trans e⟩
theorem p_graph (n : Nat) : SGraph (callAt TT (n + 1)) := fun v most h1 h2 => let ⟨c, E, e, r⟩ := law_graph_run (callAt TT n) v most h1 h2; ⟨c, E, (callAt_eq find__law_graph).trans e, r⟩
theorem p_set (n : Nat) : SSet (callAt TT (n + 1)) := fun v count most h => let ⟨l, e, r⟩ := law_set_run (callAt TT n) v count most h; ⟨l, (callAt_eq find__law_set).trans e, r⟩
theorem p_reach (n : Nat) {c : Nat} {E : List (Nat × Nat)} (hc : c ≤ 1000) (hE : EOk c E) : SReach (callAt TT (n + 1)) c E := fun ban v hv hb => (callAt_eq find__law_reach).trans (law_reach_run _ hc hE hv hb)
theorem p_lparts (n : Nat) : SLParts (callAt TT (n + 2)) := fun c E gone hc hE hg => (callAt_eq find__law_parts).trans (law_parts_run (p_reach n (by omega) hE) (by omega) hg)
theorem p_beyond (n : Nat) {c : Nat} {E : List (Nat × Nat)} (hc : c ≤ 16) (hE : EOk c E) : SBeyond (callAt TT (n + 4)) c E := fun g x hg hx => (callAt_eq find_beyond).trans (beyond_run (p_spread n hc hE) (p_around (n + 1) (by omega) hE) hE (by omega) hg hx)
theorem p_order (n : Nat) : SOrder (callAt TT (n + 1)) := fun v count h => let ⟨o, e, r⟩ := law_order_run (callAt TT n) v count h; ⟨o, (callAt_eq find__law_order).trans e, r⟩
theorem p_cell (n : Nat) : SCell (callAt TT (n + 2)) := fun ns k => let ⟨v, e⟩ := law_cell_run (p_mixed n) ns k; ⟨v, (callAt_eq find__law_cell).trans e⟩
theorem p_reachg (n : Nat) : SReachG (callAt TT (n + 1)) := fun c E k1 k2 st ban hc hE hs hl => (callAt_eq find__law_reach).trans (reach_run _ k1 k2 (by omega) hE hs hl)
theorem p_rooms (n : Nat) : SRooms (callAt TT (n + 5)) := fun c E o hc hE ho => (callAt_eq find_rooms_of).trans (rooms_of_run (p_rows (n + 3) (by omega) hE) (p_all (n + 3) (by omega)) (p_beyond n (by omega) hE) (p_nodes (n + 3) (by omega)) (p_mask (n + 3)) (by omega) ho)
theorem p_mask' {m : Nat} (h : 1 ≤ m) : SMask (callAt TT m) := by obtain ⟨n, rfl⟩ : ∃ n, m = n + 1 := ⟨m - 1, by omega⟩; exact p_mask n
theorem p_nodes' {m : Nat} (h : 1 ≤ m) {c : Nat} (hc : c ≤ 1000) : SNodes (callAt TT m) c := by obtain ⟨n, rfl⟩ : ∃ n, m = n + 1 := ⟨m - 1, by omega⟩; exact p_nodes n hc
theorem p_nextp (n : Nat) {c : Nat} {E : List (Nat × Nat)} (hc : c ≤ 16) (hE : EOk c E) : SNextP (callAt TT (n + 5)) c E := fun s p a hp => (callAt_eq find_next_parts).trans (next_parts_run hE (p_spread (n + 1) hc hE) (p_partm n hc hE) hc hp)
theorem p_nextp' {m : Nat} (h : 5 ≤ m) {c : Nat} {E : List (Nat × Nat)} (hc : c ≤ 16) (hE : EOk c E) : SNextP (callAt TT m) c E := by obtain ⟨n, rfl⟩ : ∃ n, m = n + 5 := ⟨m - 5, by omega⟩; exact p_nextp n hc hE
theorem p_ans {c : Nat} {E : List (Nat × Nat)} {count : Nat} (hc : c ≤ 8) (hE : EOk c E) (k : Nat) : ∀ n, SAns (callAt TT (k + 6 + n)) c E count n | 0 => (fun h M st hl hM hs => (callAt_eq find_answers).trans (answers_run0 (p_nodes' (by omega) (by omega)) h M st hM)) | n + 1 => (fun h M st hl hM hs => (callAt_eq find_answers).trans (answers_run (p_mask' (by omega)) (p_nodes' (by omega) (by omega)) (p_nextp' (by omega) (by omega) hE) (p_ans hc hE k n) (by omega) h M st hl hM hs))
theorem p_due (n : Nat) : SDue (callAt TT (n + 3)) := fun c E s p a hc hE h1 h2 h3 h4 => (callAt_eq find__law_due).trans (law_due_run (p_reachg (n + 1)) (p_lparts n) hc hE h1 h2 h3 h4)
theorem p_due' {m : Nat} (h : 3 ≤ m) : SDue (callAt TT m) := by obtain ⟨n, rfl⟩ : ∃ n, m = n + 3 := ⟨m - 3, by omega⟩; exact p_due n
theorem p_br {c : Nat} {E : List (Nat × Nat)} {count : Nat} (hc : c ≤ 8) (hE : EOk c E) (k : Nat) : ∀ n, SBr (callAt TT (k + 4 + n)) c E count n | 0 => (fun h due st hl hs => (callAt_eq find__law_branches).trans (branches_run0 h due st)) | n + 1 => (fun h due st hl hs => (callAt_eq find__law_branches).trans (branches_run (p_due' (by omega)) (p_br hc hE k n) hc hE h due st hl hs))
theorem p_hunt9 (k : Nat) : SHunt (callAt TT (k + 16)) 9 := fun c E count h hc hE ho => (callAt_eq find_hunt_holds).trans (hunt_holds_run (p_rows (k + 14) (by omega) hE) (p_all (k + 14) (by omega)) (p_partm (k + 11) (by omega) hE) (p_ans hc hE k 9) (by omega) ho)
theorem p_huntr9 (k : Nat) : SHuntR (callAt TT (k + 14)) 9 := fun c E count h hc hE ho => (callAt_eq find__law_hunt_right).trans (hunt_right_run (p_lparts (k + 11)) (p_br hc hE k 9) hc hE ho)
theorem p_set' {m : Nat} (h : 1 ≤ m) : SSet (callAt TT m) := by obtain ⟨n, rfl⟩ : ∃ n, m = n + 1 := ⟨m - 1, by omega⟩; exact p_set n
theorem p_sp (k : Nat) : ∀ n, n ≤ 15 → SSp (callAt TT (k + 2 + n)) n | 0, _ => (fun c E h v B h1 h2 h3 h4 ho => ⟨([([0], [0], ())] : List (List Nat × List Nat × HT 0)), (callAt_eq find__law_spoilt).trans (law_spoilt0 _ c E h v), by show (1 : Nat) ≤ B + 1; omega, fun b hb => by rw [List.mem_singleton.mp hb]; exact ⟨⟨by simp, by simp; omega⟩, ⟨by simp, by simp; omega⟩, trivial⟩⟩) | n + 1, hn => (fun c E h v B h1 h2 h3 h4 ho => let ⟨h', e, q1, q2⟩ := spoilt_run (p_set' (by omega)) (p_sp k n (by omega)) (by omega) (E := E) (v := v) h h1 h2 h3 h4 ho; ⟨h', (callAt_eq find__law_spoilt).trans e, q1, q2⟩)
theorem p_follow {c : Nat} {E : List (Nat × Nat)} {rs : List (List Nat × Int)} {bel : List Nat} (hc : c ≤ 16) (hE : EOk c E) (h : TDL c E rs) (hb : bel.length = rs.length) (k : Nat) : ∀ n, SFollow (callAt TT (k + 6 + n)) c E rs bel n | 0 => (fun i p hi hn hp => absurd hn (by omega)) | n + 1 => (fun i p hi hn hp => let ⟨room, sub, e, q⟩ := follow_run (p_mask' (by omega)) (p_nodes' (by omega) (by omega)) (p_nextp' (by omega) hc hE) (p_follow hc hE h hb k n) hc h hb hi hn hp; ⟨room, sub, (callAt_eq find_follow).trans e, q⟩)
theorem p_below (n : Nat) {c : Nat} {E : List (Nat × Nat)} (hc : c ≤ 1000) : SBelow (callAt TT (n + 2)) c E := fun rs h hl => let ⟨m, e, q⟩ := below_run (p_mask n) hc h hl; ⟨m, (callAt_eq find_below_masks).trans e, q⟩
theorem p_huntof6 (k : Nat) : SHuntOf (callAt TT (k + 13)) 6 := fun c E rs hc hE h hn => let ⟨t, e, q⟩ := hunt_of_run (n := 6) (p_rows (k + 11) (by omega) hE) (p_below (k + 10) (by omega)) (p_all (k + 11) (by omega)) (p_partm (k + 8) (by omega) hE) (p_nextp (k + 7) (by omega) hE) (p_mask (k + 11)) (p_nodes (k + 11) (by omega)) (fun bel hb => p_follow (by omega) hE h hb k 6) hc h hn (by omega); ⟨t, (callAt_eq find_hunt_of).trans e, q⟩
theorem law_plain : ∀ ns : List Int, ns.length ≤ 63 → callAt TT 18 "law" [.list (ns.map PySem.PyData.int)] = .ok (.bool true) := fun ns hn =>
  (callAt_eq find_law).trans (k05_run (p_cell 15) (p_graph 16) (p_order 16) (p_rooms 12) (p_huntof6 4) (p_sp 7 8 (by omega)) (p_hunt9 1) (p_huntr9 3) ns hn)
end Pv
open PySem PySem.W PyProof.Rows in
set_option maxHeartbeats 0 in
theorem PySem.Challenge.cw_havenorhunt_k05_hunt_judge_holds : PySem.Challenge.rw_havenorhunt_k05_hunt_judge.Holds := by
  w_on; o_law; k_head; (case hw => w_witness2)
  k_fill
  refine L2.walk_of (l := PySem.Challenge.rw_havenorhunt_k05_hunt_judge) (n := 63) (k := 18) (x := "_law_script") (CX := fun w => L2.CX PySem.Challenge.pw_havenorhunt_k05_hunt_judge w) (sp := fun _ => Pv.spLaw _ 63) rfl (by decide) rfl ⟨rfl, by decide, by decide⟩ (fun w h Y => PySem.W.kIn_of Y) ?F (fun _ _ a ns hl _ hS => ⟨a, ns, rfl, hS, hl, fun _ => rfl⟩) (fun _ _ _ _ _ h => by obtain ⟨_, _, _, _, _, _, _, _, _, _, _, _, z⟩ := h; exact z)
  case F =>
    intro w mg fa h KX G hmg
    have F0 : Pv.FnFact (L2.KOf KX) mg "mask_of" Pv.st_mask_of ["nodes"] := by
      refine' Pv.fact_mk KX G ?a ?l ?c ?k fun _ _ _ _ _ _ us hl => (match us, hl with | [_], _ => rfl)
      (case a => k_is); (case l => k_is); (case c => k_is); (case k => k_is)
    have F1 : Pv.FnFact (L2.KOf KX) mg "nodes_of" Pv.st_nodes_of ["mask"] := by
      refine' Pv.fact_mk KX G ?a ?l ?c ?k fun _ _ _ _ _ _ us hl => (match us, hl with | [_], _ => rfl)
      (case a => k_is); (case l => k_is); (case c => k_is); (case k => k_is)
    have F2 : Pv.FnFact (L2.KOf KX) mg "all_nodes" Pv.st_all_nodes ["graph"] := by
      refine' Pv.fact_mk KX G ?a ?l ?c ?k fun _ _ _ _ _ _ us hl => (match us, hl with | [_], _ => rfl)
      (case a => k_is); (case l => k_is); (case c => k_is); (case k => k_is)
    have F3 : Pv.FnFact (L2.KOf KX) mg "neighbour_masks" Pv.st_neighbour_masks ["graph"] := by
      refine' Pv.fact_mk KX G ?a ?l ?c ?k fun _ _ _ _ _ _ us hl => (match us, hl with | [_], _ => rfl)
      (case a => k_is); (case l => k_is); (case c => k_is); (case k => k_is)
    have F4 : Pv.FnFact (L2.KOf KX) mg "around" Pv.st_around ["rows", "mask"] := by
      refine' Pv.fact_mk KX G ?a ?l ?c ?k fun _ _ _ _ _ _ us hl => (match us, hl with | [_, _], _ => rfl)
      (case a => k_is); (case l => k_is); (case c => k_is); (case k => k_is)
    have F5 : Pv.FnFact (L2.KOf KX) mg "spread" Pv.st_spread ["rows", "start", "free"] := by
      refine' Pv.fact_mk KX G ?a ?l ?c ?k fun _ _ _ _ _ _ us hl => (match us, hl with | [_, _, _], _ => rfl)
      (case a => k_is); (case l => k_is); (case c => k_is); (case k => k_is)
    have F6 : Pv.FnFact (L2.KOf KX) mg "part_masks" Pv.st_part_masks ["rows", "free"] := by
      refine' Pv.fact_mk KX G ?a ?l ?c ?k fun _ _ _ _ _ _ us hl => (match us, hl with | [_, _], _ => rfl)
      (case a => k_is); (case l => k_is); (case c => k_is); (case k => k_is)
    have F7 : Pv.FnFact (L2.KOf KX) mg "next_parts" Pv.st_next_parts ["rows", "stand", "part", "after"] := by
      refine' Pv.fact_mk KX G ?a ?l ?c ?k fun _ _ _ _ _ _ us hl => (match us, hl with | [_, _, _, _], _ => rfl)
      (case a => k_is); (case l => k_is); (case c => k_is); (case k => k_is)
    have F8 : Pv.FnFact (L2.KOf KX) mg "answers" Pv.st_answers ["rows", "count", "branches", "due", "stand"] := by
      refine' Pv.fact_mk KX G ?a ?l ?c ?k fun _ _ _ _ _ _ us hl => (match us, hl with | [_, _, _, _, _], _ => rfl)
      (case a => k_is); (case l => k_is); (case c => k_is); (case k => k_is)
    have F9 : Pv.FnFact (L2.KOf KX) mg "hunt_holds" Pv.st_hunt_holds ["graph", "count", "hunt"] := by
      refine' Pv.fact_mk KX G ?a ?l ?c ?k fun _ _ _ _ _ _ us hl => (match us, hl with | [_, _, _], _ => rfl)
      (case a => k_is); (case l => k_is); (case c => k_is); (case k => k_is)
    have F10 : Pv.FnFact (L2.KOf KX) mg "beyond" Pv.st_beyond ["rows", "gone", "node"] := by
      refine' Pv.fact_mk KX G ?a ?l ?c ?k fun _ _ _ _ _ _ us hl => (match us, hl with | [_, _, _], _ => rfl)
      (case a => k_is); (case l => k_is); (case c => k_is); (case k => k_is)
    have F11 : Pv.FnFact (L2.KOf KX) mg "rooms_of" Pv.st_rooms_of ["graph", "order"] := by
      refine' Pv.fact_mk KX G ?a ?l ?c ?k fun _ _ _ _ _ _ us hl => (match us, hl with | [_, _], _ => rfl)
      (case a => k_is); (case l => k_is); (case c => k_is); (case k => k_is)
    have F12 : Pv.FnFact (L2.KOf KX) mg "below_masks" Pv.st_below_masks ["rooms"] := by
      refine' Pv.fact_mk KX G ?a ?l ?c ?k fun _ _ _ _ _ _ us hl => (match us, hl with | [_], _ => rfl)
      (case a => k_is); (case l => k_is); (case c => k_is); (case k => k_is)
    have F13 : Pv.FnFact (L2.KOf KX) mg "follow" Pv.st_follow ["rows", "rooms", "below", "at", "part"] := by
      refine' Pv.fact_mk KX G ?a ?l ?c ?k fun _ _ _ _ _ _ us hl => (match us, hl with | [_, _, _, _, _], _ => rfl)
      (case a => k_is); (case l => k_is); (case c => k_is); (case k => k_is)
    have F14 : Pv.FnFact (L2.KOf KX) mg "hunt_of" Pv.st_hunt_of ["graph", "rooms"] := by
      refine' Pv.fact_mk KX G ?a ?l ?c ?k fun _ _ _ _ _ _ us hl => (match us, hl with | [_, _], _ => rfl)
      (case a => k_is); (case l => k_is); (case c => k_is); (case k => k_is)
    have F15 : Pv.FnFact (L2.KOf KX) mg "_law_mixed" Pv.st__law_mixed ["_law_cell_here", "_law_turn"] := by
      refine' Pv.fact_mk KX G ?a ?l ?c ?k fun _ _ _ _ _ _ us hl => (match us, hl with | [_, _], _ => rfl)
      (case a => k_is); (case l => k_is); (case c => k_is); (case k => k_is)
    have F16 : Pv.FnFact (L2.KOf KX) mg "_law_cell" Pv.st__law_cell ["_law_script", "_law_k"] := by
      refine' Pv.fact_mk KX G ?a ?l ?c ?k fun _ _ _ _ _ _ us hl => (match us, hl with | [_, _], _ => rfl)
      (case a => k_is); (case l => k_is); (case c => k_is); (case k => k_is)
    have F17 : Pv.FnFact (L2.KOf KX) mg "_law_graph" Pv.st__law_graph ["_law_value", "_law_most"] := by
      refine' Pv.fact_mk KX G ?a ?l ?c ?k fun _ _ _ _ _ _ us hl => (match us, hl with | [_, _], _ => rfl)
      (case a => k_is); (case l => k_is); (case c => k_is); (case k => k_is)
    have F18 : Pv.FnFact (L2.KOf KX) mg "_law_reach" Pv.st__law_reach ["_law_graph_here", "_law_start", "_law_banned"] := by
      refine' Pv.fact_mk KX G ?a ?l ?c ?k fun _ _ _ _ _ _ us hl => (match us, hl with | [_, _, _], _ => rfl)
      (case a => k_is); (case l => k_is); (case c => k_is); (case k => k_is)
    have F19 : Pv.FnFact (L2.KOf KX) mg "_law_parts" Pv.st__law_parts ["_law_graph_here", "_law_gone"] := by
      refine' Pv.fact_mk KX G ?a ?l ?c ?k fun _ _ _ _ _ _ us hl => (match us, hl with | [_, _], _ => rfl)
      (case a => k_is); (case l => k_is); (case c => k_is); (case k => k_is)
    have F20 : Pv.FnFact (L2.KOf KX) mg "_law_set" Pv.st__law_set ["_law_value", "_law_count", "_law_most"] := by
      refine' Pv.fact_mk KX G ?a ?l ?c ?k fun _ _ _ _ _ _ us hl => (match us, hl with | [_, _, _], _ => rfl)
      (case a => k_is); (case l => k_is); (case c => k_is); (case k => k_is)
    have F21 : Pv.FnFact (L2.KOf KX) mg "_law_order" Pv.st__law_order ["_law_value", "_law_count"] := by
      refine' Pv.fact_mk KX G ?a ?l ?c ?k fun _ _ _ _ _ _ us hl => (match us, hl with | [_, _], _ => rfl)
      (case a => k_is); (case l => k_is); (case c => k_is); (case k => k_is)
    have F22 : Pv.FnFact (L2.KOf KX) mg "_law_due" Pv.st__law_due ["_law_graph_here", "_law_stand", "_law_part", "_law_after"] := by
      refine' Pv.fact_mk KX G ?a ?l ?c ?k fun _ _ _ _ _ _ us hl => (match us, hl with | [_, _, _, _], _ => rfl)
      (case a => k_is); (case l => k_is); (case c => k_is); (case k => k_is)
    have F23 : Pv.FnFact (L2.KOf KX) mg "_law_branches" Pv.st__law_branches ["_law_graph_here", "_law_count", "_law_branches_here", "_law_due_here", "_law_stand"] := by
      refine' Pv.fact_mk KX G ?a ?l ?c ?k fun _ _ _ _ _ _ us hl => (match us, hl with | [_, _, _, _, _], _ => rfl)
      (case a => k_is); (case l => k_is); (case c => k_is); (case k => k_is)
    have F24 : Pv.FnFact (L2.KOf KX) mg "_law_hunt_right" Pv.st__law_hunt_right ["_law_graph_here", "_law_count", "_law_hunt"] := by
      refine' Pv.fact_mk KX G ?a ?l ?c ?k fun _ _ _ _ _ _ us hl => (match us, hl with | [_, _, _], _ => rfl)
      (case a => k_is); (case l => k_is); (case c => k_is); (case k => k_is)
    have F25 : Pv.FnFact (L2.KOf KX) mg "_law_spoilt" Pv.st__law_spoilt ["_law_graph_here", "_law_hunt", "_law_value"] := by
      refine' Pv.fact_mk KX G ?a ?l ?c ?k fun _ _ _ _ _ _ us hl => (match us, hl with | [_, _, _], _ => rfl)
      (case a => k_is); (case l => k_is); (case c => k_is); (case k => k_is)
    have F26 : Pv.FnFact (L2.KOf KX) mg "law" Pv.st_law ["_law_script"] := by
      refine' Pv.fact_mk KX G ?a ?l ?c ?k fun _ _ _ _ _ _ us hl => (match us, hl with | [_], _ => rfl)
      (case a => k_is); (case l => k_is); (case c => k_is); (case k => k_is)
    have kn := Pv.known_mk KX G F0 F1 F2 F3 F4 F5 F6 F7 F8 F9 F10 F11 F12 F13 F14 F15 F16 F17 F18 F19 F20 F21 F22 F23 F24 F25 F26 (by k_is) (by k_is) (by k_is) (by k_is) (by k_is) (by k_is) (by k_is) (by k_is) (by k_is) (by k_is) (by k_is) (by k_is)  
    exact Pv.law_headT Pv.ok_all kn Pv.find_law rfl hmg Pv.law_plain

end

