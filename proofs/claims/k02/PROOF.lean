import PyProof.Rows.All
import Wide.All
import OpenK.AllK
import Wide.FinOn
import HandS.ForMost
import HandS.ForExc
import HandS.IsInst
import HandS.WideBits
import HandS.TupAny
import HandS.TupMul
import HandS.Deep
import HandS.Rev
import HandS.Conv
import HandS.SetFor
import HandS.Dict
import HandS.DictComp
import HandS.Zip
import HandS.Strs
import HandS.Text
import KE.SortData
import KE.DataEq
import KE.DataMinMax
import KE.DataFind
import KE.KDictKeyed
import KE.KeyNested
import KE.GoesEnum
import KE.GoesMore
import HandS.TupLe
import HandS.TupSets
import HandS.ExcOwn
import HandS.ExcIs
import HandS.More
import HandS.Replace
import KE.GoesRaise
import HandS.TryOnly
import PySem.Challenge.RW_havenorhunt_k02_graph_texts_refused
set_option Elab.async false
set_option linter.all false
set_option maxRecDepth 100000
set_option maxHeartbeats 4000000
section
namespace Pv
open PySem PySem.Spec PyProof.Rows L2

/-! ### outcomes -/
inductive Res (α : Type) where
  | st | ok (a : α) | ex (c : Str)
namespace Res
protected def bind {α β : Type} : Res α → (α → Res β) → Res β
  | .st, _ => .st
  | .ok a, f => f a
  | .ex c, _ => .ex c
instance : Monad Res where
  pure := Res.ok
  bind := Res.bind
@[simp] theorem ok_bind {α β : Type} (a : α) (f : α → Res β) : (Res.ok a >>= f) = f a := id rfl
@[simp] theorem st_bind {α β : Type} (f : α → Res β) : ((Res.st : Res α) >>= f) = Res.st := id rfl
@[simp] theorem ex_bind {α β : Type} (c : Str) (f : α → Res β) : ((Res.ex c : Res α) >>= f) = Res.ex c := id rfl
@[simp] theorem pure_eq {α : Type} (a : α) : (pure a : Res α) = Res.ok a := id rfl
def ofO {α : Type} : Option α → Res α
  | some a => .ok a
  | none => .st
@[simp] theorem ofO_some {α : Type} (a : α) : ofO (some a) = Res.ok a := id rfl
@[simp] theorem ofO_none {α : Type} : ofO (none : Option α) = Res.st := id rfl
end Res

abbrev D := PyData
def keyD : Key → D
  | .inl i => .int i
  | .inr x => .str x

/-! ### keys that are tuples of numbers, nested -/
mutual
def hN : NestedKey → Int
  | .none => reduceHash 0xFCA86420
  | .num i => hashInt i
  | .text _ => 0
  | .tup ks => reduceHash (Builtin.Tuple.tupleHashOf (hNs ks))
def hNs : List NestedKey → List Int
  | [] => []
  | k :: ks => hN k :: hNs ks
end
mutual
def keyN : D → Option NestedKey
  | .int i => some (.num i)
  | .tuple ds => (keyNs ds).map .tup
  | _ => none
def keyNs : List D → Option (List NestedKey)
  | [] => some []
  | d :: ds => match keyN d, keyNs ds with
    | some k, some ks => some (k :: ks)
    | _, _ => none
end
mutual
theorem hN_eq (w : World) : ∀ (d : D) (k : NestedKey), keyN d = some k → NestedKey.hash w k = hN k
  | .int i, k, h => by cases h; rfl
  | .tuple ds, k, h => by
    unfold keyN at h
    obtain ⟨ks, e, rfl⟩ := Option.map_eq_some_iff.mp h
    unfold NestedKey.hash hN
    rw [hNs_eq w ds ks e]
  | .none, k, h => by cases h
  | .bool _, k, h => by cases h
  | .str _, k, h => by cases h
  | .list _, k, h => by cases h
  | .dict _, k, h => by cases h
theorem hNs_eq (w : World) : ∀ (ds : List D) (ks : List NestedKey), keyNs ds = some ks → NestedKey.hashes w ks = hNs ks
  | [], ks, h => by cases h; rfl
  | d :: ds, ks, h => by
    unfold keyNs at h
    cases h1 : keyN d with
    | none => simp [h1] at h
    | some k =>
      cases h2 : keyNs ds with
      | none => simp [h1, h2] at h
      | some r =>
        simp only [h1, h2] at h
        cases h
        unfold NestedKey.hashes hNs
        rw [hN_eq w d k h1, hNs_eq w ds r h2]
end
/-- such a key at the top: a tuple, not too deep -/
def keyX : D → Option NestedKey
  | .tuple ds => match keyN (.tuple ds) with
    | some k => if k.depth ≤ 8 then some k else none
    | none => none
  | _ => none
theorem keyX_N {d : D} {k : NestedKey} (h : keyX d = some k) : keyN d = some k ∧ k.depth ≤ 8 ∧ ∃ ds, d = .tuple ds := by
  cases d with
  | tuple ds =>
    have h : (match keyN (.tuple ds) with | some k => if k.depth ≤ 8 then some k else none | none => none) = some k := h
    cases e : keyN (.tuple ds) with
    | none => rw [e] at h; cases h
    | some k' =>
      rw [e] at h
      have h : (if k'.depth ≤ 8 then some k' else none) = some k := h
      by_cases hk : k'.depth ≤ 8
      · rw [if_pos hk] at h; cases h; exact ⟨rfl, hk, _, rfl⟩
      · rw [if_neg hk] at h; cases h
  | _ => cases h
/-- what a dict with such keys holds: the key, where its tuple stands, the value -/
abbrev XEnt := NestedKey × Addr × V
def XRel (e : XEnt) (t : DictEntry) : Prop := t.hash = hN e.1 ∧ t.key = .ref e.2.1 ∧ RelV e.2.2 t.val
def DXo (a : Addr) (es : List XEnt) : HO := .ext fun h => es.length ≤ sizeLine ∧ (a == sysModules) = false ∧ (es.map (·.1)).Nodup ∧ ∃ o ents ep, h.get? a = some o ∧ o.ExactDict ∧ o.data = .dict ents ep ∧ Paired XRel es ents.toList

/-! ### data in the heap, the mutable ones outside of A -/
/-- a list that is not at A (or one of the module's own) -/
def SqN (K : PySem.W.Frag) (H : Hp) (A : List Addr) (a : Addr) (xs : List V) : Prop := (Rd H a (.lst xs) ∧ a ∉ A) ∨
  ∃ (o : Obj) (its : Array Value) (n : Nat), K.lookup a = some o ∧ o.cls = .type "list" ∧ o.dict = none ∧ o.data = .seq its n ∧ its.size ≤ sizeLine ∧ Vals xs its.toList
theorem SqN.sq {K : PySem.W.Frag} {H : Hp} {A : List Addr} {a : Addr} {xs : List V} (h : SqN K H A a xs) : SqL K H a xs := by
  rcases h with ⟨h, _⟩ | h
  · exact .inl h
  · exact .inr h
theorem SqN.of {K : PySem.W.Frag} {H : Hp} {a : Addr} {xs : List V} (h : SqL K H a xs) : SqN K H [] a xs := by
  rcases h with h | h
  · exact .inl ⟨h, by simp⟩
  · exact .inr h
/-- a tuple of no dict -/
def SqE (K : PySem.W.Frag) (H : Hp) (a : Addr) (xs : List V) : Prop := (∃ o : Obj, H a = some (.frz o (.tup xs)) ∧ o.dict = none) ∨
  ∃ (o : Obj) (its : Array Value) (n : Nat), K.lookup a = some o ∧ o.cls = .type "tuple" ∧ o.dict = none ∧ o.data = .seq its n ∧ its.size ≤ sizeLine ∧ Vals xs its.toList
theorem SqE.t {K : PySem.W.Frag} {H : Hp} {a : Addr} {xs : List V} (h : SqE K H a xs) : SqT K H a xs := by
  rcases h with ⟨o, h, _⟩ | ⟨o, its, n, h1, h2, _, h4, h5, h6⟩
  · exact .inl (.inr ⟨o, h⟩)
  · exact .inr ⟨o, its, n, h1, h2, h4, h5, h6⟩
/-- what a tracked mutable object is -/
def IsM : HO → Prop
  | .lst _ => True
  | .dK _ => True
  | .ext _ => True
  | _ => False
mutual
inductive Rp (K : PySem.W.Frag) (H : Hp) (A : List Addr) : V → D → Prop
  | non : Rp K H A .non .none
  | bl (b : Bool) : Rp K H A (.bl b) (.bool b)
  | int (i : Int) : Rp K H A (.int i) (.int i)
  | str (x : Str) : Rp K H A (.str x) (.str x)
  | lst {a : Addr} {xs : List V} {ds : List D} : SqN K H A a xs → RpL K H A xs ds → Rp K H A (.ref a) (.list ds)
  | tup {a : Addr} {xs : List V} {ds : List D} : SqE K H a xs → RpL K H A xs ds → Rp K H A (.ref a) (.tuple ds)
  | dic {a : Addr} {kvs : List (Key × V)} {ds : List D} {es : List (D × D)} : Rd H a (.dK kvs) → a ∉ A → RpL K H A (kvs.map (·.2)) ds → es = (kvs.map fun p => keyD p.1).zip ds → Rp K H A (.ref a) (.dict es)
  | dix {a : Addr} {xs : List XEnt} {ks ds : List D} {es : List (D × D)} : Rd H a (DXo a xs) → a ∉ A → RpL K H A (xs.map fun e => V.ref e.2.1) ks → ks.map keyX = xs.map (fun e => some e.1) → RpL K H A (xs.map (·.2.2)) ds → es = ks.zip ds ∧ xs ≠ [] → Rp K H A (.ref a) (.dict es)
inductive RpL (K : PySem.W.Frag) (H : Hp) (A : List Addr) : List V → List D → Prop
  | nil : RpL K H A [] []
  | cons {v : V} {vs : List V} {d : D} {ds : List D} : Rp K H A v d → RpL K H A vs ds → RpL K H A (v :: vs) (d :: ds)
end

section
variable {K : PySem.W.Frag} {H H' H1 H2 : Hp} {A A' : List Addr}
mutual
theorem Rp.imp (hl : ∀ a xs, SqN K H A a xs → SqN K H' A' a xs) (ht : ∀ a xs, SqE K H a xs → SqE K H' a xs) (hd : ∀ a o, IsM o → a ∉ A → Rd H a o → Rd H' a o ∧ a ∉ A') : ∀ {v : V} {d : D}, Rp K H A v d → Rp K H' A' v d
  | _, _, .non => .non
  | _, _, .bl b => .bl b
  | _, _, .int b => .int b
  | _, _, .str b => .str b
  | _, _, .lst h r => .lst (hl _ _ h) (RpL.imp hl ht hd r)
  | _, _, .tup h r => .tup (ht _ _ h) (RpL.imp hl ht hd r)
  | _, _, .dic h n r e => .dic (hd _ (.dK _) trivial n h).1 (hd _ (.dK _) trivial n h).2 (RpL.imp hl ht hd r) e
  | _, _, .dix h n q k r e => .dix (hd _ (DXo _ _) trivial n h).1 (hd _ (DXo _ _) trivial n h).2 (RpL.imp hl ht hd q) k (RpL.imp hl ht hd r) e
theorem RpL.imp (hl : ∀ a xs, SqN K H A a xs → SqN K H' A' a xs) (ht : ∀ a xs, SqE K H a xs → SqE K H' a xs) (hd : ∀ a o, IsM o → a ∉ A → Rd H a o → Rd H' a o ∧ a ∉ A') : ∀ {v : List V} {d : List D}, RpL K H A v d → RpL K H' A' v d
  | _, _, .nil => .nil
  | _, _, .cons h r => .cons (Rp.imp hl ht hd h) (RpL.imp hl ht hd r)
end

theorem Rd_same (e : Same H H') {a : Addr} {o : HO} (h : Rd H a o) : Rd H' a o := by
  rcases h with h | ⟨o', h⟩
  · exact .inl (e _ _ h)
  · exact .inr ⟨o', e _ _ h⟩
theorem Rd_there {a : Addr} {o : HO} (h : Rd H a o) : H a ≠ none := by
  rcases h with h | ⟨o', h⟩ <;> rw [h] <;> simp
theorem SqT_same (e : Same H H') {a : Addr} {xs : List V} (h : SqT K H a xs) : SqT K H' a xs := by
  rcases h with h | h
  · exact .inl (Rd_same e h)
  · exact .inr h

theorem SqE_same (e : Same H H') {a : Addr} {xs : List V} (h : SqE K H a xs) : SqE K H' a xs := by
  rcases h with ⟨o, h, q⟩ | h
  · exact .inl ⟨o, e _ _ h, q⟩
  · exact .inr h

def AOk (H : Hp) (A : List Addr) : Prop := ∀ p ∈ A, ∃ o, H p = some o ∧ IsM o
theorem AOk.same (e : Same H H') (h : AOk H A) : AOk H' A := fun p hp => let ⟨o, q, m⟩ := h p hp; ⟨o, e _ _ q, m⟩
theorem AOk.nil : AOk H [] := fun p hp => absurd hp (by simp)
/-- all but what stands at B stays -/
def But (B : List Addr) (H H' : Hp) : Prop := ∀ b o, b ∉ B → H b = some o → H' b = some o
theorem But.of_same {B : List Addr} (e : Same H H') : But B H H' := fun b o _ h => e b o h
theorem But.refl {B : List Addr} : But B H H := fun _ _ _ h => h
theorem But.trans {B : List Addr} (a : But B H H1) (b : But B H1 H2) : But B H H2 := fun c o n h => b c o n (a c o n h)
theorem But.upd {B : List Addr} {p : Addr} {o : HO} (h : p ∈ B) : But B H (upd H p o) := fun b u n e => by
  rw [upd_ne (fun z => n (by rw [z]; exact h))]; exact e
theorem Rd_but {B : List Addr} (e : But B H H') {a : Addr} {o : HO} (n : a ∉ B) (h : Rd H a o) : Rd H' a o := by
  rcases h with h | ⟨o', h⟩
  · exact .inl (e _ _ n h)
  · exact .inr ⟨o', e _ _ n h⟩
theorem SqT_but {B : List Addr} (e : But B H H') (hB : AOk H B) {a : Addr} {xs : List V} (h : SqT K H a xs) : SqT K H' a xs := by
  rcases h with h | h
  · refine .inl (Rd_but e (fun z => ?_) h)
    obtain ⟨o, q, m⟩ := hB _ z
    rcases h with h | ⟨o', h⟩
    · rw [h] at q; cases q; exact m
    · rw [h] at q; cases q; exact m
  · exact .inr h
theorem SqE_but {B : List Addr} (e : But B H H') (hB : AOk H B) {a : Addr} {xs : List V} (h : SqE K H a xs) : SqE K H' a xs := by
  rcases h with ⟨o, h, q⟩ | h
  · refine .inl ⟨o, e _ _ (fun z => ?_) h, q⟩
    obtain ⟨o, q, m⟩ := hB _ z
    rw [h] at q; cases q; exact m
  · exact .inr h
theorem SqL_but {B : List Addr} (e : But B H H') {a : Addr} {xs : List V} (n : a ∉ B) (h : SqL K H a xs) : SqL K H' a xs := by
  rcases h with h | h
  · exact .inl (Rd_but e n h)
  · exact .inr h
/-- what is said of the heap H, outside of A, holds later: only what is at B (in A) changed, what is at A' was at A or is new -/
theorem Rp.go {B : List Addr} (s : ∀ b ∈ B, b ∈ A) (hB : AOk H B) (e : But B H H') (w : ∀ p ∈ A', p ∈ A ∨ H p = none) {v : V} {d : D} (h : Rp K H A v d) : Rp K H' A' v d := by
  have key : ∀ a o, Rd H a o → a ∉ A → a ∉ A' := fun a o h n z => (w a z).elim n (Rd_there h)
  refine h.imp (fun a xs q => ?_) (fun _ _ q => SqE_but e hB q) fun a o _ n q => ⟨Rd_but e (fun z => n (s _ z)) q, key _ _ q n⟩
  rcases q with ⟨q, n⟩ | q
  · exact .inl ⟨Rd_but e (fun z => n (s _ z)) q, key _ _ q n⟩
  · exact .inr q
theorem RpL.go {B : List Addr} (s : ∀ b ∈ B, b ∈ A) (hB : AOk H B) (e : But B H H') (w : ∀ p ∈ A', p ∈ A ∨ H p = none) : ∀ {v : List V} {d : List D}, RpL K H A v d → RpL K H' A' v d
  | _, _, .nil => .nil
  | _, _, .cons h r => .cons (h.go s hB e w) (RpL.go s hB e w r)
theorem Rp.same (e : Same H H') {v : V} {d : D} (h : Rp K H A v d) : Rp K H' A v d := h.go (B := []) (by simp) AOk.nil (But.of_same e) fun _ z => .inl z
theorem RpL.same (e : Same H H') {v : List V} {d : List D} (h : RpL K H A v d) : RpL K H' A v d := h.go (B := []) (by simp) AOk.nil (But.of_same e) fun _ z => .inl z
theorem Rp.sub (e : ∀ a ∈ A', a ∈ A) {v : V} {d : D} (h : Rp K H A v d) : Rp K H A' v d := h.go (B := []) (by simp) AOk.nil But.refl fun _ z => .inl (e _ z)
theorem RpL.sub (e : ∀ a ∈ A', a ∈ A) {v : List V} {d : List D} (h : RpL K H A v d) : RpL K H A' v d := h.go (B := []) (by simp) AOk.nil But.refl fun _ z => .inl (e _ z)
theorem Rp.but {B : List Addr} (e : But B H H') (hB : AOk H B) (s : ∀ b ∈ B, b ∈ A) {v : V} {d : D} (h : Rp K H A v d) : Rp K H' A v d := h.go s hB e fun _ z => .inl z
theorem RpL.but {B : List Addr} (e : But B H H') (hB : AOk H B) (s : ∀ b ∈ B, b ∈ A) {v : List V} {d : List D} (h : RpL K H A v d) : RpL K H' A v d := h.go s hB e fun _ z => .inl z
theorem Rp.new {p : Addr} (n : H p = none) {v : V} {d : D} (h : Rp K H A v d) : Rp K H (p :: A) v d := h.go (B := []) (by simp) AOk.nil But.refl fun q z => by
  rcases List.mem_cons.mp z with rfl | z
  · exact .inr n
  · exact .inl z
theorem RpL.new {p : Addr} (n : H p = none) {v : List V} {d : List D} (h : RpL K H A v d) : RpL K H (p :: A) v d := h.go (B := []) (by simp) AOk.nil But.refl fun q z => by
  rcases List.mem_cons.mp z with rfl | z
  · exact .inr n
  · exact .inl z
theorem same_upd {p : Addr} {o : HO} (h : H p = none) : Same H (upd H p o) := fun b x e => by
  rw [upd_ne (ne_of_none e h)]; exact e
theorem AOk.fresh {p : Addr} (h : AOk H A) (n : H p = none) : p ∉ A := fun z => by
  obtain ⟨o, q, _⟩ := h p z
  rw [n] at q; cases q

/-! lists -/
theorem RpL.length : ∀ {v : List V} {d : List D}, RpL K H A v d → v.length = d.length
  | _, _, .nil => rfl
  | _, _, .cons _ r => by rw [List.length_cons, List.length_cons, RpL.length r]
theorem RpL.get : ∀ {v : List V} {d : List D} {i : Nat} {x : V}, RpL K H A v d → v[i]? = some x → ∃ y, d[i]? = some y ∧ Rp K H A x y
  | _, _, _, _, .nil, e => by simp at e
  | _, _, 0, _, .cons h _, e => by simp at e; subst e; exact ⟨_, rfl, h⟩
  | _, _, i + 1, x, .cons _ r, e => by
    obtain ⟨y, e1, h⟩ := RpL.get (i := i) (x := x) r (by simpa using e)
    exact ⟨y, by simpa using e1, h⟩
theorem RpL.get' : ∀ {v : List V} {d : List D} {i : Nat} {y : D}, RpL K H A v d → d[i]? = some y → ∃ x, v[i]? = some x ∧ Rp K H A x y
  | _, _, _, _, .nil, e => by simp at e
  | _, _, 0, _, .cons h _, e => by simp at e; subst e; exact ⟨_, rfl, h⟩
  | _, _, i + 1, x, .cons _ r, e => by
    obtain ⟨y, e1, h⟩ := RpL.get' (i := i) (y := x) r (by simpa using e)
    exact ⟨y, by simpa using e1, h⟩
theorem RpL.append : ∀ {v v' : List V} {d d' : List D}, RpL K H A v d → RpL K H A v' d' → RpL K H A (v ++ v') (d ++ d')
  | _, _, _, _, .nil, h => h
  | _, _, _, _, .cons h r, q => .cons h (RpL.append r q)
theorem RpL.take : ∀ {v : List V} {d : List D} (n : Nat), RpL K H A v d → RpL K H A (v.take n) (d.take n)
  | _, _, 0, _ => .nil
  | _, _, _ + 1, .nil => .nil
  | _, _, n + 1, .cons h r => .cons h (RpL.take n r)
theorem RpL.drop : ∀ {v : List V} {d : List D} (n : Nat), RpL K H A v d → RpL K H A (v.drop n) (d.drop n)
  | _, _, 0, r => r
  | _, _, _ + 1, .nil => .nil
  | _, _, n + 1, .cons h r => RpL.drop n r
theorem RpL.set : ∀ {v : List V} {d : List D} {x : V} {y : D} (n : Nat), Rp K H A x y → RpL K H A v d → RpL K H A (v.set n x) (d.set n y)
  | _, _, _, _, _, _, .nil => .nil
  | _, _, _, _, 0, q, .cons _ r => .cons q r
  | _, _, _, _, n + 1, q, .cons h r => .cons h (RpL.set n q r)
theorem RpL.reverse {v : List V} {d : List D} (h : RpL K H A v d) : RpL K H A v.reverse d.reverse := by
  have go : ∀ {v : List V} {d : List D} {v' : List V} {d' : List D}, RpL K H A v d → RpL K H A v' d' → RpL K H A (v.reverseAux v') (d.reverseAux d') := by
    intro v
    induction v with
    | nil => intro d v' d' h q; cases h; exact q
    | cons x v ih =>
      intro d v' d' h q
      cases h with
      | @cons _ _ y ds h r => exact ih (d := ds) (v' := x :: v') (d' := y :: d') r (.cons h q)
  exact go h .nil
theorem RpL.rep {v : List V} {d : List D} (h : RpL K H A v d) : ∀ k : Nat, RpL K H A (List.replicate k v).flatten (List.replicate k d).flatten
  | 0 => .nil
  | k + 1 => by rw [List.replicate_succ, List.replicate_succ, List.flatten_cons, List.flatten_cons]; exact h.append (RpL.rep h k)
theorem RpL.ints : ∀ {ns : List Int} {v : List V}, RpL K H A v (ns.map PyData.int) → v = ns.map V.int
  | [], _, .nil => rfl
  | n :: ns, _, .cons h r => by cases h; rw [RpL.ints r]; rfl

/-! pure data: nothing mutable in it -/
mutual
def pureD : D → Bool
  | .list _ => false
  | .dict _ => false
  | .tuple xs => pureL xs
  | _ => true
def pureL : List D → Bool
  | [] => true
  | x :: xs => pureD x && pureL xs
end
mutual
theorem Rp.pure : ∀ {v : V} {d : D}, pureD d = true → Rp K H A v d → Rp K H A' v d
  | _, _, _, .non => .non
  | _, _, _, .bl b => .bl b
  | _, _, _, .int b => .int b
  | _, _, _, .str b => .str b
  | _, _, p, .lst h r => by simp [pureD] at p
  | _, _, p, .tup h r => .tup h (RpL.pure (by simpa [pureD] using p) r)
  | _, _, p, .dic h n r e => by simp [pureD] at p
  | _, _, p, .dix h n q k r e => by simp [pureD] at p
theorem RpL.pure : ∀ {v : List V} {d : List D}, pureL d = true → RpL K H A v d → RpL K H A' v d
  | _, _, _, .nil => .nil
  | _, _, p, .cons h r => by
    have p' := p
    simp only [pureL, Bool.and_eq_true] at p'
    exact .cons (Rp.pure p'.1 h) (RpL.pure p'.2 r)
end
end

/-! ### data that == looks into -/
section
variable {K : PySem.W.Frag} {H : Hp} {A : List Addr}
mutual
theorem Rp.dp : ∀ {v : V} {d : D}, d.plain = true → Rp K H A v d → Dp K H v d
  | _, _, _, .non => .non
  | _, _, _, .bl b => .bl b
  | _, _, _, .int b => .int b
  | _, _, _, .str b => .str b
  | _, _, p, .lst h r => .lst h.sq (RpL.dp (by simpa [PyData.plain] using p) r)
  | _, _, p, .tup h r => .tup h.t (RpL.dp (by simpa [PyData.plain] using p) r)
  | _, _, p, .dic h n r e => by simp [PyData.plain] at p
  | _, _, p, .dix h n q k r e => by simp [PyData.plain] at p
theorem RpL.dp : ∀ {v : List V} {d : List D}, PyData.plainAll d = true → RpL K H A v d → DpAll K H v d
  | _, _, _, .nil => .nil
  | _, _, p, .cons h r => by
    have p' := p
    simp only [PyData.plainAll, Bool.and_eq_true] at p'
    exact .cons (Rp.dp p'.1 h) (RpL.dp p'.2 r)
end
end

/-! ### slots -/
abbrev Env := List (Option (Bool × D))
/-- lists that are owned, each at its place -/
inductive Kids (K : PySem.W.Frag) (H : Hp) (A : List Addr) : List Addr → List D → Prop
  | nil : Kids K H A [] []
  | cons {b : Addr} {bs : List Addr} {xs : List V} {es : List D} {ds : List D} : b ∈ A → H b = some (.lst xs) → RpL K H A xs es → Kids K H A bs ds → Kids K H A (b :: bs) (.list es :: ds)
/-- what a slot holds: nothing that is told; data that may stand elsewhere, too; a list or a dict that stands here alone; one whose items are lists that stand here alone -/
inductive Slot (K : PySem.W.Frag) (H : Hp) (A : List Addr) : Option V → Option (Bool × D) → List Addr → Prop
  | non {x : Option V} : Slot K H A x none []
  | shared {v : V} {d : D} : Rp K H A v d → Slot K H A (some v) (some (false, d)) []
  | ownL {a : Addr} {xs : List V} {ds : List D} : a ∈ A → H a = some (.lst xs) → RpL K H A xs ds → Slot K H A (some (.ref a)) (some (true, .list ds)) [a]
  | ownD {a : Addr} {kvs : List (Key × V)} {ds : List D} {es : List (D × D)} : a ∈ A → H a = some (.dK kvs) → RpL K H A (kvs.map (·.2)) ds → es = (kvs.map fun p => keyD p.1).zip ds → Slot K H A (some (.ref a)) (some (true, .dict es)) [a]
  | ownX {a : Addr} {xs : List XEnt} {ks ds : List D} {es : List (D × D)} : a ∈ A → H a = some (DXo a xs) → RpL K H A (xs.map fun e => V.ref e.2.1) ks → ks.map keyX = xs.map (fun e => some e.1) → RpL K H A (xs.map (·.2.2)) ds → es = ks.zip ds ∧ xs ≠ [] → Slot K H A (some (.ref a)) (some (true, .dict es)) [a]
  | deepL {a : Addr} {bs : List Addr} {ds : List D} : a ∈ A → H a = some (.lst (bs.map V.ref)) → (a :: bs).Nodup → Kids K H A bs ds → Slot K H A (some (.ref a)) (some (true, .tuple [.list ds])) (a :: bs)
  | deepD {a : Addr} {bs : List Addr} {kvs : List (Key × V)} {ds : List D} {es : List (D × D)} : a ∈ A → H a = some (.dK kvs) → kvs.map (·.2) = bs.map V.ref → (a :: bs).Nodup → Kids K H A bs ds → es = (kvs.map fun p => keyD p.1).zip ds → Slot K H A (some (.ref a)) (some (true, .tuple [.dict es])) (a :: bs)
inductive Slots (K : PySem.W.Frag) (H : Hp) (A : List Addr) : L2.St → Env → List (List Addr) → Prop
  | nil : Slots K H A [] [] []
  | cons {x : Option V} {y : Option (Bool × D)} {r : List Addr} {xs : L2.St} {ys : Env} {rs : List (List Addr)} : Slot K H A x y r → Slots K H A xs ys rs → Slots K H A (x :: xs) (y :: ys) (r :: rs)
structure EnvOk (K : PySem.W.Frag) (H : Hp) (A : List Addr) (O : List (List Addr)) (σ : L2.St) (ρ : Env) : Prop where
  sl : Slots K H A σ ρ O
  nd : ∀ (i j : Nat) (l m : List Addr) (a : Addr), O[i]? = some l → a ∈ l → O[j]? = some m → a ∈ m → i = j

section
variable {K : PySem.W.Frag} {H H' : Hp} {A A' : List Addr}
theorem Kids.go {B : List Addr} (s : ∀ b ∈ B, b ∈ A) (hB : AOk H B) (e : But B H H') (w : ∀ p ∈ A', p ∈ A ∨ H p = none) : ∀ {bs : List Addr} {ds : List D}, (∀ b ∈ bs, b ∉ B ∧ b ∈ A') → Kids K H A bs ds → Kids K H' A' bs ds
  | _, _, _, .nil => .nil
  | _, _, n, .cons m h r q => .cons (n _ (by simp)).2 (e _ _ (n _ (by simp)).1 h) (r.go s hB e w) (Kids.go s hB e w (fun b hb => n b (by simp [hb])) q)
theorem Kids.inA : ∀ {bs : List Addr} {ds : List D}, Kids K H A bs ds → ∀ b ∈ bs, b ∈ A
  | _, _, .nil, _, h => by simp at h
  | _, _, .cons m _ _ q, b, h => by
    rcases List.mem_cons.mp h with e | h
    · rw [e]; exact m
    · exact Kids.inA q b h
theorem Kids.isM : ∀ {bs : List Addr} {ds : List D}, Kids K H A bs ds → ∀ b ∈ bs, ∃ o, H b = some o ∧ IsM o
  | _, _, .nil, _, h => by simp at h
  | _, _, .cons _ e _ q, b, h => by
    rcases List.mem_cons.mp h with z | h
    · rw [z]; exact ⟨_, e, trivial⟩
    · exact Kids.isM q b h
theorem Kids.length : ∀ {bs : List Addr} {ds : List D}, Kids K H A bs ds → bs.length = ds.length
  | _, _, .nil => rfl
  | _, _, .cons _ _ _ q => by rw [List.length_cons, List.length_cons, Kids.length q]
/-- as values that are not owned any more -/
theorem Kids.rpl (s : ∀ a ∈ A', a ∈ A) : ∀ {bs : List Addr} {ds : List D}, (∀ b ∈ bs, b ∉ A') → Kids K H A bs ds → RpL K H A' (bs.map V.ref) ds
  | _, _, _, .nil => .nil
  | _, _, n, .cons m h r q => .cons (.lst (.inl ⟨.inl h, n _ (by simp)⟩) (r.sub s)) (Kids.rpl s (fun b hb => n b (by simp [hb])) q)
theorem Slot.inA {x : Option V} {y : Option (Bool × D)} {r : List Addr} (h : Slot K H A x y r) : ∀ a ∈ r, a ∈ A := by
  cases h with
  | non => simp
  | shared h => simp
  | ownL m _ _ => intro a h; rw [List.mem_singleton.mp h]; exact m
  | ownD m _ _ _ => intro a h; rw [List.mem_singleton.mp h]; exact m
  | ownX m _ _ _ _ _ => intro a h; rw [List.mem_singleton.mp h]; exact m
  | deepL m _ _ k => intro a h; rcases List.mem_cons.mp h with e | h
                     · rw [e]; exact m
                     · exact k.inA a h
  | deepD m _ _ _ k _ => intro a h; rcases List.mem_cons.mp h with e | h
                         · rw [e]; exact m
                         · exact k.inA a h
theorem Slot.isM {x : Option V} {y : Option (Bool × D)} {r : List Addr} (h : Slot K H A x y r) : ∀ a ∈ r, ∃ o, H a = some o ∧ IsM o := by
  cases h with
  | non => simp
  | shared h => simp
  | ownL _ e _ => intro a h; rw [List.mem_singleton.mp h]; exact ⟨_, e, trivial⟩
  | ownD _ e _ _ => intro a h; rw [List.mem_singleton.mp h]; exact ⟨_, e, trivial⟩
  | ownX _ e _ _ _ _ => intro a h; rw [List.mem_singleton.mp h]; exact ⟨_, e, trivial⟩
  | deepL _ e _ k => intro a h; rcases List.mem_cons.mp h with z | h
                     · rw [z]; exact ⟨_, e, trivial⟩
                     · exact k.isM a h
  | deepD _ e _ _ k _ => intro a h; rcases List.mem_cons.mp h with z | h
                         · rw [z]; exact ⟨_, e, trivial⟩
                         · exact k.isM a h
theorem Slots.get : ∀ {σ : L2.St} {ρ : Env} {O : List (List Addr)} {i : Nat} {y : Option (Bool × D)}, Slots K H A σ ρ O → ρ[i]? = some y → ∃ x r, σ[i]? = some x ∧ O[i]? = some r ∧ Slot K H A x y r
  | _, _, _, _, _, .nil, e => by simp at e
  | _, _, _, 0, _, .cons h _, e => by simp at e; subst e; exact ⟨_, _, rfl, rfl, h⟩
  | _, _, _, i + 1, y, .cons _ r, e => by
    obtain ⟨x, r', e1, e2, h⟩ := Slots.get (i := i) (y := y) r (by simpa using e)
    exact ⟨x, r', by simpa using e1, by simpa using e2, h⟩
theorem Slots.len : ∀ {σ : L2.St} {ρ : Env} {O : List (List Addr)}, Slots K H A σ ρ O → σ.length = ρ.length ∧ O.length = ρ.length
  | _, _, _, .nil => ⟨rfl, rfl⟩
  | _, _, _, .cons _ r => by
    obtain ⟨h1, h2⟩ := Slots.len r
    exact ⟨by rw [List.length_cons, List.length_cons, h1], by rw [List.length_cons, List.length_cons, h2]⟩
/-- the data of a slot, as it is read -/
def undeep : Bool × D → D
  | (true, .tuple [d]) => d
  | (_, d) => d
/-- all flags down -/
def clr (ρ : Env) : Env := ρ.map fun o => o.map fun p => (false, undeep p)
theorem Slot.clr0 (s : ∀ a ∈ A', a ∈ A) {x : Option V} {y : Option (Bool × D)} {r : List Addr} (n : ∀ a ∈ r, a ∉ A') (h : Slot K H A x y r) : Slot K H A' x (y.map fun p => (false, undeep p)) [] := by
  cases h with
  | non => exact .non
  | shared h => exact .shared (h.sub s)
  | ownL m h q => exact .shared (.lst (.inl ⟨.inl h, n _ (by simp)⟩) (q.sub s))
  | ownD m h q e => exact .shared (.dic (.inl h) (n _ (by simp)) (q.sub s) e)
  | ownX m h k q r e => exact .shared (.dix (.inl h) (n _ (by simp)) (k.sub s) q (r.sub s) e)
  | deepL m h d k => exact .shared (.lst (.inl ⟨.inl h, n _ (by simp)⟩) (k.rpl s fun b hb => n b (by simp [hb])))
  | deepD m h z d k e => exact .shared (.dic (.inl h) (n _ (by simp)) (by rw [z]; exact k.rpl s fun b hb => n b (by simp [hb])) e)
theorem Slots.clr0 (s : ∀ a ∈ A', a ∈ A) : ∀ {σ : L2.St} {ρ : Env} {O : List (List Addr)}, (∀ a ∈ O.flatten, a ∉ A') → Slots K H A σ ρ O → Slots K H A' σ (Pv.clr ρ) (O.map fun _ => [])
  | _, _, _, _, .nil => .nil
  | _, _, _, n, .cons h r => .cons (h.clr0 s fun a ha => n a (by simp [ha])) (Slots.clr0 s (fun a ha => n a (by
      rw [List.flatten_cons, List.mem_append]; exact .inr ha)) r)
theorem Slots.clr {σ : L2.St} {ρ : Env} {O : List (List Addr)} (h : Slots K H A σ ρ O) : Slots K H [] σ (clr ρ) (O.map fun _ => []) := h.clr0 (by simp) (by simp)
theorem nd_nil {O : List (List Addr)} : ∀ (i j : Nat) (l m : List Addr) (a : Addr), (O.map fun _ => ([] : List Addr))[i]? = some l → a ∈ l → (O.map fun _ => ([] : List Addr))[j]? = some m → a ∈ m → i = j := fun i j l m a e h _ _ => by
  rw [List.getElem?_map] at e
  cases q : O[i]? with
  | none => rw [q] at e; cases e
  | some _ => rw [q] at e; cases e; cases h
theorem EnvOk.clr {O : List (List Addr)} {σ : L2.St} {ρ : Env} (h : EnvOk K H A O σ ρ) : EnvOk K H [] (O.map fun _ => []) σ (clr ρ) := ⟨h.sl.clr, nd_nil⟩
/-- one slot stored anew -/
theorem Slots.set : ∀ {σ : L2.St} {ρ : Env} {O : List (List Addr)} {x : Option V} {y : Option (Bool × D)} {r : List Addr} (i : Nat), Slot K H A x y r → Slots K H A σ ρ O → Slots K H A (σ.set i x) (ρ.set i y) (O.set i r)
  | _, _, _, _, _, _, _, _, .nil => .nil
  | _, _, _, _, _, _, 0, h, .cons _ q => .cons h q
  | _, _, _, _, _, _, i + 1, h, .cons g q => .cons g (Slots.set i h q)
theorem nd_set {O : List (List Addr)} (i : Nat) (h : ∀ (i j : Nat) (l m : List Addr) (a : Addr), O[i]? = some l → a ∈ l → O[j]? = some m → a ∈ m → i = j) :
    ∀ (j k : Nat) (l m : List Addr) (a : Addr), (O.set i [])[j]? = some l → a ∈ l → (O.set i [])[k]? = some m → a ∈ m → j = k := fun j k l m a e1 h1 e2 h2 => by
  rw [List.getElem?_set] at e1 e2
  split at e1
  · split at e1
    · cases e1; cases h1
    · cases e1
  · split at e2
    · split at e2
      · cases e2; cases h2
      · cases e2
    · exact h j k l m a e1 h1 e2 h2
theorem EnvOk.set {O : List (List Addr)} {σ : L2.St} {ρ : Env} {v : V} {d : D} (i : Nat) (h : EnvOk K H A O σ ρ) (r : Rp K H A v d) : EnvOk K H A (O.set i []) (σ.set i (some v)) (ρ.set i (some (false, d))) := ⟨h.sl.set i (.shared r), nd_set i h.nd⟩
theorem EnvOk.gone {O : List (List Addr)} {σ : L2.St} {ρ : Env} (x : Option V) (i : Nat) (h : EnvOk K H A O σ ρ) : EnvOk K H A (O.set i []) (σ.set i x) (ρ.set i none) := ⟨h.sl.set i .non, nd_set i h.nd⟩
/-- only what stands at B, where nothing is owned, has changed -/
theorem Slot.go {B : List Addr} (s : ∀ b ∈ B, b ∈ A) (hB : AOk H B) (e : But B H H') (w : ∀ p ∈ A', p ∈ A ∨ H p = none) {x : Option V} {y : Option (Bool × D)} {r : List Addr} (ho : ∀ a ∈ r, a ∉ B ∧ a ∈ A') : Slot K H A x y r → Slot K H' A' x y r
  | .non => .non
  | .shared h => .shared (h.go s hB e w)
  | .ownL m h r => .ownL (ho _ (by simp)).2 (e _ _ (ho _ (by simp)).1 h) (r.go s hB e w)
  | .ownD m h r q => .ownD (ho _ (by simp)).2 (e _ _ (ho _ (by simp)).1 h) (r.go s hB e w) q
  | .ownX m h k q r z => .ownX (ho _ (by simp)).2 (e _ _ (ho _ (by simp)).1 h) (k.go s hB e w) q (r.go s hB e w) z
  | .deepL m h d k => .deepL (ho _ (by simp)).2 (e _ _ (ho _ (by simp)).1 h) d (k.go s hB e w fun b hb => ho b (by simp [hb]))
  | .deepD m h z d k q => .deepD (ho _ (by simp)).2 (e _ _ (ho _ (by simp)).1 h) z d (k.go s hB e w fun b hb => ho b (by simp [hb])) q
theorem Slots.go {B : List Addr} (s : ∀ b ∈ B, b ∈ A) (hB : AOk H B) (e : But B H H') (w : ∀ p ∈ A', p ∈ A ∨ H p = none) : ∀ {σ : L2.St} {ρ : Env} {O : List (List Addr)}, (∀ a ∈ O.flatten, a ∉ B ∧ a ∈ A') → Slots K H A σ ρ O → Slots K H' A' σ ρ O
  | _, _, _, _, .nil => .nil
  | _, _, _, ho, .cons h r => .cons (h.go s hB e w fun a z => ho a (by simp [z])) (Slots.go s hB e w (fun a z => ho a (by
      rw [List.flatten_cons, List.mem_append]; exact .inr z)) r)
theorem EnvOk.go {B : List Addr} (s : ∀ b ∈ B, b ∈ A) (hB : AOk H B) (e : But B H H') (w : ∀ p ∈ A', p ∈ A ∨ H p = none) {O : List (List Addr)} {σ : L2.St} {ρ : Env} (ho : ∀ a ∈ O.flatten, a ∉ B ∧ a ∈ A') (h : EnvOk K H A O σ ρ) : EnvOk K H' A' O σ ρ := ⟨h.sl.go s hB e w ho, h.nd⟩
theorem Slots.inA : ∀ {σ : L2.St} {ρ : Env} {O : List (List Addr)}, Slots K H A σ ρ O → ∀ a ∈ O.flatten, a ∈ A
  | _, _, _, .nil, _, h => by simp at h
  | _, _, _, .cons g r, a, h => by
    rw [List.flatten_cons, List.mem_append] at h
    rcases h with h | h
    · exact g.inA a h
    · exact Slots.inA r a h
theorem Slots.isM : ∀ {σ : L2.St} {ρ : Env} {O : List (List Addr)}, Slots K H A σ ρ O → ∀ a ∈ O.flatten, ∃ o, H a = some o ∧ IsM o
  | _, _, _, .nil, _, h => by simp at h
  | _, _, _, .cons g r, a, h => by
    rw [List.flatten_cons, List.mem_append] at h
    rcases h with h | h
    · exact g.isM a h
    · exact Slots.isM r a h
theorem EnvOk.same {O : List (List Addr)} {σ : L2.St} {ρ : Env} (e : Same H H') (h : EnvOk K H A O σ ρ) : EnvOk K H' A O σ ρ := h.go (B := []) (by simp) AOk.nil (But.of_same e) (fun _ z => .inl z) fun a ha => ⟨by simp, h.sl.inA a ha⟩
theorem EnvOk.new {p : Addr} (n : H p = none) {O : List (List Addr)} {σ : L2.St} {ρ : Env} (h : EnvOk K H A O σ ρ) : EnvOk K H (p :: A) O σ ρ :=
  h.go (B := []) (by simp) AOk.nil But.refl (fun q z => by
    rcases List.mem_cons.mp z with rfl | z
    · exact .inr n
    · exact .inl z) fun a ha => ⟨by simp, List.mem_cons_of_mem _ (h.sl.inA a ha)⟩
end
end Pv

end
section
namespace Pv
open PySem PySem.Spec PyProof.Rows L2

/-! ### dicts with keys that are numbers or texts -/
def keyO : D → Option Key
  | .int i => some (.inl i)
  | .str s => some (.inr s)
  | _ => none
@[simp] theorem keyO_D (k : Key) : keyO (keyD k) = some k := by cases k <;> exact id rfl
def getE (es : List (D × D)) (k : Key) : Option D := (es.find? fun p => decide (keyO p.1 = some k)).map (·.2)
def putE (es : List (D × D)) (k : Key) (d : D) : List (D × D) :=
  if es.any (fun p => decide (keyO p.1 = some k)) then es.map (fun p => if keyO p.1 = some k then (p.1, d) else p) else es ++ [(keyD k, d)]
/-- the keys are tuples -/
def isX : List (D × D) → Bool
  | [] => false
  | p :: _ => (keyX p.1).isSome
def getX (es : List (D × D)) (k : NestedKey) : Option D := (es.find? fun p => decide (keyX p.1 = some k)).map (·.2)
def putX (es : List (D × D)) (kd : D) (k : NestedKey) (d : D) : List (D × D) :=
  if es.any (fun p => decide (keyX p.1 = some k)) then es.map (fun p => if keyX p.1 = some k then (p.1, d) else p) else es ++ [(kd, d)]
/-- k in d -/
def inE (k : D) (es : List (D × D)) : Option Bool := match keyO k with
  | some kk => if isX es then none else some (getE es kk).isSome
  | none => match keyX k with
    | some nk => if es.isEmpty || isX es then some (getX es nk).isSome else none
    | none => none
/-- d[k] -/
def atE (k : D) (es : List (D × D)) : Option D := match keyO k with
  | some kk => getE es kk
  | none => match keyX k with
    | some nk => getX es nk
    | none => none
/-- d[k] = v -/
def stE (k : D) (v : D) (es : List (D × D)) : Option (List (D × D)) := match keyO k with
  | some kk => if isX es then none else some (putE es kk v)
  | none => match keyX k with
    | some nk => if es.isEmpty || isX es then some (putX es k nk v) else none
    | none => none
theorem keyX_D (k : Key) : keyX (keyD k) = none := by cases k <;> exact id rfl
theorem keyO_X {d : D} {k : NestedKey} (h : keyX d = some k) : keyO d = none := by
  obtain ⟨_, _, ds, rfl⟩ := keyX_N h
  exact id rfl
section
variable {K : PySem.W.Frag} {H : Hp} {A : List Addr}
def zipE (kvs : List (Key × V)) (ds : List D) : List (D × D) := (kvs.map fun p => keyD p.1).zip ds
theorem get_zip {k : Key} : ∀ {kvs : List (Key × V)} {ds : List D}, RpL K H A (kvs.map (·.2)) ds → (∀ d, getE (zipE kvs ds) k = some d → ∃ v, valV kvs k = some v ∧ Rp K H A v d) ∧ (getE (zipE kvs ds) k = none → valV kvs k = none)
  | [], _, .nil => ⟨fun d h => by simp [getE, zipE] at h, fun _ => rfl⟩
  | p :: kvs, _, .cons (ds := ds) (d := e) h r => by
    obtain ⟨i1, i2⟩ := get_zip (k := k) r
    by_cases hk : p.1 = k
    · refine ⟨fun d hd => ⟨p.2, valV_pos hk, ?_⟩, fun hd => ?_⟩
      · have : getE (zipE (p :: kvs) (e :: ds)) k = some e := by simp [getE, zipE, hk]
        rw [this] at hd; cases hd; exact h
      · have : getE (zipE (p :: kvs) (e :: ds)) k = some e := by simp [getE, zipE, hk]
        rw [this] at hd; cases hd
    · have e1 : getE (zipE (p :: kvs) (e :: ds)) k = getE (zipE kvs ds) k := by simp [getE, zipE, hk]
      rw [e1, valV_neg hk]
      exact ⟨i1, i2⟩
theorem any_zip {k : Key} : ∀ {kvs : List (Key × V)} {ds : List D}, kvs.length = ds.length → (zipE kvs ds).any (fun p => decide (keyO p.1 = some k)) = kvs.any fun kv => decide (kv.1 = k)
  | [], [], _ => rfl
  | p :: kvs, d :: ds, h => by
    have ih := any_zip (k := k) (kvs := kvs) (ds := ds) (by simpa using h)
    show (decide (keyO (keyD p.1) = some k) || (zipE kvs ds).any _) = _
    rw [ih, keyO_D, List.any_cons]
    simp
  | [], _ :: _, h => by simp at h
  | _ :: _, [], h => by simp at h
theorem put_zip {k : Key} {v : V} {d : D} {kvs : List (Key × V)} {ds : List D} (h : RpL K H A (kvs.map (·.2)) ds) (hv : Rp K H A v d) : ∃ ds', RpL K H A ((putK kvs k v).map (·.2)) ds' ∧ putE (zipE kvs ds) k d = zipE (putK kvs k v) ds' := by
  have hl : kvs.length = ds.length := by have := h.length; simpa using this
  unfold putE putK
  rw [any_zip hl]
  by_cases ha : (kvs.any fun kv => decide (kv.1 = k)) = true
  · rw [if_pos ha, if_pos ha]
    have go : ∀ {kvs : List (Key × V)} {ds : List D}, RpL K H A (kvs.map (·.2)) ds → ∃ ds', RpL K H A ((kvs.map fun kv => if kv.1 = k then (kv.1, v) else kv).map (·.2)) ds' ∧ (zipE kvs ds).map (fun p => if keyO p.1 = some k then (p.1, d) else p) = zipE (kvs.map fun kv => if kv.1 = k then (kv.1, v) else kv) ds' := by
      intro kvs
      induction kvs with
      | nil => intro ds h; cases h; exact ⟨[], .nil, rfl⟩
      | cons p kvs ih =>
        intro ds h
        cases h with
        | @cons _ _ e ds h r =>
          obtain ⟨ds', r1, r2⟩ := ih r
          by_cases hk : p.1 = k
          · refine ⟨d :: ds', ?_, ?_⟩
            · simp only [List.map_cons, if_pos hk]; exact .cons hv r1
            · simp only [List.map_cons, zipE, List.zip_cons_cons, keyO_D] at r2 ⊢
              rw [if_pos (by rw [hk]), if_pos hk, r2]
          · refine ⟨e :: ds', ?_, ?_⟩
            · simp only [List.map_cons, if_neg hk]; exact .cons h r1
            · simp only [List.map_cons, zipE, List.zip_cons_cons, keyO_D] at r2 ⊢
              rw [if_neg (by simpa using hk), if_neg hk, r2]
    exact go h
  · rw [if_neg ha, if_neg ha]
    refine ⟨ds ++ [d], ?_, ?_⟩
    · rw [List.map_append]; exact h.append (.cons hv .nil)
    · unfold zipE
      rw [List.map_append, List.zip_append (by simpa using hl)]
      rfl
theorem isX_zip {kvs : List (Key × V)} {ds : List D} : isX (zipE kvs ds) = false := by
  cases kvs with
  | nil => exact id rfl
  | cons p kvs =>
    cases ds with
    | nil => exact id rfl
    | cons d ds =>
      show (keyX (keyD p.1)).isSome = false
      rw [keyX_D]; exact id rfl
theorem getX_zip {kvs : List (Key × V)} {ds : List D} (k : NestedKey) : getX (zipE kvs ds) k = none := by
  unfold getX
  rw [Option.map_eq_none_iff, List.find?_eq_none]
  intro p hp h
  have h := of_decide_eq_true h
  obtain ⟨q, hq, e⟩ := List.mem_map.mp (List.of_mem_zip (a := p.1) (b := p.2) hp).1
  rw [← e, keyX_D] at h
  cases h
def zipX (ks ds : List D) : List (D × D) := ks.zip ds
theorem isX_keys {xs : List XEnt} {ks ds : List D} (hk : ks.map keyX = xs.map (fun e => some e.1)) (hl : ks.length = ds.length) (hn : xs ≠ []) : isX (ks.zip ds) = true := by
  cases ks with
  | nil =>
    cases xs with
    | nil => exact absurd rfl hn
    | cons _ _ => cases hk
  | cons k ks =>
    cases ds with
    | nil => cases hl
    | cons d ds =>
      cases xs with
      | nil => cases hk
      | cons x xs =>
        rw [List.map_cons, List.map_cons] at hk
        have := (List.cons.inj hk).1
        show (keyX k).isSome = true
        rw [this]; exact id rfl
theorem getE_X {xs : List XEnt} {ks ds : List D} (hk : ks.map keyX = xs.map (fun e => some e.1)) (k : Key) : getE (ks.zip ds) k = none := by
  unfold getE
  rw [Option.map_eq_none_iff, List.find?_eq_none]
  intro p hp h
  have h := of_decide_eq_true h
  have hm := (List.of_mem_zip (a := p.1) (b := p.2) hp).1
  have h2 : keyX p.1 ∈ ks.map keyX := List.mem_map.mpr ⟨_, hm, rfl⟩
  rw [hk] at h2
  obtain ⟨e, _, h3⟩ := List.mem_map.mp h2
  rw [keyO_X h3.symm] at h
  cases h
/-- what stands at a key -/
def valX (xs : List XEnt) (k : NestedKey) : Option V := (xs.find? fun e => decide (e.1 = k)).map (·.2.2)
theorem get_zipX {k : NestedKey} : ∀ {xs : List XEnt} {ks ds : List D}, ks.map keyX = xs.map (fun e => some e.1) → RpL K H A (xs.map (·.2.2)) ds → (∀ d, getX (ks.zip ds) k = some d → ∃ v, valX xs k = some v ∧ Rp K H A v d) ∧ (getX (ks.zip ds) k = none → valX xs k = none)
  | [], [], _, _, .nil => ⟨fun d h => by simp [getX] at h, fun _ => rfl⟩
  | [], _ :: _, _, h, _ => by cases h
  | _ :: _, [], _, h, _ => by cases h
  | x :: xs, kd :: ks, _, hk, .cons (ds := ds) (d := e) h r => by
    rw [List.map_cons, List.map_cons] at hk
    obtain ⟨e1, e2⟩ := List.cons.inj hk
    obtain ⟨i1, i2⟩ := get_zipX (k := k) e2 r
    by_cases q : x.1 = k
    · have z : getX ((kd :: ks).zip (e :: ds)) k = some e := by simp [getX, e1, q]
      have z2 : valX (x :: xs) k = some x.2.2 := by simp [valX, q]
      rw [z, z2]
      exact ⟨fun d hd => ⟨_, rfl, by cases hd; exact h⟩, fun hd => by cases hd⟩
    · have z : getX ((kd :: ks).zip (e :: ds)) k = getX (ks.zip ds) k := by simp [getX, e1, q]
      have z2 : valX (x :: xs) k = valX xs k := by simp [valX, q]
      rw [z, z2]
      exact ⟨i1, i2⟩
end
end Pv

end
section
namespace Pv
open PySem PySem.Spec PyProof.Rows L2

/-! ### dicts whose keys are tuples: their objects -/
def XR (e : XEnt) (x : NestedKey × Addr × Value) : Prop := x.1 = e.1 ∧ x.2.1 = e.2.1 ∧ L2.RelV e.2.2 x.2.2
def putXE (es : List XEnt) (k : NestedKey) (b : Addr) (v : V) : List XEnt :=
  if es.any (fun e => decide (e.1 = k)) then es.map (fun e => if e.1 = k then (e.1, e.2.1, v) else e) else es ++ [(k, b, v)]
section
variable {X : Cx} {pins : List (Addr × Obj)} {σ : L2.St} {H : Hp} {s : Shared} {A : List Addr}
mutual
theorem nest_of (I : Inv X pins σ H s) : ∀ (d : D) (k : NestedKey) (v : V) (u : Value), keyN d = some k → Rp X.K H A v d → L2.RelV v u → NestedIs s.heap k u
  | .int i, k, v, u, e, h, r => by
    cases e
    cases h
    obtain ⟨t, rfl⟩ := r
    exact .int _ _
  | .tuple ds, k, v, u, e, h, r => by
    cases h with
    | @tup a xs _ ht hr =>
      cases r
      have e : (keyNs ds).map NestedKey.tup = some k := e
      obtain ⟨ks, e1, rfl⟩ := Option.map_eq_some_iff.mp e
      obtain ⟨its, rv, ⟨o, ho, hc, n, hd⟩, _⟩ := I.tuple ht.t
      exact .tup ho hc hd (nests_of I ds ks xs its e1 hr rv)
  | .none, _, _, _, e, _, _ => by cases e
  | .bool _, _, _, _, e, _, _ => by cases e
  | .str _, _, _, _, e, _, _ => by cases e
  | .list _, _, _, _, e, _, _ => by cases e
  | .dict _, _, _, _, e, _, _ => by cases e
theorem nests_of (I : Inv X pins σ H s) : ∀ (ds : List D) (ks : List NestedKey) (vs : List V) (us : List Value), keyNs ds = some ks → RpL X.K H A vs ds → L2.Vals vs us → NestedAll s.heap ks us
  | [], ks, vs, us, e, h, r => by
    cases e; cases h; cases r; exact .nil
  | d :: ds, ks, vs, us, e, h, r => by
    have e : (match keyN d, keyNs ds with | some k, some ks => some (k :: ks) | _, _ => none) = some ks := e
    cases h1 : keyN d with
    | none => simp [h1] at e
    | some k =>
      cases h2 : keyNs ds with
      | none => simp [h1, h2] at e
      | some r2 =>
        simp only [h1, h2] at e
        cases e
        cases h with
        | cons h hs =>
          cases r with
          | cons r rs => exact .cons (nest_of I d k _ _ h1 h r) (nests_of I ds r2 _ _ h2 hs rs)
end
theorem nest_key (I : Inv X pins σ H s) {d : D} {k : NestedKey} {b : Addr} (e : keyX d = some k) (h : Rp X.K H A (.ref b) d) : (nestedKind X.prog X.w).is s.heap k b :=
  ⟨nest_of I d k _ _ (keyX_N e).1 h rfl, (keyX_N e).2.1⟩
theorem hash_eq {d : D} {k : NestedKey} (w : World) (e : keyX d = some k) : NestedKey.hash w k = hN k := hN_eq w d k (keyX_N e).1
theorem dx_ents (I : Inv X pins σ H s) : ∀ {es : List XEnt} {ks : List D} {ts : List DictEntry}, RpL X.K H A (es.map fun e => V.ref e.2.1) ks → ks.map keyX = es.map (fun e => some e.1) → Paired XRel es ts →
    ∃ xs, Paired XR es xs ∧ ts = xs.map (entryOfKey (nestedKind X.prog X.w)) ∧ ∀ x ∈ xs, (nestedKind X.prog X.w).is s.heap x.1 x.2.1
  | [], _, _, _, _, .nil => ⟨[], .nil, rfl, by simp⟩
  | e :: es, k :: ks, _, .cons hk hks, he, .cons (b := t) (l₂ := ts) h1 h2 => by
    rw [List.map_cons, List.map_cons] at he
    obtain ⟨e1, e2⟩ := List.cons.inj he
    obtain ⟨xs, p1, p2, p3⟩ := dx_ents I hks e2 h2
    obtain ⟨q1, q2, q3⟩ := h1
    refine ⟨(e.1, e.2.1, t.val) :: xs, .cons ⟨rfl, rfl, q3⟩ p1, ?_, fun x hx => ?_⟩
    · rw [List.map_cons, ← p2]
      congr 1
      obtain ⟨th, tk, tv⟩ := t
      simp only at q1 q2
      subst q1 q2
      show _ = (⟨(nestedKind X.prog X.w).hash e.1, .ref e.2.1, tv⟩ : DictEntry)
      have : (nestedKind X.prog X.w).hash e.1 = hN e.1 := hash_eq X.w e1
      rw [this]
    · rcases List.mem_cons.mp hx with rfl | hx
      · exact nest_key I e1 hk
      · exact p3 x hx
theorem xr_keys : ∀ {es : List XEnt} {xs : List (NestedKey × Addr × Value)}, Paired XR es xs → xs.map (·.1) = es.map (·.1)
  | _, _, .nil => rfl
  | _, _, .cons h r => by rw [List.map_cons, List.map_cons, h.1, xr_keys r]
theorem dx_get (I : Inv X pins σ H s) {a : Addr} {es : List XEnt} {ks : List D} (h : Rd H a (DXo a es)) (hk : RpL X.K H A (es.map fun e => V.ref e.2.1) ks) (hkk : ks.map keyX = es.map (fun e => some e.1)) :
    ∃ xs, Paired XR es xs ∧ s.heap.DictOfH (nestedKind X.prog X.w) a xs ∧ (a == sysModules) = false ∧ es.length ≤ sizeLine := by
  obtain ⟨⟨z, y, nd, o, ents, ep, ho, hx, hd, hp⟩, _, _⟩ := (h.ok I.hok : ObjOk X.prog X.w H s.heap a (DXo a es))
  obtain ⟨xs, p1, p2, p3⟩ := dx_ents I hk hkk hp
  exact ⟨xs, p1, ⟨o, ents, ep, ho, hx, hd, p2, p3, by rw [xr_keys p1]; exact nd⟩, y, z⟩
/-- the empty dict is one of these, too -/
theorem dx_empty (I : Inv X pins σ H s) {a : Addr} (h : Rd H a (.dK [])) : s.heap.DictOfH (nestedKind X.prog X.w) a [] ∧ (a == sysModules) = false := by
  obtain ⟨_, y, vs, kv, o, es, ep, ho, hx, hd, _, hp, _⟩ := dk_rd I.hok h
  cases kv
  generalize hl : es.toList = l at hp
  cases hp
  exact ⟨⟨o, es, ep, ho, hx, hd, by rw [hl]; rfl, by simp, List.nodup_nil⟩, y⟩
theorem atKey_valX {k : NestedKey} : ∀ {es : List XEnt} {xs : List (NestedKey × Addr × Value)}, Paired XR es xs → L2.RelO (valX es k) ((atKey xs k).map (·.2))
  | _, _, .nil => trivial
  | _, _, .cons (a := e) (b := x) (l₁ := es) (l₂ := xs) h r => by
    have ih := atKey_valX (k := k) r
    by_cases q : e.1 = k
    · have z1 : valX (e :: es) k = some e.2.2 := by simp [valX, q]
      have z2 : atKey (x :: xs) k = some x.2 := by simp [atKey, h.1, q]
      rw [z1, z2]
      exact h.2.2
    · have z1 : valX (e :: es) k = valX es k := by simp [valX, q]
      have z2 : atKey (x :: xs) k = atKey xs k := by simp [atKey, h.1, q]
      rw [z1, z2]
      exact ih
theorem relO_some {x : Option V} {y : Option Value} (h : L2.RelO x y) : x.isSome = y.isSome := by
  cases x <;> cases y <;> first | rfl | exact h.elim
theorem xr_any {k : NestedKey} : ∀ {es : List XEnt} {xs : List (NestedKey × Addr × Value)}, Paired XR es xs → es.any (fun e => decide (e.1 = k)) = (atKey xs k).isSome
  | _, _, .nil => rfl
  | _, _, .cons (a := e) (b := x) (l₁ := es) (l₂ := xs) h r => by
    have ih := xr_any (k := k) r
    rw [List.any_cons, ih]
    by_cases q : e.1 = k
    · have z2 : atKey (x :: xs) k = some x.2 := by simp [atKey, h.1, q]
      rw [z2]; simp [q]
    · have z2 : atKey (x :: xs) k = atKey xs k := by simp [atKey, h.1, q]
      rw [z2]; simp [q]
theorem xr_put {k : NestedKey} {b : Addr} {v : V} {u : Value} (ru : L2.RelV v u) {es : List XEnt} {xs : List (NestedKey × Addr × Value)} (h : Paired XR es xs) : Paired XR (putXE es k b v) (storedH xs k b u) := by
  unfold putXE storedH
  rw [xr_any h]
  by_cases q : (atKey xs k).isSome = true
  · rw [if_pos q, if_pos q]
    clear q
    induction h with
    | nil => exact .nil
    | @cons e x es xs h r ih =>
      rw [List.map_cons, List.map_cons]
      refine .cons ?_ ih
      by_cases z : e.1 = k
      · rw [if_pos z, putAt, if_pos (h.1.trans z)]
        exact ⟨h.1, h.2.1, ru⟩
      · rw [if_neg z, putAt, if_neg (by rw [h.1]; exact z)]
        exact h
  · rw [if_neg q, if_neg q]
    exact Paired.snoc h ⟨rfl, rfl, ru⟩
theorem dx_new {P : Program} {w : World} {H' : Hp} {h' : Heap} {a : Addr} {es : List XEnt} {xs : List (NestedKey × Addr × Value)} (p : Paired XR es xs) (d : h'.DictOfH (nestedKind P w) a xs) (y : (a == sysModules) = false) (z : es.length ≤ sizeLine) (hh : ∀ e ∈ es, NestedKey.hash w e.1 = hN e.1) :
    ObjOk P w H' h' a (DXo a es) := by
  obtain ⟨o, ents, ep, ho, hx, hd, he, _, nd⟩ := d
  rw [xr_keys p] at nd
  have go : ∀ {es : List XEnt} {xs : List (NestedKey × Addr × Value)}, Paired XR es xs → (∀ e ∈ es, NestedKey.hash w e.1 = hN e.1) → Paired XRel es (xs.map (entryOfKey (nestedKind P w))) := by
    intro es xs p
    induction p with
    | nil => intro _; exact .nil
    | @cons e x es xs h r ih =>
      intro hh
      rw [List.map_cons]
      refine .cons ⟨?_, ?_, h.2.2⟩ (ih fun e he => hh e (by simp [he]))
      · show NestedKey.hash w x.1 = _
        rw [h.1]; exact hh e (by simp)
      · show Value.ref x.2.1 = _
        rw [h.2.1]
  refine ⟨⟨z, y, nd, o, ents, ep, ho, hx, hd, by rw [he]; exact go p hh⟩, ⟨o, ho⟩, fun h1 h2 q k => ?_⟩
  obtain ⟨z, y, nd, o, ents, ep, ho, r⟩ := q
  exact ⟨z, y, nd, o, ents, ep, k _ ho, r⟩
theorem putXE_len (es : List XEnt) (k : NestedKey) (b : Addr) (v : V) : (putXE es k b v).length ≤ es.length + 1 := by
  unfold putXE
  split <;> simp
theorem putXE_mem {es : List XEnt} {k : NestedKey} {b : Addr} {v : V} {e : XEnt} (h : e ∈ putXE es k b v) : (∃ e' ∈ es, e.1 = e'.1) ∨ e.1 = k := by
  unfold putXE at h
  split at h
  · obtain ⟨e', h1, rfl⟩ := List.mem_map.mp h
    refine .inl ⟨e', h1, ?_⟩
    split <;> rfl
  · rcases List.mem_append.mp h with h | h
    · exact .inl ⟨e, h, rfl⟩
    · have : e = (k, b, v) := by simpa using h
      subst this
      exact .inr rfl
/-- a store -/
theorem dx_store (hu : X.A.units + 9 < cLine) (I : Inv X pins σ H s) {a b : Addr} {es : List XEnt} {ks : List D} {kd : D} {k : NestedKey} {v : V} {u : Value} {Q : Unit → Shared → Prop} {E : Value → Shared → Prop}
    (h : H a = some (DXo a es) ∨ (es = [] ∧ H a = some (.dK []))) (hk : RpL X.K H A (es.map fun e => V.ref e.2.1) ks) (hkk : ks.map keyX = es.map (fun e => some e.1)) (hb : Rp X.K H A (.ref b) kd) (hkd : keyX kd = some k) (ru : L2.RelV v u) (hz : es.length < sizeLine)
    (q : ∀ s', Inv X pins σ (upd H a (DXo a (putXE es k b v))) s' → Q () s') : wpAny (model X.prog X.w) X.A (setItem (.ref a) (.ref b) u) Q E s := by
  have hm : Mut (H a) := by
    rcases h with h | ⟨_, h⟩ <;> rw [h] <;> exact trivial
  obtain ⟨xs, p, d, y⟩ : ∃ xs, Paired XR es xs ∧ s.heap.DictOfH (nestedKind X.prog X.w) a xs ∧ (a == sysModules) = false := by
    rcases h with h | ⟨rfl, h⟩
    · obtain ⟨xs, p, d, y, _⟩ := dx_get I (.inl h) hk hkk
      exact ⟨xs, p, d, y⟩
    · obtain ⟨d, y⟩ := dx_empty I (.inl h)
      exact ⟨[], .nil, d, y⟩
  have hl : es.length = xs.length := Paired.length p
  refine wpAny_setItem_heap (knd := nestedKind X.prog X.w) (show X.A.in1.units + 8 < cLine by simp only [Around.in1_units]; omega) (nest_key I hkd hb) d (fun h' d' hs => ?_) (by omega)
  have hh : ∀ e ∈ putXE es k b v, NestedKey.hash X.w e.1 = hN e.1 := fun e he => by
    rcases putXE_mem he with ⟨e', h1, h2⟩ | h1
    · rw [h2]
      have h3 : some e'.1 ∈ ks.map keyX := by rw [hkk]; exact List.mem_map.mpr ⟨e', h1, rfl⟩
      obtain ⟨kd', _, h4⟩ := List.mem_map.mp h3
      exact hash_eq X.w h4
    · rw [h1]; exact hash_eq X.w hkd
  have hz' := putXE_len es k b v
  exact q _ (I.write hm (.inl rfl) (fun b u hb hu => (hs.2 b hb).trans hu) (by obtain ⟨o, _, _, ho, _⟩ := d'; exact ⟨o, ho⟩) (dx_new (xr_put ru p) d' y (by omega) hh))
theorem dx_in (hu : X.A.units + 9 < cLine) (I : Inv X pins σ H s) {a b : Addr} {es : List XEnt} {ks : List D} {kd : D} {k : NestedKey} {Q : Value → Shared → Prop} {E : Value → Shared → Prop}
    (h : Rd H a (DXo a es) ∨ (es = [] ∧ Rd H a (.dK []))) (hk : RpL X.K H A (es.map fun e => V.ref e.2.1) ks) (hkk : ks.map keyX = es.map (fun e => some e.1)) (hb : Rp X.K H A (.ref b) kd) (hkd : keyX kd = some k) :
    ((∀ s', Inv X pins σ H s' → Q (.bool (valX es k).isSome) s') → wpAny (model X.prog X.w) X.A (compareOp .In (.ref b) (.ref a)) Q E s) ∧ ((∀ s', Inv X pins σ H s' → Q (.bool (!(valX es k).isSome)) s') → wpAny (model X.prog X.w) X.A (compareOp .NotIn (.ref b) (.ref a)) Q E s) := by
  obtain ⟨xs, p, d, y⟩ : ∃ xs, Paired XR es xs ∧ s.heap.DictOfH (nestedKind X.prog X.w) a xs ∧ (a == sysModules) = false := by
    rcases h with h | ⟨rfl, h⟩
    · obtain ⟨xs, p, d, y, _⟩ := dx_get I h hk hkk
      exact ⟨xs, p, d, y⟩
    · obtain ⟨d, y⟩ := dx_empty I h
      exact ⟨[], .nil, d, y⟩
  have e := relO_some (atKey_valX (k := k) p)
  rw [Option.isSome_map] at e
  have hr : (nestedKind X.prog X.w).room X.A.in1 := show X.A.in1.units + 8 < cLine by simp only [Around.in1_units]; omega
  rw [e]
  exact ⟨fun q => wpAny_in_heap hr (nest_key I hkd hb) y d (q _ (I.tok _)), fun q => show wpAny _ _ (do return .bool (!(← contains (.ref a) (.ref b)))) Q E s from wpAny_bind (wpAny_contains_heap hr (nest_key I hkd hb) y d (wpAny_pure (q _ (I.tok _))))⟩
theorem dx_at (hu : X.A.units + 9 < cLine) (I : Inv X pins σ H s) {a b : Addr} {es : List XEnt} {ks : List D} {kd : D} {k : NestedKey} {v : V} {Q : Value → Shared → Prop} {E : Value → Shared → Prop}
    (h : Rd H a (DXo a es)) (hk : RpL X.K H A (es.map fun e => V.ref e.2.1) ks) (hkk : ks.map keyX = es.map (fun e => some e.1)) (hb : Rp X.K H A (.ref b) kd) (hkd : keyX kd = some k) (hv : valX es k = some v)
    (q : ∀ s' u, Inv X pins σ H s' → L2.RelV v u → Q u s') : wpAny (model X.prog X.w) X.A (getItem (.ref a) (.ref b)) Q E s := by
  obtain ⟨xs, p, d, y, _⟩ := dx_get I h hk hkk
  have e := atKey_valX (k := k) p
  rw [hv] at e
  cases hx : atKey xs k with
  | none => rw [hx] at e; exact e.elim
  | some x =>
    rw [hx] at e
    exact wpAny_getItem_heap (knd := nestedKind X.prog X.w) (show X.A.in1.units + 8 < cLine by simp only [Around.in1_units]; omega) (nest_key I hkd hb) d hx (q _ _ (I.tok _) e)
end
end Pv

end
section
namespace Pv
open PySem PySem.Spec PyProof.Rows L2

/-! ### tuples that are known to the object -/
def Kt (Q : VK) (H : Hp) (ys : List V) : Prop := ∀ (p : Addr) (o : Obj), H p = none → o.dict = none → Q (.ref p) (upd H p (.frz o (.tup ys)))
theorem fin_tup {X : Cx} {pins : List (Addr × Obj)} {s : Shared} {σ : L2.St} {H : Hp} {Q : VK} {a : Addr} {h' : Heap} {tk n : Nat} {ys : List V} {its : Array Value} (I : Inv X pins σ H s) (hp : s.heap.objs.size ≤ a) (k : ∀ b u, s.heap.get? b = some u → h'.get? b = some u)
    (e : h'.get? a = some { cls := .type "tuple", data := .seq its n }) (hz : ys.length ≤ sizeLine) (r : Vals ys its.toList) (q : Kt Q H ys) : EP X pins σ Q (.ref a) { s with heap := h', toks := tk } :=
  ⟨.ref a, _, I.laid (t' := tk) (o := .frz { cls := .type "tuple", data := .seq its n } (.tup ys)) k hp ⟨e, hz, its.toList, r, by rw [Array.toArray_toList]; exact ⟨_, e, rfl, _, rfl⟩⟩, rfl, q a _ (I.hok.fresh hp) rfl⟩
section
variable {X : Cx}
def tTupE (t : TA) : TE := fun σ H Q => t σ H fun xs H1 => xs.length ≤ sizeLine ∧ Kt Q H1 xs
theorem pe_tupE {es : List Expr} {t : TA} {k : Nat} {pos : Pos} (h : PA X es t) : PE X (.Tuple es k pos) (tTupE t) := by
  refine ⟨fun pins s σ H Q I hq => ?_⟩
  refine wpAny_Tuple_spliced (thn (h.run pos pins s σ H _ I hq) fun us s1 ⟨xs, H1, I1, r, z, q⟩ => ⟨by rw [← r.length]; exact z, ?_⟩)
  exact fin_tup (tk := s1.toks) (its := us.toArray) I1 (Nat.le_refl _) (fun b u e => Heap.get?_push_of_some _ e) (Heap.get?_push_size _ rfl) z (by simpa using r) q
def rCatE (K : PySem.W.Frag) : R2 := fun x y H Q => ∃ a b xs ys, x = .ref a ∧ y = .ref b ∧ SqT K H a xs ∧ SqT K H b ys ∧ xs.length + ys.length ≤ sizeLine ∧
  (xs = [] → Q (.ref b) H) ∧ (xs ≠ [] → ys = [] → Q (.ref a) H) ∧ (xs ≠ [] → ys ≠ [] → Kt Q H (xs ++ ys))
theorem op_catE : OpR X (binaryOp .Add) (rCatE X.K) := by
  intro pins s σ H x y v u Q I rx ry h
  obtain ⟨a, b, xs, ys, rfl, rfl, ha, hb, hz, q0, q1, q2⟩ := h
  by_cases hx : xs = []
  · exact op_catA pins s σ H _ _ v u Q I rx ry ⟨a, b, xs, ys, rfl, rfl, ha, hb, hz, q0, q1, fun z => absurd hx z⟩
  · cases rx
    cases ry
    obtain ⟨its, r1, p1, _⟩ := I.tuple ha
    obtain ⟨its2, r2, p2, _⟩ := I.tuple hb
    refine HT.cat_tup p1 p2 (fun z => hx (r1.nil_iff.mp z)) (fun z => ⟨.ref a, H, I, rfl, q1 hx (r2.nil_iff.mp z)⟩) (fun z => ?_) (by rw [← r1.length, ← r2.length]; exact hz)
    exact fin_tup (tk := s.toks) I (Nat.le_refl _) (fun b ob q => Heap.get?_push_of_some _ q) (Heap.get?_push_size _ rfl) (by rw [List.length_append]; exact hz) (by simpa using r1.append r2) (q2 hx fun w => z (r2.nil_iff.mpr w))
def rSlE (K : PySem.W.Frag) : V → Option Int → Option Int → Hp → VK → Prop := fun x lo hi H Q => ∃ a xs, x = .ref a ∧ SqT K H a xs ∧
  (HT.sIx xs.length 0 lo = 0 ∧ HT.sIx xs.length xs.length hi = xs.length → Q (.ref a) H) ∧ (¬ (HT.sIx xs.length 0 lo = 0 ∧ HT.sIx xs.length xs.length hi = xs.length) → Kt Q H (cutV xs lo hi))
theorem sl_tupE : SlR X (rSlE X.K) := by
  intro pins s σ H x v vl vu lo hi sl Q I rx hs pl pu h
  obtain ⟨a, xs, rfl, hx, q1, q2⟩ := h
  by_cases hw : HT.sIx xs.length 0 lo = 0 ∧ HT.sIx xs.length xs.length hi = xs.length
  · exact sl_tupA pins s σ H _ v vl vu lo hi sl Q I rx hs pl pu ⟨a, xs, rfl, hx, q1, fun z => absurd hw z⟩
  · cases rx
    obtain ⟨its, r, ht, hz⟩ := I.tuple hx
    have hlen : its.toArray.size = xs.length := by rw [List.size_toArray]; exact r.length.symm
    refine ⟨"tuple", _, PyProof.Rows.slot_tuple_getitem.lookup, ht.typeIs, ?_⟩
    refine HT.getItem_tuple_cut ht hs pl pu (by rw [hlen]; exact hw) ?_ (by rw [hlen]; exact hz)
    rw [hlen]
    exact fin_tup (tk := s.toks) I (Nat.le_refl _) (fun b ob q => Heap.get?_push_of_some _ q) (Heap.get?_push_size _ rfl) (Nat.le_trans (cutV_length xs lo hi) hz) (by simpa [cutV] using (r.drop (HT.sIx xs.length 0 lo)).take (HT.sIx xs.length xs.length hi - HT.sIx xs.length 0 lo)) (q2 hw)
theorem call_tuple_ofE : CallR X (.type "tuple") (fun xs H Q => ∃ p ys, xs = [.ref p] ∧ ((SqL X.K H p ys ∧ Kt Q H ys) ∨ (SqT X.K H p ys ∧ Q (.ref p) H))) := by
  intro pins s σ H xs us Q I r h
  obtain ⟨p, ys, rfl, h⟩ := h
  rcases h with ⟨hq, q⟩ | ⟨hq, q⟩
  · obtain ⟨u, rfl, rx⟩ := vals1 r
    cases rx
    obtain ⟨its, r', pl, hz⟩ := I.list hq
    have hlen := r'.length
    refine call_tuple_list pl.isList (fun h' kp => ?_) (by simp only [List.size_toArray] <;> omega)
    have I1 : Inv X pins σ H { s with heap := h' } := I.kept (t' := s.toks) kp
    exact fin_tup (s := { s with heap := h' }) (tk := s.toks) I1 (Nat.le_refl _) (fun b o e => Heap.get?_push_of_some _ e) (Heap.get?_push_size _ rfl) hz (by simpa using r') q
  · exact call_tuple_of pins s σ H _ us Q I r ⟨p, ys, rfl, .inr ⟨hq, q⟩⟩
def tTupRgE (te : L2.St → Hp → (Int → Int → Hp → Prop) → Prop) : TE := fun σ H Q => te σ H fun a b H1 => RgOk a b ∧ Kt Q H1 (rgV a b)
theorem pe_tupRgE {e : Expr} {te : L2.St → Hp → (Int → Int → Hp → Prop) → Prop} {p pos : Pos} (hc : X.calm = true) (hg : Gl X "tuple") (hm : X.mg "tuple" = none) (he : PRg X e te) (na : starEach [e] X.env = (false, eval e X.env) :: starEach [] X.env := by rfl) : PE X (.Call (.Name "tuple" p) [e] [] pos) (tTupRgE te) := by
  refine ⟨fun pins s σ H Q I h => ?_⟩
  refine Call_ (ld_blt I hg hm boot_tuple (PyProof.Rows.callWith_type1 (args_cons (thn (he pins s σ H _ I h) fun x s1 ⟨r, a, b, t, u, v, H1, ex, hr, I1, ok, q⟩ => args_nil ?_) na) na))
  subst ex
  obtain ⟨b1, b2, b3, b4, b5⟩ := ok
  refine call_tuple_range (n := (b - a).toNat) (I1.ok.hd hc) hr (small_one b1 b2 b3 b4) (rangeSize_nat a b) b5 fun h' tk acc hk hi => ?_
  have I2 : Inv X pins σ H1 { s1 with heap := h', toks := tk } := I1.kept hk
  exact fin_tup (s := { s1 with heap := h', toks := tk }) (tk := tk) I2 (Nat.le_refl _) (fun c o e => Heap.get?_push_of_some _ e) (Heap.get?_push_size _ rfl) (by rw [rgV_length, sizeLine_eq]; omega) (vals_rg hi) q
end
end Pv

end
section
namespace Pv
open PySem PySem.Spec PyProof.Rows L2

/-! ### operations on data -/
def sm (n : Nat) : Bool := decide (n ≤ 1000000)
def i64 (i : Int) : Bool := decide (-(2 ^ 64) < i) && decide (i < 2 ^ 64)
def binop : Operator → D → D → Option D
  | .Add, .int i, .int j => some (.int (i + j))
  | .Add, .str x, .str y => if sm (x.length + y.length) then some (.str (x ++ y)) else none
  | .Add, .list xs, .list ys => if sm (xs.length + ys.length) then some (.list (xs ++ ys)) else none
  | .Add, .tuple xs, .tuple ys => if sm (xs.length + ys.length) then some (.tuple (xs ++ ys)) else none
  | .Sub, .int i, .int j => some (.int (i - j))
  | .Mult, .int i, .int j => if i64 i || i64 j then some (.int (i * j)) else none
  | .Mult, .list xs, .int k => if decide (0 ≤ k) && decide (k ≤ 1000) && decide (xs.length ≤ 1000) then some (.list (List.replicate k.toNat xs).flatten) else none
  | .FloorDiv, .int i, .int j => if decide (0 < j) && decide (j < 1073741824) then some (.int (i / j)) else none
  | .Mod, .int i, .int j => if 0 < j then some (.int (i % j)) else none
  | .Pow, .int i, .int j => if decide (0 ≤ j) && decide (j ≤ 1000000) && i64 i then some (.int (i ^ j.toNat)) else none
  | .LShift, .int i, .int j => if decide (0 ≤ j) && decide (j ≤ 1000000) && i64 i then some (.int (i * 2 ^ j.toNat)) else none
  | .RShift, .int i, .int j => if 0 ≤ j then some (.int (i / 2 ^ j.toNat)) else none
  | .BitAnd, .int i, .int j => some (.int (Builtin.bitAnd i j))
  | .BitOr, .int i, .int j => some (.int (Builtin.bitOr i j))
  | .BitXor, .int i, .int j => some (.int (Builtin.bitXor i j))
  | _, _, _ => none
def unop : UnaryOp → D → Option D
  | .USub, .int i => some (.int (-i))
  | .Invert, .int i => some (.int (Builtin.bitNot i))
  | _, _ => none
/-- flat data: what == and in tell apart without looking in -/
def inD (d : D) (ds : List D) : Bool := ds.any fun e => PyData.eqv e d
def okD (d : D) : Bool := d.plain && decide (d.depth ≤ 60)
def isN : D → Bool
  | .none => true
  | _ => false
def cmpop : CmpOp → D → D → Option Bool
  | .Lt, .int i, .int j => some (decide (i < j))
  | .Lt, .tuple xs, .tuple ys => if okD (.tuple xs) && okD (.tuple ys) && PySem.W.alike (.tuple xs) (.tuple ys) then some (PySem.W.dataLt (.tuple xs) (.tuple ys)) else none
  | .LtE, .int i, .int j => some (decide (i ≤ j))
  | .LtE, .str i, .str j => some (!decide (j.cps.toList < i.cps.toList))
  | .Gt, .int i, .int j => some (decide (j < i))
  | .GtE, .int i, .int j => some (decide (j ≤ i))
  | .Eq, .int i, .int j => some (i == j)
  | .NotEq, .int i, .int j => some (!(i == j))
  | .Eq, .str i, .str j => some (i == j)
  | .NotEq, .str i, .str j => some (!(i == j))
  | .Eq, d, e => if okD d && okD e then some (PyData.eqv d e) else none
  | .NotEq, d, e => if okD d && okD e then some (!PyData.eqv d e) else none
  | .Is, .bool a, .bool b => some (decide (a = b))
  | .IsNot, .bool a, .bool b => some (!decide (a = b))
  | .Is, d, .none => some (isN d)
  | .IsNot, d, .none => some (!isN d)
  | .In, d, .list ds => if okD d && okD (.list ds) then some (inD d ds) else none
  | .NotIn, d, .list ds => if okD d && okD (.list ds) then some (!inD d ds) else none
  | .In, d, .tuple ds => if okD d && okD (.tuple ds) then some (inD d ds) else none
  | .NotIn, d, .tuple ds => if okD d && okD (.tuple ds) then some (!inD d ds) else none
  | .In, d, .dict es => inE d es
  | .NotIn, d, .dict es => (inE d es).map (!·)
  | .In, .str c, .str z => if c.length == 1 then some (decide (c.cps.toList.headD 0 ∈ z.cps.toList)) else none
  | .NotIn, .str c, .str z => if c.length == 1 then some (!decide (c.cps.toList.headD 0 ∈ z.cps.toList)) else none
  | _, _, _ => none

theorem sm_le {n : Nat} (h : sm n = true) : n ≤ sizeLine := by
  have h' : n ≤ 1000000 := of_decide_eq_true h
  rw [sizeLine_eq]; omega
theorem i64_lt {i : Int} (h : i64 i = true) : -(2 ^ 64) < i ∧ i < 2 ^ 64 := by
  unfold i64 at h
  rw [Bool.and_eq_true] at h
  exact ⟨of_decide_eq_true h.1, of_decide_eq_true h.2⟩
theorem i64_nat {i : Int} (h : i64 i = true) : i.natAbs < 2 ^ 64 := by
  have := i64_lt h
  omega

section
variable {X : Cx} {A : List Addr}
abbrev Wish := V → Hp → Prop
/-- the answer of an operation, by data -/
def rOp (K : PySem.W.Frag) (A : List Addr) (f : D → D → Option D) : R2 := fun x y H Q => AOk H A ∧ ∃ d e r, Rp K H A x d ∧ Rp K H A y e ∧ f d e = some r ∧ ∀ v H', Same H H' → Rp K H' A v r → Q v H'
def rUn (K : PySem.W.Frag) (A : List Addr) (f : D → Option D) : V → Hp → VK → Prop := fun x H Q => AOk H A ∧ ∃ d r, Rp K H A x d ∧ f d = some r ∧ ∀ v H', Same H H' → Rp K H' A v r → Q v H'

/-! list + list, list * k where the list may be one of the module's own -/
theorem list_add_any (l : Addr) (items : Array Value) (n : Nat) (b : Addr) (items2 : Array Value) (n2 : Nat) (sl sl2 : Array (Option Value)) (hc0 : items.size + items2.size ≤ sizeLine) :
    Meets (Builtin.«list.__add__» ⟨[.ref l, .ref b], []⟩) (fun _ R s => s.heap.get? l = some { cls := .type "list", dict := none, data := .seq items n, slots := sl } ∧ s.heap.get? b = some { cls := .type "list", dict := none, data := .seq items2 n2, slots := sl2 } ∧ R (.ok (.ret (Value.ref s.heap.objs.size))) { s with heap := s.heap.push { cls := Value.type "list", data := Data.seq (items ++ items2) }, toks := s.toks }) :=
  .of_wp fun prog w A R s h => by obtain ⟨hp, g, d, tk, os⟩ := s; obtain ⟨hl, hb, h⟩ := h; have f1 := AutoSeq1.idx_int; have f2 := AutoSeq1.sub_tuple_tuple; have f3 := AutoSeq1.sub_list_list; have f4 := AutoSeq1.sub_tuple_list; have f5 := AutoSeq1.sub_list_tuple; wp_walk using AutoSeq1.wpAny_loadPart' hl, AutoSeq1.wpAny_loadPart' hb; exact ⟨_, rfl, h⟩
end
end Pv

end
section
namespace Pv
open PySem PySem.Spec PyProof.Rows L2

theorem ite_some {c : Prop} [Decidable c] {α : Type} {a r : α} (h : (if c then some a else none) = some r) : c ∧ a = r := by
  by_cases hc : c
  · rw [if_pos hc] at h; exact ⟨hc, Option.some.inj h⟩
  · rw [if_neg hc] at h; cases h
theorem and2 {a b : Bool} (h : (a && b) = true) : a = true ∧ b = true := by rwa [Bool.and_eq_true] at h
theorem and3 {a b c : Bool} (h : (a && b && c) = true) : a = true ∧ b = true ∧ c = true := by
  rw [Bool.and_eq_true, Bool.and_eq_true] at h; exact ⟨h.1.1, h.1.2, h.2⟩

theorem list_mul_any (l : Addr) (items : Array Value) (n : Nat) (x : Int) (u : Tok) (sl : Array (Option Value)) (hc0 : ¬(!Builtin.List.listFitsIndex x) = true) (hc1 : ¬items.size * x.toNat > (2 ^ 63 - 1) / 8) (hc2 : ¬Builtin.List.listTooLong (items.size * x.toNat) = true)
    (hsz : (List.foldl (fun x1 x2 => x1 ++ x2) #[] (List.replicate (if items.isEmpty = true then 0 else x.toNat) items)).size ≤ sizeLine) :
    Meets (Builtin.«list.__mul__» ⟨[.ref l, .int x u], []⟩) (fun _ R s => s.heap.get? l = some { cls := .type "list", dict := none, data := .seq items n, slots := sl } ∧ R (.ok (.ret (Value.ref s.heap.objs.size))) { s with heap := s.heap.push { cls := Value.type "list", data := Data.seq (List.foldl (fun x1 x2 => x1 ++ x2) #[] (List.replicate (if items.isEmpty = true then 0 else x.toNat) items)) }, toks := s.toks }) :=
  .of_wp fun prog w A R s h => by
    obtain ⟨hp, g, d, tk, os⟩ := s; obtain ⟨hl, h⟩ := h
    have f1 := AutoSeq1.idx_int
    wp_walk using AutoSeq1.wpAny_loadPart' hl; refine wpAny_ite_false (decide_eq_false (Nat.not_lt.mpr hsz)) ?_; wp_walk using AutoSeq1.wpAny_loadPart' hl; exact ⟨_, rfl, h⟩
theorem int_rmul_list_any (a : Int) (t : Tok) (l : Addr) (items : Array Value) (n : Nat) (sl : Array (Option Value)) :
    Meets (Builtin.«int.__rmul__» ⟨[.int a t, .ref l], []⟩) (fun _ R s => s.heap.get? l = some { cls := .type "list", dict := none, data := .seq items n, slots := sl } ∧ R (.ok (.ret Value.notImplemented)) s) :=
  .of_wp fun prog w A R s h => by obtain ⟨hp, g, d, tk, os⟩ := s; obtain ⟨hl, h⟩ := h; wp_walk using AutoSeq1.wpAny_loadPart' hl; exact ⟨_, rfl, h⟩
section
variable {X : Cx} {A : List Addr}
theorem op_catL : OpR X (binaryOp .Add) (fun x y H Q => ∃ l b xs zs, x = .ref l ∧ y = .ref b ∧ SqL X.K H l xs ∧ SqL X.K H b zs ∧ xs.length + zs.length ≤ sizeLine ∧ ∀ p, H p = none → Q (.ref p) (upd H p (.lst (xs ++ zs)))) := by
  intro pins s σ H x y v u Q I rx ry h
  obtain ⟨l, b, xs, zs, rfl, rfl, hH, hB, hz, q⟩ := h
  cases rx
  cases ry
  obtain ⟨its, r, ⟨⟨c1, d1, t1, sl1⟩, n, e, hc, hd, hs⟩, hl⟩ := I.list hH
  obtain ⟨its2, r2, ⟨⟨c2, d2, t2, sl2⟩, n2, e2, hc2, hd2, hs2⟩, hl2⟩ := I.list hB
  simp only at hc hd hs hc2 hd2 hs2
  subst hc hd hs hc2 hd2 hs2
  have z1 := r.length
  have z2 := r2.length
  refine concat_meets ⟨_, e, rfl⟩ ⟨_, e2, rfl⟩ noFill_list_add seq_list_add F.slot_list_add F.entry_list_add (F.args_list_add_2 _ _) (list_add_any l its.toArray n b its2.toArray n2 sl1 sl2 (by rw [List.size_toArray, List.size_toArray]; omega)) ⟨e, e2, ?_⟩
  have ea : its.toArray ++ its2.toArray = (its ++ its2).toArray := by simp
  rw [ea]
  exact ⟨.ref _, _, I.lnew (t' := s.toks) (r.append r2) (by rw [List.length_append]; omega), rfl, q _ I.fresh⟩
theorem op_repL : OpR X (binaryOp .Mult) (fun x y H Q => ∃ l k xs, x = .ref l ∧ y = .int k ∧ SqL X.K H l xs ∧ 0 ≤ k ∧ k ≤ 1000 ∧ xs.length ≤ 1000 ∧ ∀ p, H p = none → Q (.ref p) (upd H p (.lst (List.replicate k.toNat xs).flatten))) := by
  intro pins s σ H x y v u Q I rx ry h
  obtain ⟨l, k, xs, rfl, rfl, hH, h1, h2, h3, q⟩ := h
  cases rx
  obtain ⟨t, rfl⟩ := ry
  obtain ⟨its, r, ⟨⟨c1, d1, t1, sl1⟩, n, e, hc, hd, hs⟩, hl'⟩ := I.list hH
  simp only at hc hd hs
  subst hc hd hs
  have hl := r.length
  have hm : xs.length * k.toNat ≤ 1000000 := Nat.le_trans (Nat.mul_le_mul h3 (by omega : k.toNat ≤ 1000)) (by decide)
  have hz : xs.length * k.toNat ≤ sizeLine := by rw [sizeLine_eq]; omega
  have hlen : its.toArray.size * k.toNat ≤ sizeLine := by rw [List.size_toArray, ← hl]; exact hz
  have hcap : ¬ its.toArray.size * k.toNat > (2 ^ 63 - 1) / 8 := by
    have : (sizeLine : Nat) ≤ (2 ^ 63 - 1) / 8 := by decide
    omega
  have hfit : ¬ (!Builtin.List.listFitsIndex k) = true := by
    rw [fitsIndex_both (by omega) (by omega)]
    exact Bool.false_ne_true
  have hlong : ¬ Builtin.List.listTooLong (its.toArray.size * k.toNat) = true := by
    rw [notLongL hlen]
    exact Bool.false_ne_true
  have hnew : List.foldl (fun x1 x2 => x1 ++ x2) #[] (List.replicate (if its.toArray.isEmpty = true then 0 else k.toNat) its.toArray) = (List.replicate k.toNat its).flatten.toArray := by
    have f0 : ∀ m : Nat, List.foldl (fun x1 x2 => x1 ++ x2) #[] (List.replicate m its.toArray) = (List.replicate m its).flatten.toArray := fun m => by
      have := foldl_rep its m []
      rw [List.nil_append] at this
      exact this
    rw [f0]
    cases its with
    | nil => simp
    | cons a r' => rw [if_neg (by simp)]
  have hsz : (List.foldl (fun x1 x2 => x1 ++ x2) #[] (List.replicate (if its.toArray.isEmpty = true then 0 else k.toNat) its.toArray)).size ≤ sizeLine := by
    rw [hnew, List.size_toArray, PyProof.Rows.lm_len_rep_flat, ← hl, Nat.mul_comm]; exact hz
  refine wpAny_binaryOp_repeat_ref (T := "list") (U := "int") (by decide) ⟨_, e, rfl⟩ (fun s' => typeIs_int s' k t) noFill_list_mul F.fills_int_mul F.slot_int_rmul repeat_list F.slot_int_index.lookup
    (call_meets F.slot_int_rmul (typeIs_int s k t) F.entry_int_rmul (F.args_int_rmul_2 _ _) (int_rmul_list_any k t l its.toArray n sl1)
      ⟨e, rfl, ⟨_, e, rfl⟩, call_meets F.slot_list_mul ⟨_, e, rfl⟩ F.entry_list_mul (F.args_list_mul_2 _ _) (list_mul_any l its.toArray n k t sl1 hfit hcap hlong hsz) ⟨e, ?_⟩⟩)
  rw [hnew]
  exact ⟨.ref _, _, I.lnew (t' := s.toks) (r.rep k.toNat) (by rw [PyProof.Rows.lm_len_rep_flat, Nat.mul_comm]; exact hz), rfl, q _ I.fresh⟩


theorem opr_bin (op : Operator) : OpR X (binaryOp op) (rOp X.K A (binop op)) := by
  intro pins s σ H x y v u Q I rx ry h
  obtain ⟨hA, d, e, r, hd, he, hf, q⟩ := h
  cases op <;> cases hd <;> cases he <;> first
    | (simp [binop] at hf; done)
    | skip
  case Add.int.int i j =>
    cases hf
    exact op_add pins s σ H _ _ v u Q I rx ry ⟨i, j, rfl, rfl, q _ _ (Same.refl _) (.int _)⟩
  case Add.str.str i j =>
    obtain ⟨h1, rfl⟩ := ite_some (by simpa [binop] using hf)
    exact op_add_str pins s σ H _ _ v u Q I rx ry ⟨i, j, rfl, rfl, sm_le h1, q _ _ (Same.refl _) (.str _)⟩
  case Add.lst.lst a xs ds hx lx b ys es hy ly =>
    obtain ⟨h1, rfl⟩ := ite_some (by simpa [binop] using hf)
    refine op_catL pins s σ H _ _ v u Q I rx ry ⟨a, b, xs, ys, rfl, rfl, hx.sq, hy.sq, ?_, fun p np => ?_⟩
    · rw [lx.length, ly.length]; exact sm_le h1
    · exact q _ _ (same_upd np) (.lst (.inl ⟨.inl upd_same, hA.fresh np⟩) ((lx.same (same_upd np)).append (ly.same (same_upd np))))
  case Add.tup.tup a xs ds hx lx b ys es hy ly =>
    obtain ⟨h1, rfl⟩ := ite_some (by simpa [binop] using hf)
    refine op_catE pins s σ H _ _ v u Q I rx ry ⟨a, b, xs, ys, rfl, rfl, hx.t, hy.t, ?_, fun e => ?_, fun _ e => ?_, fun _ _ p o np on => ?_⟩
    · rw [lx.length, ly.length]; exact sm_le h1
    · subst e
      cases lx
      exact q _ _ (Same.refl _) (.tup hy ly)
    · subst e
      cases ly
      rw [List.append_nil] at q
      exact q _ _ (Same.refl _) (.tup hx lx)
    · exact q _ _ (same_upd np) (.tup (.inl ⟨o, upd_same, on⟩) ((lx.same (same_upd np)).append (ly.same (same_upd np))))
  case Sub.int.int i j =>
    cases hf
    exact op_sub pins s σ H _ _ v u Q I rx ry ⟨i, j, rfl, rfl, q _ _ (Same.refl _) (.int _)⟩
  case Mult.int.int i j =>
    obtain ⟨h1, rfl⟩ := ite_some (c := (i64 i || i64 j) = true) hf
    refine op_mul pins s σ H _ _ v u Q I rx ry ⟨i, j, rfl, rfl, ?_, q _ _ (Same.refl _) (.int _)⟩
    rw [Bool.or_eq_true] at h1
    rcases h1 with h1 | h1
    · exact .inl (i64_lt h1)
    · exact .inr (i64_lt h1)
  case Mult.lst.int a xs ds hx lx k =>
    obtain ⟨h1, rfl⟩ := ite_some (c := (decide (0 ≤ k) && decide (k ≤ 1000) && decide (ds.length ≤ 1000)) = true) hf
    obtain ⟨h1, h2, h3⟩ := and3 h1
    refine op_repL pins s σ H _ _ v u Q I rx ry ⟨a, k, xs, rfl, rfl, hx.sq, of_decide_eq_true h1, of_decide_eq_true h2, ?_, fun p np => ?_⟩
    · rw [lx.length]; exact of_decide_eq_true h3
    · exact q _ _ (same_upd np) (.lst (.inl ⟨.inl upd_same, hA.fresh np⟩) ((lx.same (same_upd np)).rep _))
  case Mod.int.int i j =>
    obtain ⟨h1, rfl⟩ := ite_some (c := 0 < j) hf
    exact op_mod pins s σ H _ _ v u Q I rx ry ⟨i, j, rfl, rfl, h1, q _ _ (Same.refl _) (.int _)⟩
  case Pow.int.int i j =>
    obtain ⟨h1, rfl⟩ := ite_some (c := (decide (0 ≤ j) && decide (j ≤ 1000000) && i64 i) = true) hf
    obtain ⟨h1, h2, h3⟩ := and3 h1
    exact op_pow pins s σ H _ _ v u Q I rx ry ⟨i, j, rfl, rfl, ⟨of_decide_eq_true h1, of_decide_eq_true h2, i64_nat h3⟩, q _ _ (Same.refl _) (.int _)⟩
  case LShift.int.int i j =>
    obtain ⟨h1, rfl⟩ := ite_some (c := (decide (0 ≤ j) && decide (j ≤ 1000000) && i64 i) = true) hf
    obtain ⟨h1, h2, h3⟩ := and3 h1
    exact op_shl pins s σ H _ _ v u Q I rx ry ⟨i, j, rfl, rfl, ⟨of_decide_eq_true h1, of_decide_eq_true h2, i64_nat h3⟩, q _ _ (Same.refl _) (.int _)⟩
  case RShift.int.int i j =>
    obtain ⟨h1, rfl⟩ := ite_some (c := 0 ≤ j) hf
    exact op_shr pins s σ H _ _ v u Q I rx ry ⟨i, j, rfl, rfl, h1, q _ _ (Same.refl _) (.int _)⟩
  case BitOr.int.int i j =>
    cases hf
    exact op_or pins s σ H _ _ v u Q I rx ry ⟨i, j, rfl, rfl, q _ _ (Same.refl _) (.int _)⟩
  case BitXor.int.int i j =>
    cases hf
    exact op_xor pins s σ H _ _ v u Q I rx ry ⟨i, j, rfl, rfl, q _ _ (Same.refl _) (.int _)⟩
  case BitAnd.int.int i j =>
    cases hf
    exact op_and pins s σ H _ _ v u Q I rx ry ⟨i, j, rfl, rfl, q _ _ (Same.refl _) (.int _)⟩
  case FloorDiv.int.int i j =>
    obtain ⟨h1, rfl⟩ := ite_some (c := (decide (0 < j) && decide (j < 1073741824)) = true) hf
    obtain ⟨h1, h2⟩ := and2 h1
    exact op_fdiv pins s σ H _ _ v u Q I rx ry ⟨i, j, rfl, rfl, ⟨of_decide_eq_true h1, of_decide_eq_true h2⟩, q _ _ (Same.refl _) (.int _)⟩
theorem unr_un (op : UnaryOp) (hop : op ≠ .Not) : UnR X (unaryOp op) (rUn X.K A (unop op)) := by
  intro pins s σ H x v Q I rx h
  obtain ⟨hA, d, r, hd, hf, q⟩ := h
  cases op <;> cases hd <;> first
    | (simp [unop] at hf; done)
    | skip
  case USub.int i =>
    cases hf
    exact un_neg pins s σ H _ v Q I rx ⟨i, rfl, q _ _ (Same.refl _) (.int _)⟩
  case Invert.int i =>
    cases hf
    exact un_inv pins s σ H _ v Q I rx ⟨i, rfl, q _ _ (Same.refl _) (.int _)⟩

/-! comparisons -/
def rCmp (K : PySem.W.Frag) (f : D → D → Option Bool) : R2 := fun x y H Q => ∃ A d e r, Rp K H A x d ∧ Rp K H A y e ∧ f d e = some r ∧ Q (.bl r) H
theorem okD_pl {d : D} (h : okD d = true) : d.plain = true := (and2 h).1
theorem okD_dep {d : D} (h : okD d = true) : d.depth ≤ 60 := of_decide_eq_true (and2 h).2
theorem cmp_eqD (hu : X.A.units + 70 < cLine) {pins : List (Addr × Obj)} {s : Shared} {σ : L2.St} {H : Hp} {x y : V} {v u : Value} {Q : VK} {A : List Addr} {d e : D} (I : Inv X pins σ H s) (rx : RelV x v) (ry : RelV y u)
    (hd : Rp X.K H A x d) (he : Rp X.K H A y e) (h : (okD d && okD e) = true) :
    (Q (.bl (PyData.eqv d e)) H → wpAny (model X.prog X.w) X.A (compareOp .Eq v u) (EP X pins σ Q) X.xe s) ∧ (Q (.bl (!PyData.eqv d e)) H → wpAny (model X.prog X.w) X.A (compareOp .NotEq v u) (EP X pins σ Q) X.xe s) := by
  obtain ⟨as, r1⟩ := Dp.reads I d x v (hd.dp (okD_pl (and2 h).1)) rx
  obtain ⟨bs, r2⟩ := Dp.reads I e y u (he.dp (okD_pl (and2 h).2)) ry
  have hz := okD_dep (and2 h).1
  have room : X.A.units + min d.depth e.depth < cLine := by
    have := Nat.min_le_left d.depth e.depth
    omega
  exact ⟨fun q => SeqAt.eq_plain r1 r2 (okD_pl (and2 h).1) (okD_pl (and2 h).2) room ⟨.bl _, H, I, rfl, q⟩, fun q => SeqAt.ne_plain r1 r2 (okD_pl (and2 h).1) (okD_pl (and2 h).2) room ⟨.bl _, H, I, rfl, q⟩⟩
theorem cmp_in (hu : X.A.units + 70 < cLine) {pins : List (Addr × Obj)} {s : Shared} {σ : L2.St} {H : Hp} {x y : V} {v u : Value} {Q : VK} {A : List Addr} {d e : D} {ds : List D} (I : Inv X pins σ H s) (rx : RelV x v) (ry : RelV y u)
    (hd : Rp X.K H A x d) (he : Rp X.K H A y e) (ee : e = .list ds ∨ e = .tuple ds) (h : (okD d && okD e) = true) :
    (Q (.bl (inD d ds)) H → wpAny (model X.prog X.w) X.A (compareOp .In v u) (EP X pins σ Q) X.xe s) ∧ (Q (.bl (!inD d ds)) H → wpAny (model X.prog X.w) X.A (compareOp .NotIn v u) (EP X pins σ Q) X.xe s) := by
  obtain ⟨as, r1⟩ := Dp.reads I d x v (hd.dp (okD_pl (and2 h).1)) rx
  obtain ⟨bs, r2⟩ := Dp.reads I e y u (he.dp (okD_pl (and2 h).2)) ry
  have l1 := okD_pl (and2 h).1
  have l2 := okD_pl (and2 h).2
  have hz := okD_dep (and2 h).1
  have room : X.A.units + 1 + min (PyData.depthAll ds) d.depth < cLine := by
    have := Nat.min_le_right (PyData.depthAll ds) d.depth
    omega
  rcases ee with rfl | rfl
  · have l3 : PyData.plainAll ds = true := by simpa [PyData.plain] using l2
    exact ⟨fun q => SeqAt.in_list_data r2 r1 l3 l1 room ⟨.bl _, H, I, rfl, q⟩, fun q => SeqAt.notIn_list_data r2 r1 l3 l1 room ⟨.bl _, H, I, rfl, q⟩⟩
  · have l3 : PyData.plainAll ds = true := by simpa [PyData.plain] using l2
    exact ⟨fun q => SeqAt.in_tuple_data r2 r1 l3 l1 room ⟨.bl _, H, I, rfl, q⟩, fun q => SeqAt.notIn_tuple_data r2 r1 l3 l1 room ⟨.bl _, H, I, rfl, q⟩⟩
theorem non_iff {K : PySem.W.Frag} {H : Hp} {A : List Addr} {x : V} {d : D} (h : Rp K H A x d) : decide (x = .non) = isN d := by
  cases h <;> simp [isN]
theorem one_sign {c : Str} (h : (c.length == 1) = true) : ∃ k, c = ⟨#[k]⟩ := by
  obtain ⟨⟨l⟩⟩ := c
  have h' : l.length = 1 := by
    have := beq_iff_eq.mp h
    simpa [Str.length] using this
  match l, h' with
  | [k], _ => exact ⟨k, rfl⟩
theorem key_V {K : PySem.W.Frag} {H : Hp} {A : List Addr} {v : V} {d : D} {k : Key} (h : Rp K H A v d) (e : keyO d = some k) : v = kV k := by
  cases d with
  | int i => cases h; cases e; rfl
  | str i => cases h; cases e; rfl
  | _ => cases e
theorem get_isSome {K : PySem.W.Frag} {H : Hp} {A : List Addr} {kvs : List (Key × V)} {ds : List D} {k : Key} (h : RpL K H A (kvs.map (·.2)) ds) : (getE (zipE kvs ds) k).isSome = (valV kvs k).isSome := by
  obtain ⟨h1, h2⟩ := get_zip (k := k) h
  cases e : getE (zipE kvs ds) k with
  | none => rw [h2 e]; rfl
  | some d => obtain ⟨v, q, _⟩ := h1 d e; rw [q]; rfl
theorem getX_isSome {K : PySem.W.Frag} {H : Hp} {A : List Addr} {xs : List XEnt} {ks ds : List D} {k : NestedKey} (hk : ks.map keyX = xs.map (fun e => some e.1)) (h : RpL K H A (xs.map (·.2.2)) ds) : (getX (ks.zip ds) k).isSome = (valX xs k).isSome := by
  obtain ⟨h1, h2⟩ := get_zipX (k := k) hk h
  cases e : getX (ks.zip ds) k with
  | none => rw [h2 e]; rfl
  | some d => obtain ⟨v, q, _⟩ := h1 d e; rw [q]; rfl
theorem key_ref {K : PySem.W.Frag} {H : Hp} {A : List Addr} {v : V} {d : D} {k : NestedKey} (h : Rp K H A v d) (e : keyX d = some k) : ∃ b, v = .ref b := by
  obtain ⟨_, _, ds, rfl⟩ := keyX_N e
  cases h with
  | tup h r => exact ⟨_, rfl⟩
theorem rpl_len2 {K : PySem.W.Frag} {H : Hp} {A : List Addr} {xs : List XEnt} {ks ds : List D} (hk : ks.map keyX = xs.map (fun e => some e.1)) (h : RpL K H A (xs.map (·.2.2)) ds) : ks.length = ds.length := by
  have h1 := h.length
  have h2 := congrArg List.length hk
  simp at h1 h2
  omega
theorem zipE_nil {K : PySem.W.Frag} {H : Hp} {A : List Addr} {kvs : List (Key × V)} {ds : List D} (h : RpL K H A (kvs.map (·.2)) ds) (e : (zipE kvs ds).isEmpty = true) : kvs = [] := by
  cases kvs with
  | nil => rfl
  | cons p kvs => cases h; cases e
/-- k in d, d a dict -/
theorem in_dic (hu : X.A.units + 70 < cLine) {A : List Addr} {pins : List (Addr × Obj)} {σ : L2.St} {H : Hp} {s : Shared} {x y : V} {v u : Value} {d : D} {es : List (D × D)} {b : Bool} {Q : VK} (I : Inv X pins σ H s) (rx : L2.RelV x v) (ry : L2.RelV y u) (hd : Rp X.K H A x d) (he : Rp X.K H A y (.dict es)) (hf : inE d es = some b) :
    (Q (.bl b) H → wpAny (model X.prog X.w) X.A (compareOp .In v u) (EP X pins σ Q) X.xe s) ∧ (Q (.bl (!b)) H → wpAny (model X.prog X.w) X.A (compareOp .NotIn v u) (EP X pins σ Q) X.xe s) := by
  cases he with
  | @dic a kvs ds _ h1 h2 h3 h4 =>
    subst h4
    have hf : inE d (zipE kvs ds) = some b := hf
    cases ry
    unfold inE at hf
    rw [isX_zip] at hf
    cases hk : keyO d with
    | some k =>
      rw [hk] at hf
      have hf : some (getE (zipE kvs ds) k).isSome = some b := hf
      cases hf
      have hx := key_V hd hk
      subst hx
      rw [get_isSome h3]
      exact ⟨fun q => d_in (X := X) (by omega) I (.inl ⟨kvs, k, h1, rfl, rfl⟩) rx fun s' I' => ⟨.bl (valV kvs k).isSome, H, I', rfl, q⟩, fun q => d_notIn (X := X) (by omega) I (.inl ⟨kvs, k, h1, rfl, rfl⟩) rx fun s' I' => ⟨.bl (!(valV kvs k).isSome), H, I', rfl, q⟩⟩
    | none =>
      rw [hk] at hf
      cases hkx : keyX d with
      | none => rw [hkx] at hf; cases hf
      | some k =>
        rw [hkx] at hf
        have hf : (if (zipE kvs ds).isEmpty || false then some (getX (zipE kvs ds) k).isSome else none) = some b := hf
        by_cases hz : (zipE kvs ds).isEmpty = true
        · have hn := zipE_nil h3 hz
          subst hn
          obtain ⟨c, rfl⟩ := key_ref hd hkx
          cases rx
          rw [getX_zip, hz] at hf
          have hf : some false = some b := hf
          cases hf
          obtain ⟨q1, q2⟩ := dx_in (X := X) (a := a) (es := []) (ks := []) (Q := EP X pins σ Q) (E := X.xe) (by omega) I (.inr ⟨rfl, h1⟩) .nil rfl hd hkx
          exact ⟨fun q => q1 fun s' I' => ⟨.bl false, H, I', rfl, q⟩, fun q => q2 fun s' I' => ⟨.bl true, H, I', rfl, q⟩⟩
        · rw [if_neg (by simpa using hz)] at hf; cases hf
  | @dix a xs ks ds _ h1 h2 h3 h4 h5 h6 =>
    obtain ⟨h6, hne⟩ := h6
    subst h6
    cases ry
    unfold inE at hf
    rw [isX_keys h4 (rpl_len2 h4 h5) hne] at hf
    cases hk : keyO d with
    | some k => rw [hk] at hf; cases hf
    | none =>
      rw [hk] at hf
      cases hkx : keyX d with
      | none => rw [hkx] at hf; cases hf
      | some k =>
        rw [hkx] at hf
        have hf : (if (ks.zip ds).isEmpty || true then some (getX (ks.zip ds) k).isSome else none) = some b := hf
        rw [Bool.or_true, if_pos rfl, getX_isSome h4 h5] at hf
        cases hf
        obtain ⟨c, rfl⟩ := key_ref hd hkx
        cases rx
        obtain ⟨q1, q2⟩ := dx_in (X := X) (Q := EP X pins σ Q) (E := X.xe) (by omega) I (.inl h1) h3 h4 hd hkx
        exact ⟨fun q => q1 fun s' I' => ⟨.bl _, H, I', rfl, q⟩, fun q => q2 fun s' I' => ⟨.bl _, H, I', rfl, q⟩⟩
theorem opr_cmp (hu : X.A.units + 70 < cLine) (op : CmpOp) : OpR X (compareOp op) (rCmp X.K (cmpop op)) := by
  intro pins s σ H x y v u Q I rx ry h
  obtain ⟨A, d, e, r, hd, he, hf, q⟩ := h
  cases op
  case Eq =>
    by_cases h2 : (∃ i j, d = .int i ∧ e = .int j) ∨ ∃ i j, d = .str i ∧ e = .str j
    · rcases h2 with ⟨i, j, rfl, rfl⟩ | ⟨i, j, rfl, rfl⟩
      · cases hd; cases he; cases hf
        exact op_eq pins s σ H _ _ v u Q I rx ry ⟨rfl, by rw [dec_int]; exact q⟩
      · cases hd; cases he; cases hf
        exact op_eq pins s σ H _ _ v u Q I rx ry ⟨rfl, by rw [dec_str]; exact q⟩
    · have hf' : (if (okD d && okD e) = true then some (PyData.eqv d e) else none) = some r := by
        rw [← hf]
        unfold cmpop
        split <;> simp_all
      obtain ⟨h1, rfl⟩ := ite_some hf'
      exact (cmp_eqD hu I rx ry hd he h1).1 q
  case NotEq =>
    by_cases h2 : (∃ i j, d = .int i ∧ e = .int j) ∨ ∃ i j, d = .str i ∧ e = .str j
    · rcases h2 with ⟨i, j, rfl, rfl⟩ | ⟨i, j, rfl, rfl⟩
      · cases hd; cases he; cases hf
        exact op_ne pins s σ H _ _ v u Q I rx ry ⟨rfl, by rw [dec_int]; exact q⟩
      · cases hd; cases he; cases hf
        exact op_ne pins s σ H _ _ v u Q I rx ry ⟨rfl, by rw [dec_str]; exact q⟩
    · have hf' : (if (okD d && okD e) = true then some (!PyData.eqv d e) else none) = some r := by
        rw [← hf]
        unfold cmpop
        split <;> simp_all
      obtain ⟨h1, rfl⟩ := ite_some hf'
      exact (cmp_eqD hu I rx ry hd he h1).2 q
  case Lt =>
    by_cases h2 : ∃ xs ys, d = .tuple xs ∧ e = .tuple ys
    · obtain ⟨xs, ys, rfl, rfl⟩ := h2
      have hf : (if okD (.tuple xs) && okD (.tuple ys) && PySem.W.alike (.tuple xs) (.tuple ys) then some (PySem.W.dataLt (.tuple xs) (.tuple ys)) else none) = some r := hf
      obtain ⟨h1, rfl⟩ := ite_some hf
      obtain ⟨as, r1⟩ := Dp.reads I _ x v (hd.dp (okD_pl (and2 (and2 h1).1).1)) rx
      obtain ⟨bs, r2⟩ := Dp.reads I _ y u (he.dp (okD_pl (and2 (and2 h1).1).2)) ry
      have hz := okD_dep (and2 (and2 h1).1).1
      refine PySem.W.lt_data r1 r2 (and2 h1).2 (by intro z; cases z) ?_ ⟨.bl _, H, I, rfl, q⟩
      have := Nat.min_le_left (PyData.depth (.tuple xs)) (PyData.depth (.tuple ys))
      omega
    · cases hd <;> cases he <;> first
        | (simp [cmpop] at hf; done)
        | (exfalso; exact h2 ⟨_, _, rfl, rfl⟩)
        | skip
      cases hf
      exact op_lt pins s σ H _ _ v u Q I rx ry ⟨_, _, rfl, rfl, q⟩
  case LtE =>
    by_cases h2 : ∃ i j, d = .str i ∧ e = .str j
    · obtain ⟨i, j, rfl, rfl⟩ := h2
      cases hd; cases he; cases hf
      exact op_le_str pins s σ H _ _ v u Q I rx ry ⟨_, _, rfl, rfl, q⟩
    cases hd <;> cases he <;> first
      | (simp [cmpop] at hf; done)
      | (exfalso; exact h2 ⟨_, _, rfl, rfl⟩)
      | skip
    cases hf
    exact op_le pins s σ H _ _ v u Q I rx ry ⟨_, _, rfl, rfl, q⟩
  case Gt =>
    cases hd <;> cases he <;> first
      | (simp [cmpop] at hf; done)
      | skip
    cases hf
    exact op_gt pins s σ H _ _ v u Q I rx ry ⟨_, _, rfl, rfl, q⟩
  case GtE =>
    cases hd <;> cases he <;> first
      | (simp [cmpop] at hf; done)
      | skip
    cases hf
    exact op_ge pins s σ H _ _ v u Q I rx ry ⟨_, _, rfl, rfl, q⟩
  case Is =>
    cases he <;> first
      | (simp [cmpop] at hf; done)
      | skip
    case bl b =>
      cases hd <;> first
        | (simp [cmpop] at hf; done)
        | skip
      cases hf
      exact op_is_bl pins s σ H _ _ v u Q I rx ry ⟨_, _, rfl, rfl, q⟩
    case non =>
    have hf : some (isN d) = some r := by rw [← hf]; cases d <;> rfl
    cases hf
    exact op_isN pins s σ H _ _ v u Q I rx ry ⟨rfl, by rw [non_iff hd]; exact q⟩
  case IsNot =>
    cases he <;> first
      | (simp [cmpop] at hf; done)
      | skip
    case bl b =>
      cases hd <;> first
        | (simp [cmpop] at hf; done)
        | skip
      cases hf
      exact op_isnot_bl pins s σ H _ _ v u Q I rx ry ⟨_, _, rfl, rfl, q⟩
    case non =>
    have hf : some (!isN d) = some r := by rw [← hf]; cases d <;> rfl
    cases hf
    exact op_notN pins s σ H _ _ v u Q I rx ry ⟨rfl, by rw [non_iff hd]; exact q⟩
  case In =>
    have hd' := hd
    have he' := he
    cases he with
    | @lst a xs ds h1 h2 =>
      obtain ⟨h1, rfl⟩ := ite_some (c := (okD d && okD (.list ds)) = true) (a := inD d ds) (by rw [← hf]; cases d <;> simp [cmpop])
      exact (cmp_in hu I rx ry hd' he' (.inl rfl) h1).1 q
    | @tup a xs ds h1 h2 =>
      obtain ⟨h1, rfl⟩ := ite_some (c := (okD d && okD (.tuple ds)) = true) (a := inD d ds) (by rw [← hf]; cases d <;> simp [cmpop])
      exact (cmp_in hu I rx ry hd' he' (.inr rfl) h1).1 q
    | str z =>
      cases hd <;> first
        | (simp [cmpop] at hf; done)
        | skip
      rename_i c
      obtain ⟨h1, rfl⟩ := ite_some (c := (c.length == 1) = true) hf
      obtain ⟨k, rfl⟩ := one_sign h1
      exact op_in_sign pins s σ H _ _ v u Q I rx ry ⟨k, z, rfl, rfl, q⟩
    | dic h1 h2 h3 h4 => exact (in_dic hu I rx ry hd' he' (b := r) (by rw [← hf]; cases d <;> rfl)).1 q
    | dix h1 h2 h3 h4 h5 h6 => exact (in_dic hu I rx ry hd' he' (b := r) (by rw [← hf]; cases d <;> rfl)).1 q
    | _ => cases hd <;> simp [cmpop] at hf
  case NotIn =>
    have hd' := hd
    have he' := he
    cases he with
    | @lst a xs ds h1 h2 =>
      obtain ⟨h1, rfl⟩ := ite_some (c := (okD d && okD (.list ds)) = true) (a := !inD d ds) (by rw [← hf]; cases d <;> simp [cmpop])
      exact (cmp_in hu I rx ry hd' he' (.inl rfl) h1).2 q
    | @tup a xs ds h1 h2 =>
      obtain ⟨h1, rfl⟩ := ite_some (c := (okD d && okD (.tuple ds)) = true) (a := !inD d ds) (by rw [← hf]; cases d <;> simp [cmpop])
      exact (cmp_in hu I rx ry hd' he' (.inr rfl) h1).2 q
    | str z =>
      cases hd <;> first
        | (simp [cmpop] at hf; done)
        | skip
      rename_i c
      obtain ⟨h1, rfl⟩ := ite_some (c := (c.length == 1) = true) hf
      obtain ⟨k, rfl⟩ := one_sign h1
      exact op_notIn_sign pins s σ H _ _ v u Q I rx ry ⟨k, z, rfl, rfl, q⟩
    | dic h1 h2 h3 h4 =>
      obtain ⟨b, hb, rfl⟩ := Option.map_eq_some_iff.mp (show (inE d _).map (!·) = some r by rw [← hf]; cases d <;> rfl)
      exact (in_dic hu I rx ry hd' he' hb).2 q
    | dix h1 h2 h3 h4 h5 h6 =>
      obtain ⟨b, hb, rfl⟩ := Option.map_eq_some_iff.mp (show (inE d _).map (!·) = some r by rw [← hf]; cases d <;> rfl)
      exact (in_dic hu I rx ry hd' he' hb).2 q
    | _ => cases hd <;> simp [cmpop] at hf
end
end Pv

end
section
namespace Pv
open PySem PySem.Spec PyProof.Rows L2 PySem.W

/-! ### sorting tuples of which the first is empty -/
section
variable {prog : Program} {w : World} {A : Around} {E : Value → Shared → Prop} {s : Shared}
theorem mapM_fn {α β : Type} {M : Model} {f : α → Sem β} {g : α → β} : ∀ (l : List α) {Q : List β → Shared → Prop}, (∀ v ∈ l, ∀ (R : β → Shared → Prop), R (g v) s → wpAny M A (f v) R E s) → Q (l.map g) s → wpAny M A (l.mapM f) Q E s
  | [], Q, _, h => by rw [List.mapM_nil]; exact wpAny_pure h
  | x :: l, Q, hf, h => by
    rw [List.mapM_cons]
    refine wpAny_bind (hf x (by simp) _ (wpAny_bind (mapM_fn l (fun v hv => hf v (by simp [hv])) (wpAny_pure ?_))))
    exact h
theorem one_tup {xs ys : List D} {a b : Value} {as bs : List Addr} {Q : Bool → Shared → Prop} (ra : Reads s.heap a (.tuple xs) as) (rb : Reads s.heap b (.tuple ys) bs) (hal : PySem.W.alikeAll xs ys = true) (hu : A.units + min (PyData.tuple xs).depth (PyData.tuple ys).depth < cLine)
    (hq : Q (PySem.W.dataLt (.tuple xs) (.tuple ys)) s) : wpAny (model prog w) A (PyProof.Rows.oneLt' true a b) Q E s := by
  cases ra with
  | @tuple l o vs n _ _ h1 h2 h3 h4 =>
    cases rb with
    | @tuple m o2 us k _ _ k1 k2 k3 k4 =>
      have n1 : vs.size = xs.length := by simpa using SeqAt.ReadsAll.length _ _ _ h4
      have n2 : us.size = ys.length := by simpa using SeqAt.ReadsAll.length _ _ _ k4
      rw [PySem.W.dataLt_tuple, ← PySem.W.firstLt_toks xs ys hal, ← n1, ← n2] at hq
      rw [PyProof.Rows.oneLt'_eq, if_pos rfl]
      obtain ⟨oc, od, dt, osl⟩ := o
      obtain ⟨oc2, od2, dt2, osl2⟩ := o2
      simp only at h2 h3 k2 k3
      subst h2 h3 k2 k3
      refine wpAny_bind (wpAny_cRoomFor (SeqAt.room_here hu) (wpAny_bind (wpAny_callSpecialIfBound?_slot (T := "tuple") ⟨_, h1, rfl⟩ F.slot_tuple_lt (call_meets F.slot_tuple_lt ⟨_, h1, rfl⟩ F.entry_tuple_lt (F.args_tuple_lt_2 _ _)
        (SeqAt.tuple_ltAt l m vs us n k od od2 osl osl2 (SeqAt.pairEq xs ys) (fun j => PySem.W.dataLt (xs.getD j .none) (ys.getD j .none))) ⟨h1, k1, fun j j1 j2 => ?_, fun j j1 j2 hj => ?_, wpAny_truthy_bool hq⟩))))
      · have z := PySem.W.eqAt_alikeAll xs ys A.in1 s vs.toList us.toList _ _ h4 k4 hal (SeqAt.room_in hu) j (by simpa using j1) (by simpa using j2)
        simpa using z
      · have z := PySem.W.rcLt_alikeAll xs ys A.in1 s vs.toList us.toList _ _ h4 k4 hal (SeqAt.room_in hu) j (by simpa using j1) (by simpa using j2) hj
        simpa using z
/-- the first sign of a tuple's value -/
theorem first_of {M : Model} {v : Value} {xs : List D} {as : List Addr} {R : Option Value → Shared → Prop} (r : Reads s.heap v (.tuple xs) as) : (xs = [] → R none s → wpAny M A (PyProof.Rows.firstOfTuple' v) R E s) ∧ ∃ u, R u s → wpAny M A (PyProof.Rows.firstOfTuple' v) R E s := by
  cases r with
  | @tuple l o vs n _ _ h1 h2 h3 h4 =>
    have go : R vs[0]? s → wpAny M A (PyProof.Rows.firstOfTuple' (.ref l)) R E s := fun q => by
      rw [PySem.W.kas_first_eq]
      refine wpAny_bind (wpAny_typeOf (T := "tuple") ⟨o, h1, h2⟩ ?_)
      rw [if_neg (by decide)]
      exact wpAny_bind (listItems_at h1 h3 (wpAny_pure q))
    refine ⟨fun e q => go ?_, _, go⟩
    subst e
    have hl := SeqAt.ReadsAll.length _ _ _ h4
    have : vs[0]? = none := by
      rw [Array.getElem?_eq_none_iff]
      simpa using hl
    rw [this]; exact q
open Classical in
noncomputable def fstV (h : Heap) (v : Value) : Option Value := match v with
  | .ref a => match h.get? a with
    | some o => match o.data with
      | .seq vs _ => vs[0]?
      | _ => none
    | none => none
  | _ => none
theorem fst_run {M : Model} {v : Value} {xs : List D} {as : List Addr} {R : Option Value → Shared → Prop} (r : Reads s.heap v (.tuple xs) as) (q : R (fstV s.heap v) s) : wpAny M A (PyProof.Rows.firstOfTuple' v) R E s := by
  cases r with
  | @tuple l o vs n _ _ h1 h2 h3 h4 =>
    rw [PySem.W.kas_first_eq]
    refine wpAny_bind (wpAny_typeOf (T := "tuple") ⟨o, h1, h2⟩ ?_)
    rw [if_neg (by decide)]
    refine wpAny_bind (listItems_at h1 h3 (wpAny_pure ?_))
    have e : fstV s.heap (.ref l) = vs[0]? := by
      unfold fstV
      simp only [h1, h3]
    rw [e] at q; exact q
theorem fst_nil {v : Value} {as : List Addr} (r : Reads s.heap v (.tuple []) as) : fstV s.heap v = none := by
  cases r with
  | @tuple l o vs n _ _ h1 h2 h3 h4 =>
    have hl := SeqAt.ReadsAll.length _ _ _ h4
    unfold fstV
    simp only [h1, h3]
    rw [Array.getElem?_eq_none_iff]
    simpa using hl
theorem kind_t0 {vs : List Value} {Q : PyProof.Rows.SortKind → Shared → Prop} {v₀ : Value} {rest : List Value} (hv : vs = v₀ :: rest) (h0 : ∃ as, Reads s.heap v₀ (.tuple []) as) (ht : ∀ v ∈ vs, ∃ xs as, Reads s.heap v (.tuple xs) as) (h : Q PyProof.Rows.oneType' s) :
    wpAny (model prog w) A (PyProof.Rows.keyKind' vs.toArray) Q E s := by
  rw [PyProof.Rows.kat_kind_eq, List.mapM_toArray, map_eq_pure_bind]
  refine wpAny_bind (wpAny_bind (mapM_fn (g := fstV s.heap) _ (fun v hm R q => ?_) (wpAny_pure ?_)))
  · obtain ⟨xs, as, r⟩ := ht v hm
    exact fst_run r q
  · obtain ⟨as, r0⟩ := h0
    have e0 := fst_nil r0
    subst hv
    rw [if_neg (by simp [e0]), if_neg (by simp [e0])]
    rw [PyProof.Rows.oneTypeOnly'_eq, List.mapM_toArray, map_eq_pure_bind]
    refine wpAny_bind (wpAny_bind (wpAny_bind (mapM_fn (g := fun _ => Value.type "tuple") _ (fun v hm R q => ?_) (wpAny_pure ?_))))
    · obtain ⟨xs, as, r⟩ := ht v hm
      cases r with
      | tuple h1 h2 h3 h4 => exact wpAny_typeOf (T := "tuple") ⟨_, h1, h2⟩ q
    · have hall : ((List.map (fun _ : Value => Value.type "tuple") (v₀ :: rest)).toArray.all fun x => x == Value.type "tuple") = true := by
        simp only [List.all_toArray, List.all_map, List.all_eq_true]
        intro _ _
        exact beq_self_eq_true _
      have hz : (List.map (fun _ : Value => Value.type "tuple") (v₀ :: rest)).toArray[0]? = some (Value.type "tuple") := by simp
      rw [hz]
      simp only [hall, if_true]
      exact wpAny_pure (wpAny_pure h)
theorem sorts_t0 {vs : List Value} {ds : List D} (e : EachIs (fun v d => ∃ as, Reads s.heap v d as) vs ds) (hal : PySem.W.AllAlike ds) (ht : ∀ d ∈ ds, ∃ xs, d = .tuple xs) (h0 : ds.head? = some (.tuple [])) (hu : ∀ d, d ∈ ds → A.units + d.depth < cLine) :
    PySem.W.SortsAt prog w A s (PySem.W.dataKind s.heap ds) vs := by
  refine ⟨fun v hv => ?_, PyProof.Rows.oneType', ?_, fun h2 E Q hq => ?_⟩
  · obtain ⟨d, hd, as, r⟩ := e.left v hv
    exact ⟨_, PySem.W.dataKind_some hal hd r⟩
  · intro E x y a b Q ha hb hq
    obtain ⟨d, as, hd, ra, rfl⟩ := PySem.W.dataKind_inv ha
    obtain ⟨d', as', hd', rb, rfl⟩ := PySem.W.dataKind_inv hb
    rw [PyProof.Rows.keyLt'_oneType]
    obtain ⟨xs, rfl⟩ := ht d hd
    obtain ⟨ys, rfl⟩ := ht d' hd'
    have hdd : PySem.W.alikeAll xs ys = true := by simpa [PySem.W.alike] using hal _ hd _ hd'
    exact one_tup ra rb hdd (Nat.lt_of_le_of_lt (Nat.add_le_add_left (Nat.min_le_left _ _) _) (hu _ hd)) hq
  · cases e with
    | nil => simp at h0
    | @cons v d vs ds r t =>
      obtain ⟨as, r⟩ := r
      have : d = .tuple [] := by simpa using h0
      subst this
      refine kind_t0 rfl ⟨as, r⟩ (fun u hu' => ?_) hq
      obtain ⟨d', hd', as', r'⟩ := (EachIs.cons (R := fun v d => ∃ as, Reads s.heap v d as) ⟨as, r⟩ t).left u hu'
      obtain ⟨xs, rfl⟩ := ht d' hd'
      exact ⟨xs, as', r'⟩
/-- the one premise for both -/
def SortsOk (ds : List D) : Prop := PySem.W.Sortable ds ∨ ((∀ d ∈ ds, ∃ xs, d = .tuple xs) ∧ ds.head? = some (.tuple []))
theorem sorts_ok {vs : List Value} {ds : List D} (e : EachIs (fun v d => ∃ as, Reads s.heap v d as) vs ds) (hal : PySem.W.AllAlike ds) (hk : SortsOk ds) (hu : ∀ d, d ∈ ds → A.units + d.depth < cLine) :
    PySem.W.SortsAt prog w A s (PySem.W.dataKind s.heap ds) vs := by
  rcases hk with hk | ⟨h1, h2⟩
  · exact .data e hal hk hu
  · exact sorts_t0 e hal h1 h2 hu
/-- sorted(list) -/
theorem sorted_lst {β : Type} {vs : List Value} {bs : List β} {enc : β → PyData} {R : Value → β → Prop} {l : Addr} {Q : Value → Shared → Prop} (hl : s.heap.IsList l vs.toArray) (e : EachIs R vs bs) (er : EachIs (fun v b => ∃ as, Reads s.heap v (enc b) as) vs bs) (hal : PySem.W.AllAlike (bs.map enc)) (hk : SortsOk (bs.map enc)) (hL : bs.length ≤ sizeLine)
    (hu : ∀ b, b ∈ bs → A.units + 2 + (enc b).depth < cLine) (h : ∀ out, out.length = bs.length → EachIs R out (bs.mergeSort (PySem.W.dataLe false enc)) → Q (.ref (s.heap.objs.size + 1)) { s with heap := PyProof.Rows.sortedAll s.heap vs (List.toArray out) }) :
    wpAny (model prog w) A (call (.builtin "sorted") [.ref l]) Q E s := by
  have er' : EachIs (fun v b => ∃ as, Reads (PySem.W.sortingHeap (PySem.W.copyHeap s.heap vs) (s.heap.objs.size + 1) vs) v (enc b) as) vs bs := er.mono fun _ _ ⟨as, r⟩ => ⟨as, PyProof.Rows.Reads.keeps (fun _ _ => PySem.W.sorting_copy_old) r⟩
  have S := sorts_ok (prog := prog) (w := w) (A := A.in1.in1) (s := { s with heap := PySem.W.sortingHeap (PySem.W.copyHeap s.heap vs) (s.heap.objs.size + 1) vs }) (PySem.W.each_map (R := fun v d => ∃ as, Reads (PySem.W.sortingHeap (PySem.W.copyHeap s.heap vs) (s.heap.objs.size + 1) vs) v d as) enc er') hal hk (PySem.W.bound_map hu)
  refine PySem.W.sorted_vals hl S (by rw [e.length]; exact hL) ?_
  refine h _ (by rw [PySem.W.sortVals_length false rfl]; exact e.length) (PySem.W.sortVals_data false e er' hal)
end
end Pv

end
section
namespace Pv
open PySem PySem.Spec PyProof.Rows L2

/-! ### sorted(tuple), over data -/
section
variable {prog : Program} {w : World} {A : Around} {E : Value → Shared → Prop} {s : Shared}
theorem collect_tup {l : Addr} {vs : List Value} {Q : List Value → Shared → Prop} (hl : s.heap.IsTuple l vs.toArray) (hz : vs.length ≤ sizeLine)
    (h : Q vs { s with heap := (s.heap.push (seqObj "list" #[] 0)).update s.heap.objs.size (Obj.mapSeq (· ++ vs.toArray)) }) : wpAny (model prog w) A (collect (.ref l)) Q E s := by
  obtain ⟨o, ho, hc, n, hd⟩ := id hl
  have ho' : (s.heap.push (seqObj "list" #[] 0)).get? l = some o := Heap.get?_push_of_some _ ho
  have hn : (s.heap.push (seqObj "list" #[] 0)).get? s.heap.objs.size = some (seqObj "list" #[] 0) := Heap.get?_push_size _ rfl
  unfold collect
  refine wpAny_bind (wpAny_runValue (codeAny_builtin entry_proto_collect' (show wpAny _ _ (do again (.builtin "list.__iadd__" ⟨[← newList [], .ref l], []⟩)) _ _ s from
    wpAny_bind (wpAny_newList (wpAny_pure ⟨Code.quiet_builtin _ (by decide +kernel), codeAny_builtin entry_list_iadd' ?_⟩)))))
  show wpAny _ _ (Builtin.List.listExtendWith _ _ _) _ _ { s with heap := s.heap.push (seqObj "list" #[] 0) }
  unfold Builtin.List.listExtendWith
  refine wpAny_bind (wpAny_typeOf (T := "tuple") ⟨o, ho', hc⟩ (wp_if_pos ?_ (wpAny_bind (listItems_at ho' hd (wpAny_bind (listItems_at (xs := #[]) (n := 0) hn rfl ?_))))))
  · have : (Value.type "tuple" == Value.type "tuple") = true := rfl
    rw [this]; simp
  refine wp_if_neg (by simp) (wpAny_bind (listUpdate_at (xs := #[]) (n := 0) hn rfl (wpAny_pure ?_) (Nat.zero_le _) (by simp; omega)))
  show wpAny (model prog w) A (do
      let o ← load s.heap.objs.size
      match o.data with
      | .seq xs _ => pure xs.toList
      | _ => unsupported "internal:collect") Q E _
  refine wpAny_bind (wpAny_load (get?_update_seq hn _) (show wpAny _ _ (pure ((#[] : Array Value) ++ vs.toArray).toList) Q E _ from ?_))
  have e : ((#[] : Array Value) ++ vs.toArray).toList = vs := by simp
  rw [e]
  exact wpAny_pure h
open PySem.W in
theorem sorted_tup {β : Type} {vs : List Value} {bs : List β} {enc : β → PyData} {R : Value → β → Prop} {l : Addr} {Q : Value → Shared → Prop} (hl : s.heap.IsTuple l vs.toArray) (e : EachIs R vs bs) (er : EachIs (fun v b => ∃ as, Reads s.heap v (enc b) as) vs bs) (hal : AllAlike (bs.map enc)) (hk : SortsOk (bs.map enc)) (hL : bs.length ≤ sizeLine)
    (hu : ∀ b, b ∈ bs → A.units + 2 + (enc b).depth < cLine) (h : ∀ out, out.length = bs.length → EachIs R out (bs.mergeSort (dataLe false enc)) → Q (.ref (s.heap.objs.size + 1)) { s with heap := sortedAll s.heap vs (List.toArray out) }) :
    wpAny (model prog w) A (call (.builtin "sorted") [.ref l]) Q E s := by
  have er' : EachIs (fun v b => ∃ as, Reads (sortingHeap (copyHeap s.heap vs) (s.heap.objs.size + 1) vs) v (enc b) as) vs bs := er.mono fun _ _ ⟨as, r⟩ => ⟨as, PyProof.Rows.Reads.keeps (fun _ _ => sorting_copy_old) r⟩
  have hz : vs.length ≤ sizeLine := by rw [e.length]; exact hL
  have S := sorts_ok (prog := prog) (w := w) (A := A.in1.in1) (s := { s with heap := sortingHeap (copyHeap s.heap vs) (s.heap.objs.size + 1) vs }) (each_map (R := fun v d => ∃ as, Reads (sortingHeap (copyHeap s.heap vs) (s.heap.objs.size + 1) vs) v d as) enc er') hal hk (bound_map hu)
  refine PyProof.Rows.call_function_entry_kw kind_sorted plain_sorted entry_sorted (args_sorted1 _) ?_
  unfold Builtin.«sorted»
  refine wpAny_bind (m := checkCount "sorted" 1 1 _) (wpAny_pure (wpAny_bind (collect_tup hl hz (wpAny_bind (wpAny_newList ?_ hz)))))
  have hsz : ((s.heap.push (seqObj "list" #[] 0)).update s.heap.objs.size (Obj.mapSeq (· ++ vs.toArray))).objs.size = s.heap.objs.size + 1 := by rw [Heap.size_update, size_push']
  show wpAny _ _ _ _ _ { s with heap := copyHeap s.heap vs }
  rw [hsz]
  refine wpAny_bind (wpAny_holding (wpAny_call_entry_kw slot_list_sort ⟨_, copyHeap_at s.heap vs, rfl⟩ entry_list_sort ?_ (args_list_sort _)))
  refine list_sort_vals (s := { s with heap := copyHeap s.heap vs }) (copyHeap_at s.heap vs) S hz ⟨_, rfl, wpAny_pure ⟨_, rfl, ?_⟩⟩
  exact h _ (by rw [sortVals_length false rfl]; exact e.length) (sortVals_data false e er' hal)
end
end Pv

end
section
namespace Pv
open PySem PySem.Spec PyProof.Rows L2

/-! ### a value that is only looked at: its root may be one that is owned -/
def RpB (K : PySem.W.Frag) (H : Hp) (A : List Addr) (v : V) : D → Prop
  | .list ds => ∃ a xs, v = .ref a ∧ SqL K H a xs ∧ RpL K H A xs ds
  | .dict es => (∃ a kvs ds, v = .ref a ∧ Rd H a (.dK kvs) ∧ RpL K H A (kvs.map (·.2)) ds ∧ es = (kvs.map fun p => keyD p.1).zip ds) ∨
    ∃ a xs ks ds, v = .ref a ∧ Rd H a (DXo a xs) ∧ RpL K H A (xs.map fun e => V.ref e.2.1) ks ∧ ks.map keyX = xs.map (fun e => some e.1) ∧ RpL K H A (xs.map (·.2.2)) ds ∧ (es = ks.zip ds ∧ xs ≠ [])
  | d => Rp K H A v d
inductive RpBs (K : PySem.W.Frag) (H : Hp) (A : List Addr) : List V → List D → Prop
  | nil : RpBs K H A [] []
  | cons {v : V} {vs : List V} {d : D} {ds : List D} : RpB K H A v d → RpBs K H A vs ds → RpBs K H A (v :: vs) (d :: ds)
section
variable {K : PySem.W.Frag} {H H' : Hp} {A A' : List Addr}
theorem Rp.b {v : V} {d : D} (h : Rp K H A v d) : RpB K H A v d := by
  cases h with
  | lst h r => exact ⟨_, _, rfl, h.sq, r⟩
  | dic h n r e => exact .inl ⟨_, _, _, rfl, h, r, e⟩
  | dix h n q k r e => exact .inr ⟨_, _, _, _, rfl, h, q, k, r, e⟩
  | non => exact .non
  | bl b => exact .bl b
  | int i => exact .int i
  | str x => exact .str x
  | tup h r => exact .tup h r
theorem RpB.same (e : Same H H') {v : V} {d : D} (h : RpB K H A v d) : RpB K H' A v d := by
  cases d with
  | list ds => obtain ⟨a, xs, e1, e2, e3⟩ := h; exact ⟨a, xs, e1, e.seq e2, e3.same e⟩
  | dict es =>
    rcases h with ⟨a, kvs, ds, e1, e2, e3, e4⟩ | ⟨a, xs, ks, ds, e1, e2, e3, e4, e5, e6⟩
    · exact .inl ⟨a, kvs, ds, e1, Rd_same e e2, e3.same e, e4⟩
    · exact .inr ⟨a, xs, ks, ds, e1, Rd_same e e2, e3.same e, e4, e5.same e, e6⟩
  | none => exact Rp.same e h
  | bool _ => exact Rp.same e h
  | int _ => exact Rp.same e h
  | str _ => exact Rp.same e h
  | tuple _ => exact Rp.same e h
theorem RpBs.same (e : Same H H') : ∀ {v : List V} {d : List D}, RpBs K H A v d → RpBs K H' A v d
  | _, _, .nil => .nil
  | _, _, .cons h r => .cons (h.same e) (RpBs.same e r)
theorem RpBs.one {vs : List V} {d : D} (h : RpBs K H A vs [d]) : ∃ v, vs = [v] ∧ RpB K H A v d := by
  cases h with
  | cons h r => cases r; exact ⟨_, rfl, h⟩
theorem RpBs.two {vs : List V} {d e : D} (h : RpBs K H A vs [d, e]) : ∃ v u, vs = [v, u] ∧ RpB K H A v d ∧ RpB K H A u e := by
  cases h with
  | cons h r => cases r with | cons h' r => cases r; exact ⟨_, _, rfl, h, h'⟩
theorem RpB.int {v : V} {i : Int} (h : RpB K H A v (.int i)) : v = .int i := by cases (show Rp K H A v (.int i) from h); rfl
theorem RpB.bool {v : V} {i : Bool} (h : RpB K H A v (.bool i)) : v = .bl i := by cases (show Rp K H A v (.bool i) from h); rfl
theorem RpB.str {v : V} {i : Str} (h : RpB K H A v (.str i)) : v = .str i := by cases (show Rp K H A v (.str i) from h); rfl
theorem RpB.tuple {v : V} {ds : List D} (h : RpB K H A v (.tuple ds)) : ∃ a xs, v = .ref a ∧ SqE K H a xs ∧ RpL K H A xs ds := by cases (show Rp K H A v (.tuple ds) from h) with | tup h' r => exact ⟨_, _, rfl, h', r⟩
end

/-! ### indices, slices -/
def ixop : D → D → Option D
  | .list xs, .int i => atI xs i
  | .tuple xs, .int i => atI xs i
  | .str z, .int i => if sm z.length then (atI z.cps.toList i).map fun c => .str ⟨#[c]⟩ else none
  | .dict es, k => atE k es
  | _, _ => none
def cutL (xs : List D) (lo hi : Option Int) : List D := (xs.drop (HT.sIx xs.length 0 lo)).take (HT.sIx xs.length xs.length hi - HT.sIx xs.length 0 lo)
def slop : D → Option Int → Option Int → Option D
  | .list xs, lo, hi => some (.list (cutL xs lo hi))
  | .tuple xs, lo, hi => some (.tuple (cutL xs lo hi))
  | .str z, lo, hi => if sm z.length then some (.str (cutS z lo hi)) else none
  | _, _, _ => none
section
variable {X : Cx} {A : List Addr}
def rIxB (K : PySem.W.Frag) (A : List Addr) : R2 := fun x y H Q => ∃ d e r, RpB K H A x d ∧ RpB K H A y e ∧ ixop d e = some r ∧ ∀ v, Rp K H A v r → Q v H
theorem RpL.at {K : PySem.W.Frag} {H : Hp} {xs : List V} {ds : List D} {i : Int} {r : D} (h : RpL K H A xs ds) (e : atI ds i = some r) : ∃ v, atI xs i = some v ∧ Rp K H A v r := by
  unfold atI at e ⊢
  rw [h.length]
  cases q : ixN ds.length i with
  | none => rw [q] at e; cases e
  | some j =>
    rw [q] at e
    exact h.get' e
/-- d[k], the key there -/
theorem ix_dict (hu : X.A.units + 1 < cLine) : IxR X (fun x y H Q => ∃ a kvs k v, x = .ref a ∧ Rd H a (.dK kvs) ∧ y = kV k ∧ valV kvs k = some v ∧ Q v H) := by
  intro value slice pins s σ H x y v u Q I rx ry h hs
  obtain ⟨a, kvs, k, w, rfl, e, rfl, hv, q⟩ := h
  cases rx
  have g : DGet H a (kV k) (some w) := .inl ⟨kvs, k, e, rfl, hv.symm⟩
  have hT := dict_typeIs I g
  unfold subscriptTail
  refine wpAny_bind ?_
  rw [getitemInPython_of_ne hT.not_modules]
  refine wpAny_bind (wpAny_specialOf hT PySem.F.slot_dict_getitem.lookup ?_)
  have h2 : wpAny (model X.prog X.w) X.A (getItem (.ref a) u) (EP X pins σ Q) X.xe s := d_getItem hu I g ry fun w' s3 I3 rw' => ⟨w, H, I3, rw', q⟩
  have fin : wpAny (model X.prog X.w) X.A (subscripted slice false (.ref a) u) (fun r s₃ => wpAny (model X.prog X.w) X.A (letTemporaryGo value (.ref a) r >>= fun _ => pure r) (EP X pins σ Q) X.xe s₃) X.xe s := by
    rw [hs]
    exact wpAny_operating (wpAny_mono h2 (fun r s₃ h₃ => wpAny_bind (wpAny_letTemporaryGo (wpAny_pure h₃))) fun _ _ x => x)
  first
    | exact wpAny_pure (wpAny_bind fin)
    | exact wpAny_bind (wpAny_pure (wpAny_bind fin))
    | exact wpAny_bind fin
/-- d[k], k a tuple that is there -/
theorem ix_dictX (hu : X.A.units + 70 < cLine) : IxR X (fun x y H Q => ∃ A a xs ks b kd k v, x = .ref a ∧ Rd H a (DXo a xs) ∧ RpL X.K H A (xs.map fun e => V.ref e.2.1) ks ∧ ks.map keyX = xs.map (fun e => some e.1) ∧ y = .ref b ∧ Rp X.K H A (.ref b) kd ∧ keyX kd = some k ∧ valX xs k = some v ∧ Q v H) := by
  intro value slice pins s σ H x y v u Q I rx ry h hs
  obtain ⟨A, a, xs, ks, b, kd, k, w, rfl, e, hk, hkk, rfl, hb, hkd, hv, q⟩ := h
  cases rx
  cases ry
  obtain ⟨_, _, d, _, _⟩ := dx_get I e hk hkk
  have hT := d.typeIs
  unfold subscriptTail
  refine wpAny_bind ?_
  rw [getitemInPython_of_ne hT.not_modules]
  refine wpAny_bind (wpAny_specialOf hT PySem.F.slot_dict_getitem.lookup ?_)
  have h2 : wpAny (model X.prog X.w) X.A (getItem (.ref a) (.ref b)) (EP X pins σ Q) X.xe s := dx_at (by omega) I e hk hkk hb hkd hv fun s3 u3 I3 rw' => ⟨w, H, I3, rw', q⟩
  have fin : wpAny (model X.prog X.w) X.A (subscripted slice false (.ref a) (.ref b)) (fun r s₃ => wpAny (model X.prog X.w) X.A (letTemporaryGo value (.ref a) r >>= fun _ => pure r) (EP X pins σ Q) X.xe s₃) X.xe s := by
    rw [hs]
    exact wpAny_operating (wpAny_mono h2 (fun r s₃ h₃ => wpAny_bind (wpAny_letTemporaryGo (wpAny_pure h₃))) fun _ _ x => x)
  first
    | exact wpAny_pure (wpAny_bind fin)
    | exact wpAny_bind (wpAny_pure (wpAny_bind fin))
    | exact wpAny_bind fin
theorem ixr_dyn (hu : X.A.units + 70 < cLine) : IxR X (rIxB X.K A) := by
  intro value slice pins s σ H x y v u Q I rx ry h hs
  obtain ⟨d, e, r, hd, he, hf, q⟩ := h
  by_cases hdic : ∃ es, d = .dict es
  · obtain ⟨es, rfl⟩ := hdic
    have hf : atE e es = some r := hf
    unfold atE at hf
    rcases hd with ⟨a, kvs, ds, rfl, hx, hr, rfl⟩ | ⟨a, xs, ks, ds, rfl, hx, hk, hkk, hr, rfl, hne⟩
    · cases hke : keyO e with
      | some k =>
        rw [hke] at hf
        obtain ⟨w, e1, rw'⟩ := (get_zip (k := k) hr).1 r hf
        have hy : y = kV k := by
          cases e with
          | int i => cases hke; exact he.int
          | str i => cases hke; exact he.str
          | _ => cases hke
        exact ix_dict (by omega) value slice pins s σ H _ y v u Q I rx ry ⟨a, kvs, k, w, rfl, hx, hy, e1, q _ rw'⟩ hs
      | none =>
        rw [hke] at hf
        cases hkx : keyX e with
        | none => rw [hkx] at hf; cases hf
        | some k =>
          rw [hkx] at hf
          have hf : getX (zipE kvs ds) k = some r := hf
          rw [getX_zip] at hf
          cases hf
    · cases hke : keyO e with
      | some k =>
        rw [hke] at hf
        have hf : getE (ks.zip ds) k = some r := hf
        rw [getE_X hkk] at hf
        cases hf
      | none =>
        rw [hke] at hf
        cases hkx : keyX e with
        | none => rw [hkx] at hf; cases hf
        | some k =>
          rw [hkx] at hf
          obtain ⟨w, e1, rw'⟩ := (get_zipX (k := k) hkk hr).1 r hf
          obtain ⟨_, _, es2, rfl⟩ := keyX_N hkx
          have he' : Rp X.K H A y (.tuple es2) := he
          obtain ⟨b, rfl⟩ := key_ref he' hkx
          exact ix_dictX hu value slice pins s σ H _ _ v u Q I rx ry ⟨A, a, xs, ks, b, _, k, w, rfl, hx, hk, hkk, rfl, he', hkx, e1, q _ rw'⟩ hs
  cases d <;> first
    | exact absurd ⟨_, rfl⟩ hdic
    | skip
  all_goals cases e <;> first
    | (simp [ixop] at hf; done)
    | skip
  case str.int z i =>
    obtain ⟨h1, h2⟩ := (show sm z.length = true ∧ (atI z.cps.toList i).map (fun c => PyData.str ⟨#[c]⟩) = some r by
      have hf' : (if sm z.length = true then (atI z.cps.toList i).map fun c => PyData.str ⟨#[c]⟩ else none) = some r := hf
      by_cases hz : sm z.length = true
      · rw [if_pos hz] at hf'; exact ⟨hz, hf'⟩
      · rw [if_neg hz] at hf'; cases hf')
    obtain ⟨c, e1, rfl⟩ := Option.map_eq_some_iff.mp h2
    exact ix_str value slice pins s σ H x y v u Q I rx ry ⟨z, i, c, hd.str, he.int, sm_le h1, e1, q _ (.str _)⟩ hs
  case list.int ds i =>
    obtain ⟨a, xs, rfl, hx, hr⟩ := hd
    obtain ⟨w, e1, rw'⟩ := hr.at (show atI ds i = some r from hf)
    exact ix_list value slice pins s σ H _ y v u Q I rx ry ⟨a, xs, i, w, rfl, he.int, hx, e1, q _ rw'⟩ hs
  case tuple.int ds i =>
    obtain ⟨a, xs, rfl, hx, hr⟩ := hd.tuple
    obtain ⟨w, e1, rw'⟩ := hr.at (show atI ds i = some r from hf)
    exact ix_tup value slice pins s σ H _ y v u Q I rx ry ⟨a, xs, i, w, rfl, he.int, hx.t, e1, q _ rw'⟩ hs
theorem RpL.cut {K : PySem.W.Frag} {H : Hp} {xs : List V} {ds : List D} (h : RpL K H A xs ds) (lo hi : Option Int) : RpL K H A (cutV xs lo hi) (cutL ds lo hi) := by
  unfold cutV cutL
  rw [h.length]
  exact (h.drop _).take _
def rSlB (K : PySem.W.Frag) (A : List Addr) : V → Option Int → Option Int → Hp → VK → Prop := fun x lo hi H Q => AOk H A ∧ ∃ d r, RpB K H A x d ∧ slop d lo hi = some r ∧ ∀ v H', Same H H' → Rp K H' A v r → Q v H'
theorem sIx_full {n : Nat} {lo hi : Option Int} {α : Type} (xs : List α) (hn : xs.length = n) (h : HT.sIx n 0 lo = 0 ∧ HT.sIx n n hi = n) : (xs.drop (HT.sIx xs.length 0 lo)).take (HT.sIx xs.length xs.length hi - HT.sIx xs.length 0 lo) = xs := by
  rw [hn, h.1, h.2, List.drop_zero, ← hn, Nat.sub_zero, List.take_length]
theorem slr_dyn : SlR X (rSlB X.K A) := by
  intro pins s σ H x v vl vu lo hi sl Q I rx hs pl pu h
  obtain ⟨hA, d, r, hd, hf, q⟩ := h
  cases d <;> first
    | (simp [slop] at hf; done)
    | skip
  case str z =>
    obtain ⟨h1, rfl⟩ := ite_some (c := sm z.length = true) hf
    exact sl_str pins s σ H x v vl vu lo hi sl Q I rx hs pl pu ⟨z, hd.str, sm_le h1, q _ _ (Same.refl _) (.str _)⟩
  case list ds =>
    cases hf
    obtain ⟨a, xs, rfl, hx, hr⟩ := hd
    exact sl_list pins s σ H _ v vl vu lo hi sl Q I rx hs pl pu ⟨a, xs, rfl, hx, fun p np => q _ _ (same_upd np) (.lst (.inl ⟨.inl upd_same, hA.fresh np⟩) ((hr.cut lo hi).same (same_upd np)))⟩
  case tuple ds =>
    cases hf
    obtain ⟨a, xs, rfl, hx, hr⟩ := hd.tuple
    refine sl_tupE pins s σ H _ v vl vu lo hi sl Q I rx hs pl pu ⟨a, xs, rfl, hx.t, fun e => ?_, fun _ p o np on => q _ _ (same_upd np) (.tup (.inl ⟨o, upd_same, on⟩) ((hr.cut lo hi).same (same_upd np)))⟩
    have e2 : cutL ds lo hi = ds := sIx_full ds hr.length.symm e
    rw [e2] at q
    exact q _ _ (Same.refl _) (.tup hx hr)
end

/-! ### built-in calls -/
def intsOf : List D → Option (List Int)
  | [] => some []
  | .int i :: r => (intsOf r).map (i :: ·)
  | _ :: _ => none
def alikeB (xs : List D) : Bool := xs.all fun x => xs.all fun y => PySem.W.alike x y
def plainB (xs : List D) : Bool := xs.all fun x => x.plain && decide (x.depth ≤ 60)
def sortB0 (xs : List D) : Bool := xs.all (fun d => match d with | .tuple (_ :: _) => true | _ => false) || xs.all (fun d => match d with | .tuple _ => false | .none => false | _ => true)
def isTp : D → Bool
  | .tuple _ => true
  | _ => false
def isT0 : List D → Bool
  | .tuple [] :: _ => true
  | _ => false
def sortB (xs : List D) : Bool := sortB0 xs || (isT0 xs && xs.all isTp)
def noNone (xs : List D) : Bool := xs.all fun d => match d with | .none => false | _ => true
def sortD (xs : List D) : List D := xs.mergeSort fun a b => !PySem.W.dataLt b a
inductive Bn where
  | len | int | str | list | tuple | sum | max | min | sorted
def bltop : Bn → List D → Option D
  | .len, [.list xs] => some (.int xs.length)
  | .len, [.tuple xs] => some (.int xs.length)
  | .len, [.str z] => if sm z.length then some (.int z.length) else none
  | .len, [.dict es] => if isX es then none else some (.int es.length)
  | .int, [.int i] => some (.int i)
  | .int, [.bool b] => some (.int (if b then 1 else 0))
  | .int, [.str z] => if decide (z.length ≤ 600) then (PySem.intText? z).map .int else none
  | .str, [.str z] => some (.str z)
  | .str, [.int i] => if decide (i.natAbs.log2 < 1920) then some (.str (toString i)) else none
  | .list, [.list xs] => some (.list xs)
  | .list, [.tuple xs] => some (.list xs)
  | .tuple, [.list xs] => some (.tuple xs)
  | .tuple, [.tuple xs] => some (.tuple xs)
  | .sum, [.list xs] => (intsOf xs).map fun ns => .int ns.sum
  | .max, [.int i, .int j] => some (.int (if j > i then j else i))
  | .min, [.int i, .int j] => some (.int (if j < i then j else i))
  | .max, [.list (x :: xs)] => if alikeB (x :: xs) && plainB (x :: xs) && noNone (x :: xs) then some (PySem.W.maxD x xs) else none
  | .min, [.list (x :: xs)] => if alikeB (x :: xs) && plainB (x :: xs) && noNone (x :: xs) then some (PySem.W.minD x xs) else none
  | .max, [.tuple (x :: xs)] => if alikeB (x :: xs) && plainB (x :: xs) && noNone (x :: xs) then some (PySem.W.maxD x xs) else none
  | .min, [.tuple (x :: xs)] => if alikeB (x :: xs) && plainB (x :: xs) && noNone (x :: xs) then some (PySem.W.minD x xs) else none
  | .sorted, [.list xs] => if alikeB xs && plainB xs && sortB xs then some (.list (sortD xs)) else none
  | .sorted, [.tuple xs] => if alikeB xs && plainB xs && sortB xs then some (.list (sortD xs)) else none
  | _, _ => none
theorem intsOf_eq : ∀ {xs : List D} {ns : List Int}, intsOf xs = some ns → xs = ns.map PyData.int
  | [], _, h => by cases h; rfl
  | .int i :: r, ns, h => by
    unfold intsOf at h
    obtain ⟨ms, e, rfl⟩ := Option.map_eq_some_iff.mp h
    rw [intsOf_eq e]
    rfl
  | .none :: _, _, h => by cases h
  | .bool _ :: _, _, h => by cases h
  | .str _ :: _, _, h => by cases h
  | .list _ :: _, _, h => by cases h
  | .tuple _ :: _, _, h => by cases h
  | .dict _ :: _, _, h => by cases h

def Bn.val : Bn → Value
  | .len => .builtin "len" | .int => .type "int" | .str => .type "str" | .list => .type "list" | .tuple => .type "tuple"
  | .sum => .builtin "sum" | .max => .builtin "max" | .min => .builtin "min" | .sorted => .builtin "sorted"
def rBn (K : PySem.W.Frag) (A : List Addr) (b : Bn) : List V → Hp → VK → Prop := fun vs H Q => AOk H A ∧ ∃ ds r, RpBs K H A vs ds ∧ bltop b ds = some r ∧ ∀ v H', Same H H' → Rp K H' A v r → Q v H'

theorem alike_all {xs : List D} (h : alikeB xs = true) : PySem.W.AllAlike xs := fun d hd d' hd' => by
  unfold alikeB at h
  rw [List.all_eq_true] at h
  have h1 := h d hd
  rw [List.all_eq_true] at h1
  exact h1 d' hd'
theorem plain_all {xs : List D} (h : plainB xs = true) : ∀ x ∈ xs, x.plain = true ∧ x.depth ≤ 60 := fun x hx => by
  unfold plainB at h
  rw [List.all_eq_true] at h
  exact ⟨(and2 (h x hx)).1, of_decide_eq_true (and2 (h x hx)).2⟩
theorem plainAll_of : ∀ {xs : List D}, (∀ x ∈ xs, x.plain = true) → PyData.plainAll xs = true
  | [], _ => rfl
  | x :: xs, h => by
    simp only [PyData.plainAll, Bool.and_eq_true]
    exact ⟨h x (by simp), plainAll_of fun y hy => h y (by simp [hy])⟩
theorem depthAll_of : ∀ {xs : List D}, (∀ x ∈ xs, x.depth ≤ 60) → PyData.depthAll xs ≤ 60
  | [], _ => by simp [PyData.depthAll]
  | x :: xs, h => by
    have h1 := h x (by simp)
    have h2 := depthAll_of (xs := xs) fun y hy => h y (by simp [hy])
    simp only [PyData.depthAll]
    omega
theorem sort_all0 {xs : List D} (h : sortB0 xs = true) : PySem.W.Sortable xs := by
  unfold sortB0 at h
  rw [Bool.or_eq_true, List.all_eq_true, List.all_eq_true] at h
  rcases h with h | h
  · refine .inl fun d hd => ?_
    have := h d hd
    split at this
    · exact ⟨_, _, rfl⟩
    · cases this
  · refine .inr fun d hd => ?_
    have := h d hd
    split at this
    · cases this
    · cases this
    · rename_i h1 h2
      exact ⟨h2, h1⟩
theorem sort_all {xs : List D} (h : sortB xs = true) : SortsOk xs := by
  unfold sortB at h
  rw [Bool.or_eq_true] at h
  rcases h with h | h
  · exact .inl (sort_all0 h)
  · obtain ⟨h1, h2⟩ := and2 h
    refine .inr ⟨fun d hd => ?_, ?_⟩
    · have := List.all_eq_true.mp h2 d hd
      cases d <;> first | exact ⟨_, rfl⟩ | cases this
    · cases xs with
      | nil => cases h1
      | cons d r =>
        cases d with
        | tuple ys =>
          cases ys with
          | nil => rfl
          | cons _ _ => cases h1
        | _ => cases h1
theorem none_all {xs : List D} (h : noNone xs = true) : ∀ x ∈ xs, x ≠ .none := fun x hx e => by
  unfold noNone at h
  rw [List.all_eq_true] at h
  have := h x hx
  subst e
  cases this

section
variable {X : Cx} {A : List Addr}
theorem each_zip {K : PySem.W.Frag} {H : Hp} : ∀ {vs : List V} {ds : List D} {its : List Value}, RpL K H A vs ds → Vals vs its → PySem.W.EachIs (fun v (b : V × D) => RelV b.1 v ∧ Rp K H A b.1 b.2) its (vs.zip ds)
  | _, _, _, .nil, .nil => .nil
  | _, _, _, .cons h r, .cons q t => .cons ⟨q, h⟩ (each_zip r t)
theorem each_back {K : PySem.W.Frag} {H : Hp} : ∀ {its : List Value} {bs : List (V × D)}, PySem.W.EachIs (fun v (b : V × D) => RelV b.1 v ∧ Rp K H A b.1 b.2) its bs → Vals (bs.map (·.1)) its ∧ RpL K H A (bs.map (·.1)) (bs.map (·.2))
  | _, _, .nil => ⟨.nil, .nil⟩
  | _, _, .cons h r => ⟨.cons h.1 (each_back r).1, .cons h.2 (each_back r).2⟩
theorem each_reads {pins : List (Addr × Obj)} {s : Shared} {σ : L2.St} {H : Hp} (I : Inv X pins σ H s) : ∀ {its : List Value} {bs : List (V × D)}, (∀ b ∈ bs, b.2.plain = true) → PySem.W.EachIs (fun v (b : V × D) => RelV b.1 v ∧ Rp X.K H A b.1 b.2) its bs → PySem.W.EachIs (fun v (b : V × D) => ∃ as, Reads s.heap v b.2 as) its bs
  | _, _, _, .nil => .nil
  | _, _, p, .cons h r => .cons (Dp.reads I _ _ _ (h.2.dp (p _ (by simp))) h.1) (each_reads I (fun b hb => p b (by simp [hb])) r)
theorem snd_zip {vs : List V} {ds : List D} (h : vs.length = ds.length) : (vs.zip ds).map (·.2) = ds := List.map_snd_zip (by omega)
theorem zip_mem {vs : List V} {ds : List D} {b : V × D} (h : b ∈ vs.zip ds) : b.2 ∈ ds := (List.of_mem_zip h).2
theorem sort_zip {vs : List V} {ds : List D} (h : vs.length = ds.length) : ((vs.zip ds).mergeSort (PySem.W.dataLe false (fun b : V × D => b.2))).map (·.2) = sortD ds := by
  unfold sortD
  have e := List.map_mergeSort (r := PySem.W.dataLe false (fun b : V × D => b.2)) (s := fun a b : D => !PySem.W.dataLt b a) (f := fun x : V × D => x.2) (l := vs.zip ds) (fun a _ b _ => rfl)
  rw [e, snd_zip h]

theorem cr_sortedD (hu : X.A.units + 70 < cLine) : CallR X (.builtin "sorted") (fun vs H Q => AOk H A ∧ ∃ a xs ds, vs = [.ref a] ∧ SqL X.K H a xs ∧ RpL X.K H A xs ds ∧ (alikeB ds && plainB ds && sortB ds) = true ∧ ∀ v H', Same H H' → Rp X.K H' A v (.list (sortD ds)) → Q v H') := by
  intro pins s σ H vs us Q I r h
  obtain ⟨hA, a, xs, ds, rfl, hx, hr, hc, q⟩ := h
  obtain ⟨h1, h2, h3⟩ := and3 hc
  obtain ⟨its, rv, hl, hz⟩ := I.list hx
  rw [Vals.ref1 r]
  have hlen := hr.length
  have e := each_zip hr rv
  have hp := plain_all h2
  have er := each_reads I (fun b hb => (hp _ (zip_mem hb)).1) e
  have hm := snd_zip hlen
  refine sorted_lst (enc := fun b : V × D => b.2) hl.isList e er (by rw [hm]; exact alike_all h1) (by rw [hm]; exact sort_all h3) (by rw [List.length_zip]; omega)
    (fun b hb => by have := (hp _ (zip_mem hb)).2; show X.A.units + 2 + b.2.depth < cLine; omega) fun out ho eo => ?_
  obtain ⟨ep, he'⟩ := PyProof.Rows.sortedAll_at s.heap its out.toArray
  obtain ⟨v1, r1⟩ := each_back eo
  rw [sort_zip hlen] at r1
  have np : H (s.heap.objs.size + 1) = none := I.hok.fresh (Nat.le_succ _)
  have hlen2 : (((xs.zip ds).mergeSort (PySem.W.dataLe false (fun b : V × D => b.2))).map (·.1)).length ≤ sizeLine := by
    rw [List.length_map, List.length_mergeSort, List.length_zip]; omega
  exact ⟨.ref _, upd H (s.heap.objs.size + 1) (.lst (((xs.zip ds).mergeSort (PySem.W.dataLe false (fun b : V × D => b.2))).map (·.1))), I.laid (t' := s.toks) (fun _ _ => PyProof.Rows.sortedAll_old) (Nat.le_succ _) ⟨hlen2, out, ep, v1, by simpa using he'⟩, rfl,
    q _ _ (same_upd np) (.lst (.inl ⟨.inl upd_same, hA.fresh np⟩) (r1.same (same_upd np)))⟩

theorem cr_sortedDT (hu : X.A.units + 70 < cLine) : CallR X (.builtin "sorted") (fun vs H Q => AOk H A ∧ ∃ a xs ds, vs = [.ref a] ∧ SqT X.K H a xs ∧ RpL X.K H A xs ds ∧ (alikeB ds && plainB ds && sortB ds) = true ∧ ∀ v H', Same H H' → Rp X.K H' A v (.list (sortD ds)) → Q v H') := by
  intro pins s σ H vs us Q I r h
  obtain ⟨hA, a, xs, ds, rfl, hx, hr, hc, q⟩ := h
  obtain ⟨h1, h2, h3⟩ := and3 hc
  obtain ⟨its, rv, hl, hz⟩ := I.tuple hx
  rw [Vals.ref1 r]
  have hlen := hr.length
  have e := each_zip hr rv
  have hp := plain_all h2
  have er := each_reads I (fun b hb => (hp _ (zip_mem hb)).1) e
  have hm := snd_zip hlen
  refine sorted_tup (enc := fun b : V × D => b.2) (show s.heap.IsTuple a its.toArray from hl) e er (by rw [hm]; exact alike_all h1) (by rw [hm]; exact sort_all h3) (by rw [List.length_zip]; omega)
    (fun b hb => by have := (hp _ (zip_mem hb)).2; show X.A.units + 2 + b.2.depth < cLine; omega) fun out ho eo => ?_
  obtain ⟨ep, he'⟩ := PyProof.Rows.sortedAll_at s.heap its out.toArray
  obtain ⟨v1, r1⟩ := each_back eo
  rw [sort_zip hlen] at r1
  have np : H (s.heap.objs.size + 1) = none := I.hok.fresh (Nat.le_succ _)
  have hlen2 : (((xs.zip ds).mergeSort (PySem.W.dataLe false (fun b : V × D => b.2))).map (·.1)).length ≤ sizeLine := by
    rw [List.length_map, List.length_mergeSort, List.length_zip]; omega
  exact ⟨.ref _, upd H (s.heap.objs.size + 1) (.lst (((xs.zip ds).mergeSort (PySem.W.dataLe false (fun b : V × D => b.2))).map (·.1))), I.laid (t' := s.toks) (fun _ _ => PyProof.Rows.sortedAll_old) (Nat.le_succ _) ⟨hlen2, out, ep, v1, by simpa using he'⟩, rfl,
    q _ _ (same_upd np) (.lst (.inl ⟨.inl upd_same, hA.fresh np⟩) (r1.same (same_upd np)))⟩

theorem cr_strS : CallR X (.type "str") (fun xs H Q => ∃ a, xs = [.str a] ∧ Q (.str a) H) := by
  intro pins s σ H xs us Q I r h
  obtain ⟨a, rfl, q⟩ := h
  obtain ⟨u, rfl, t, rfl⟩ := vals1 r
  exact PySem.P.str_of_str ⟨.str a, H, I, ⟨t, rfl⟩, q⟩
theorem best_at {pins : List (Addr × Obj)} {s : Shared} {σ : L2.St} {H : Hp} {xs : List V} {ds : List D} {its : List Value} {i : Nat} {v : Value} {h' : Heap} {bs : List Addr} {m : D} (I : Inv X pins σ H s) (hr : RpL X.K H A xs ds) (rv : Vals xs its)
    (hp : ∀ x ∈ ds, x.plain = true ∧ x.depth ≤ 60) (hv : its.toArray[i]? = some v) (rd : Reads h' v m bs) (k : ∀ b o, s.heap.get? b = some o → h'.get? b = some o) : ∃ y, RelV y v ∧ Rp X.K H A y m := by
  have hv' : its[i]? = some v := by simpa using hv
  have hi : i < xs.length := by
    have := (List.getElem?_eq_some_iff.mp hv').1
    rw [rv.length]; exact this
  have hx : xs[i]? = some xs[i] := List.getElem?_eq_getElem hi
  obtain ⟨u, e1, r1⟩ := rv.get hx
  rw [hv'] at e1
  cases e1
  obtain ⟨d, e2, r2⟩ := hr.get hx
  have pd := (hp d (List.mem_of_getElem? e2)).1
  obtain ⟨as, rd2⟩ := Dp.reads I d xs[i] v (r2.dp pd) r1
  have : d = m := SeqAt.plain_unique d m v as bs pd (PyProof.Rows.Reads.keeps k rd2) rd
  subst this
  exact ⟨_, r1, r2⟩
theorem best_pre {pins : List (Addr × Obj)} {s : Shared} {σ : L2.St} {H : Hp} {xs : List V} {ds : List D} {its : List Value} (I : Inv X pins σ H s) (hr : RpL X.K H A xs ds) (rv : Vals xs its) (h : (alikeB ds && plainB ds && noNone ds) = true) :
    (∃ as, ReadsAll s.heap its.toArray.toList ds as) ∧ PySem.W.AlikeAll ds ∧ PyData.depthAll ds ≤ 60 := by
  obtain ⟨h1, h2, h3⟩ := and3 h
  have hp := plain_all h2
  refine ⟨Dp.readsAll I ds xs its (hr.dp (plainAll_of fun x hx => (hp x hx).1)) rv, ⟨fun x hx y hy => alike_all h1 x hx y hy, none_all h3⟩, depthAll_of fun x hx => (hp x hx).2⟩

theorem clr_bn (hc : X.calm = true) (hu : X.A.units + 70 < cLine) (b : Bn) : CallR X b.val (rBn X.K A b) := by
  intro pins s σ H vs us Q I r h
  obtain ⟨hA, ds, d, hd, hf, q⟩ := h
  have hh := I.ok.hd hc
  unfold bltop at hf
  split at hf
  · cases hf
    obtain ⟨v, rfl, x⟩ := hd.one
    obtain ⟨a, xs, rfl, hx, hr⟩ := x
    exact call_len_seq pins s σ H _ us Q I r ⟨a, xs, rfl, .inl hx, by rw [hr.length]; exact q _ _ (Same.refl _) (.int _)⟩
  · cases hf
    obtain ⟨v, rfl, x⟩ := hd.one
    obtain ⟨a, xs, rfl, hx, hr⟩ := x.tuple
    exact call_len_seq pins s σ H _ us Q I r ⟨a, xs, rfl, .inr hx.t, by rw [hr.length]; exact q _ _ (Same.refl _) (.int _)⟩
  · obtain ⟨h1, rfl⟩ := ite_some hf
    obtain ⟨v, rfl, x⟩ := hd.one
    exact call_len_str pins s σ H _ us Q I r ⟨_, by rw [x.str], sm_le h1, q _ _ (Same.refl _) (.int _)⟩
  · obtain ⟨v, rfl, x⟩ := hd.one
    rcases x with ⟨a, kvs, ds, rfl, hx, hr, rfl⟩ | ⟨a, xs, ks, ds, rfl, hx, hk, hkk, hr, rfl, hne⟩
    · have hf : (if isX (zipE kvs ds) then none else some (PyData.int (zipE kvs ds).length)) = some d := hf
      rw [isX_zip] at hf
      have hf : some (PyData.int (zipE kvs ds).length) = some d := hf
      cases hf
      rw [Vals.ref1 r]
      refine d_len I hx fun t s' I' => ⟨.int kvs.length, H, I', ⟨t, rfl⟩, ?_⟩
      have e : ((kvs.map fun p => keyD p.1).zip ds).length = kvs.length := by
        have := hr.length
        rw [List.length_map] at this
        rw [List.length_zip, List.length_map, this, Nat.min_self]
      have q : ∀ v H', Same H H' → Rp X.K H' A v (.int (((kvs.map fun p => keyD p.1).zip ds).length : Nat)) → Q v H' := q
      rw [e] at q
      exact q _ _ (Same.refl _) (.int _)
    · rw [isX_keys hkk (rpl_len2 hkk hr) hne] at hf; cases hf
  · cases hf
    obtain ⟨v, rfl, x⟩ := hd.one
    exact call_int1 pins s σ H _ us Q I r (.inl ⟨_, by rw [x.int], q _ _ (Same.refl _) (.int _)⟩)
  · cases hf
    obtain ⟨v, rfl, x⟩ := hd.one
    exact call_int1 pins s σ H _ us Q I r (.inr ⟨_, by rw [x.bool], q _ _ (Same.refl _) (.int _)⟩)
  · obtain ⟨h1, hf⟩ := (show _ ∧ _ from (by
      rename_i z
      by_cases hz : decide (z.length ≤ 600) = true
      · rw [if_pos hz] at hf; exact ⟨hz, hf⟩
      · rw [if_neg hz] at hf; cases hf))
    obtain ⟨n, e1, rfl⟩ := Option.map_eq_some_iff.mp hf
    obtain ⟨v, rfl, x⟩ := hd.one
    exact call_int_str pins s σ H _ us Q I r ⟨_, n, by rw [x.str], e1, Nat.le_trans (of_decide_eq_true h1) (by decide), q _ _ (Same.refl _) (.int _)⟩
  · cases hf
    obtain ⟨v, rfl, x⟩ := hd.one
    exact cr_strS pins s σ H _ us Q I r ⟨_, by rw [x.str], q _ _ (Same.refl _) (.str _)⟩
  · obtain ⟨h1, rfl⟩ := ite_some hf
    obtain ⟨v, rfl, x⟩ := hd.one
    exact call_str_int pins s σ H _ us Q I r ⟨_, by rw [x.int], of_decide_eq_true h1, q _ _ (Same.refl _) (.str _)⟩
  · cases hf
    obtain ⟨v, rfl, x⟩ := hd.one
    obtain ⟨a, xs, rfl, hx, hr⟩ := x
    exact call_list_of pins s σ H _ us Q I r ⟨a, xs, rfl, .inl hx, fun p np => q _ _ (same_upd np) (.lst (.inl ⟨.inl upd_same, hA.fresh np⟩) (hr.same (same_upd np)))⟩
  · cases hf
    obtain ⟨v, rfl, x⟩ := hd.one
    obtain ⟨a, xs, rfl, hx, hr⟩ := x.tuple
    exact call_list_of pins s σ H _ us Q I r ⟨a, xs, rfl, .inr hx.t, fun p np => q _ _ (same_upd np) (.lst (.inl ⟨.inl upd_same, hA.fresh np⟩) (hr.same (same_upd np)))⟩
  · cases hf
    obtain ⟨v, rfl, x⟩ := hd.one
    obtain ⟨a, xs, rfl, hx, hr⟩ := x
    exact call_tuple_ofE pins s σ H _ us Q I r ⟨a, xs, rfl, .inl ⟨hx, fun p o np on => q _ _ (same_upd np) (.tup (.inl ⟨o, upd_same, on⟩) (hr.same (same_upd np)))⟩⟩
  · cases hf
    obtain ⟨v, rfl, x⟩ := hd.one
    obtain ⟨a, xs, rfl, hx, hr⟩ := x.tuple
    exact call_tuple_of pins s σ H _ us Q I r ⟨a, xs, rfl, .inr ⟨hx.t, q _ _ (Same.refl _) (.tup hx hr)⟩⟩
  · obtain ⟨ns, e1, rfl⟩ := Option.map_eq_some_iff.mp hf
    obtain ⟨v, rfl, x⟩ := hd.one
    obtain ⟨a, xs, rfl, hx, hr⟩ := x
    have e2 := intsOf_eq e1
    subst e2
    rw [hr.ints] at hx
    exact cr_sum hc pins s σ H _ us Q I r ⟨a, ns, rfl, hx, q _ _ (Same.refl _) (.int _)⟩
  · cases hf
    obtain ⟨v, u, rfl, x, y⟩ := hd.two
    exact call_max2 hc pins s σ H _ us Q I r ⟨_, _, by rw [x.int, y.int], q _ _ (Same.refl _) (.int _)⟩
  · cases hf
    obtain ⟨v, u, rfl, x, y⟩ := hd.two
    exact call_min2 hc pins s σ H _ us Q I r ⟨_, _, by rw [x.int, y.int], q _ _ (Same.refl _) (.int _)⟩
  · obtain ⟨h1, rfl⟩ := ite_some hf
    obtain ⟨v, rfl, x⟩ := hd.one
    obtain ⟨a, xs, rfl, hx, hr⟩ := x
    obtain ⟨its, rv, pl, _⟩ := I.list hx
    obtain ⟨⟨as, p1⟩, p2, p3⟩ := best_pre I hr rv h1
    rw [Vals.ref1 r]
    refine PySem.W.max_list_data hh pl.isList p1 p2 (by omega) fun i v h' tk bs e1 e2 e3 => ?_
    obtain ⟨y, r1, r2⟩ := best_at I hr rv (plain_all (and3 h1).2.1) e1 e2 e3
    exact ⟨y, H, I.kept (t' := tk) e3, r1, q _ _ (Same.refl _) r2⟩
  · obtain ⟨h1, rfl⟩ := ite_some hf
    obtain ⟨v, rfl, x⟩ := hd.one
    obtain ⟨a, xs, rfl, hx, hr⟩ := x
    obtain ⟨its, rv, pl, _⟩ := I.list hx
    obtain ⟨⟨as, p1⟩, p2, p3⟩ := best_pre I hr rv h1
    rw [Vals.ref1 r]
    refine PySem.W.min_list_data hh pl.isList p1 p2 (by omega) fun i v h' tk bs e1 e2 e3 => ?_
    obtain ⟨y, r1, r2⟩ := best_at I hr rv (plain_all (and3 h1).2.1) e1 e2 e3
    exact ⟨y, H, I.kept (t' := tk) e3, r1, q _ _ (Same.refl _) r2⟩
  · obtain ⟨h1, rfl⟩ := ite_some hf
    obtain ⟨v, rfl, x⟩ := hd.one
    obtain ⟨a, xs, rfl, hx, hr⟩ := x.tuple
    obtain ⟨its, rv, pl, _⟩ := I.tuple hx.t
    obtain ⟨⟨as, p1⟩, p2, p3⟩ := best_pre I hr rv h1
    rw [Vals.ref1 r]
    refine PySem.W.max_tuple_data hh (show s.heap.IsTuple a its.toArray from pl) p1 p2 (by omega) fun i v h' tk bs e1 e2 e3 => ?_
    obtain ⟨y, r1, r2⟩ := best_at I hr rv (plain_all (and3 h1).2.1) e1 e2 e3
    exact ⟨y, H, I.kept (t' := tk) e3, r1, q _ _ (Same.refl _) r2⟩
  · obtain ⟨h1, rfl⟩ := ite_some hf
    obtain ⟨v, rfl, x⟩ := hd.one
    obtain ⟨a, xs, rfl, hx, hr⟩ := x.tuple
    obtain ⟨its, rv, pl, _⟩ := I.tuple hx.t
    obtain ⟨⟨as, p1⟩, p2, p3⟩ := best_pre I hr rv h1
    rw [Vals.ref1 r]
    refine PySem.W.min_tuple_data hh (show s.heap.IsTuple a its.toArray from pl) p1 p2 (by omega) fun i v h' tk bs e1 e2 e3 => ?_
    obtain ⟨y, r1, r2⟩ := best_at I hr rv (plain_all (and3 h1).2.1) e1 e2 e3
    exact ⟨y, H, I.kept (t' := tk) e3, r1, q _ _ (Same.refl _) r2⟩
  · obtain ⟨h1, rfl⟩ := ite_some hf
    obtain ⟨v, rfl, x⟩ := hd.one
    obtain ⟨a, xs, rfl, hx, hr⟩ := x
    exact cr_sortedD hu pins s σ H _ us Q I r ⟨hA, a, xs, _, rfl, hx, hr, h1, q⟩
  · obtain ⟨h1, rfl⟩ := ite_some hf
    obtain ⟨v, rfl, x⟩ := hd.one
    obtain ⟨a, xs, rfl, hx, hr⟩ := x.tuple
    exact cr_sortedDT hu pins s σ H _ us Q I r ⟨hA, a, xs, _, rfl, hx.t, hr, h1, q⟩
  · cases hf
end
end Pv

end
section
namespace Pv
open PySem PySem.Spec PyProof.Rows L2

/-! ### set(list of numbers) -/
abbrev ob0 (w : World) : Obj := { cls := .type "set", dict := none, data := .set #[] 0 (.fresh 0 0 (!w.params.followText "set-order")) }
section
variable {P : Program} {w : World} {A : Around} {E : Value → Shared → Prop} {s : Shared}
set_option maxHeartbeats 3200000 in
theorem set_of_list {l : Addr} {xs : Array Value} (ns : List Int) {Q : Value → Shared → Prop} (hh : A.handled = none) (hl : s.heap.IsList l xs) (hit : IntsAre xs.toList ns) (hb : ns.length + 1 < scanBound)
    (h : ∀ (h' : Heap) (tk c : Nat), SetR w h' s.heap.objs.size (fun j => decide (j ∈ ns)) c → c ≤ ns.length → (∀ b o, s.heap.get? b = some o → h'.get? b = some o) → Q (.ref s.heap.objs.size) { s with heap := h', toks := tk }) :
    wpAny (model P w) A (call (.type "set") [.ref l]) Q E s := by
  have hsz : xs.size = ns.length := by have q := IntsAre.length hit; rw [Array.length_toList] at q; exact q
  have hm1 := F.called_set.made; have hs1 := F.called_set.sub; obtain ⟨c, tl, hmro⟩ := F.called_set.mro
  have h1 := F.called_set.notType; have h2 := F.called_set.canCreate; have hct := F.typeCall_set_1 (.ref l)
  refine wpAny_call (codeAny_of_tree (show wpAny _ _ (callAny (.type "set") _) _ _ _ from ?_))
  refine wpAny_pure ⟨Code.quiet_builtin _ (by decide +kernel), codeAny_builtin F.entry_type_call ?_⟩
  rw [Around.under_plain (weight_type_call_type "set" [.ref l] []) rfl]
  repeat (any_goals (first | assumption | wp_step))
  refine codeAny_mono (code_set_led1 (.ref l) (E := E) (Q₁ := fun obj s₁ => obj = .ref s.heap.objs.size ∧ s₁ = { s with heap := s.heap.push (ob0 w) }) ⟨rfl, rfl⟩) fun r s₁ hr => ?_
  cases r with
  | error e => exact hr
  | ok fl =>
    cases fl with
    | ret obj =>
      obtain ⟨rfl, rfl⟩ := hr
      have hS : (s.heap.push (ob0 w)).get? s.heap.objs.size = some (ob0 w) := Heap.get?_push_size _ rfl
      have hT : Shared.TypeIs { s with heap := s.heap.push (ob0 w) } (.ref s.heap.objs.size) "set" := ⟨_, hS, rfl⟩
      have hli := F.called_set.init.lookup; have hbi := F.called_set.init.bind (.ref s.heap.objs.size)
      repeat (any_goals (first | assumption | wp_step))
      refine codeAny_mono (codeAny_call_builtin (R := wants (fun r s₂ => r = .none ∧ ∃ h' tk c, s₂ = { s with heap := h', toks := tk } ∧ SetR w h' s.heap.objs.size (fun j => decide (j ∈ ns)) c ∧ c ≤ ns.length ∧ (∀ b o, s.heap.get? b = some o → h'.get? b = some o)) E) F.called_set.init.plain F.entry_set_init (check_set_init_1 hT ?_)) fun r₂ s₂ hr₂ => ?_
      · obtain ⟨⟨ocls, odict, odata, oslots⟩, hol, hcl, nl, hdl⟩ := hl
        simp only at hcl hdl
        subst hcl
        subst hdl
        have hol' : (s.heap.push (ob0 w)).get? l = some { cls := .type "list", dict := odict, data := .seq xs nl, slots := oslots } := Heap.get?_push_of_some _ hol
        have g1 := F.sub_list_set; have g2 := F.sub_list_frozenset; have g3 : (Value.type "list" == Value.type "dict") = false := by decide
        have hl1 : (s.heap.push (ob0 w)).IsList l xs := ⟨_, hol', rfl, nl, rfl⟩
        unfold Builtin.«set.__init__» noKeywords Builtin.Frozenset.updateFrom
        generalize hPI : pyIter = PI
        wp_walk
        subst hPI
        refine wpAny_pyIter_list hl1 (wpAny_bind (wpAny_runValue ?_))
        have hlS : l < s.heap.objs.size := Heap.lt_size hol
        have hh3 : A.in1.in1.in1.handled = none := by simp [hh]
        have hz1 : (s.heap.push (ob0 w)).objs.size = s.heap.objs.size + 1 := Heap.size_push ..
        have hne : l ≠ (s.heap.push (ob0 w)).objs.size := by rw [hz1]; exact Nat.ne_of_lt (Nat.lt_succ_of_lt hlS)
        have hSf : s.heap.objs.size ∉ [(s.heap.push (ob0 w)).objs.size, l] := by
          rw [hz1]; simp only [List.mem_cons, List.mem_singleton, List.not_mem_nil, or_false, not_or]; exact ⟨Nat.ne_of_lt (Nat.lt_succ_self _), Nat.ne_of_gt hlS⟩
        have hval : ∀ (i : Nat) (v : Value), xs[i]? = some v → ∃ k t, ns[i]? = some k ∧ v = .int k t := fun i v hv => by
          have hi : i < ns.length := by rw [← hsz]; exact (Array.getElem?_eq_some_iff.mp hv).1
          obtain ⟨t, e⟩ := PyProof.Rows.IntsAre.int_at hit i v (by rw [Array.getElem?_toList]; exact hv)
          exact ⟨ns[i], t, List.getElem?_eq_getElem hi, by rw [e, List.getD_eq_getElem?_getD, List.getElem?_eq_getElem hi] <;> rfl⟩
        refine set_update_ints ((Walks.list hh3 _ l hne xs).toS) s.heap.objs.size hSf ns hsz hb hval (xs.size - 0) 0 _ (by omega) (Nat.zero_le _) ⟨⟨_, Heap.get?_push_size _ rfl, rfl, rfl⟩, (hl1.push _)⟩ ?hS0 ?hR
        case hS0 => exact ⟨0, Nat.le_refl 0, setR_new_at (Heap.get?_push_of_some _ hS)⟩
        case hR =>
          intro s' c' hm hc' hS'
          obtain ⟨h', g2, d', tk', os'⟩ := s'
          have eg : g2 = s.gens := hm.gens
          have ed : d' = s.drawn := hm.drawn
          have eo : os' = s.os := hm.os
          subst eg; subst ed; subst eo
          show wpAny _ _ _ _ _ _
          refine wpAny_pure ?_
          show wpAny _ _ (ret Value.none) _ _ _
          rw [hsz] at hc'
          refine wpAny_pure ⟨rfl, h', tk', c', rfl, hS', hc', fun b o e => ?_⟩
          have hb0 : b < s.heap.objs.size := Heap.lt_size e
          refine hm.heap b o ?_ (Heap.get?_push_of_some _ (Heap.get?_push_of_some _ e))
          rw [hz1]; simp only [List.mem_cons, List.mem_singleton, List.not_mem_nil, or_false, not_or]; exact ⟨Nat.ne_of_lt hb0, Nat.ne_of_lt (Nat.lt_succ_of_lt hb0)⟩
      · cases r₂ with
        | error e => exact hr₂
        | ok fl₂ =>
          cases fl₂ with
          | ret r =>
            obtain ⟨rfl, h', tk, c', rfl, hS', hc', hk'⟩ := hr₂
            repeat (any_goals (first | assumption | wp_step))
            exact h _ _ _ hS' hc' hk'
          | _ => exact hr₂.elim
    | _ => exact hr.elim
end
end Pv

end
section
namespace Pv
open PySem PySem.Spec PyProof.Rows L2

/-! ### the judgements by data -/
abbrev Calls := Str → List D → Res D
def Rt (mg : Str → Option Value) (W : WX) (P : Hp → V → D → Prop) (H : Hp) (σ : L2.St) (Q : VK) : Res D → Prop
  | .st => False
  | .ok d => ∀ v H', Same H H' → P H' v d → Q v H'
  | .ex c => ∀ C H', Same H H' → mg c = some (.ref C) → W (.ref C) none σ H'
def RtL (mg : Str → Option Value) (W : WX) (P : Hp → List V → List D → Prop) (H : Hp) (σ : L2.St) (Q : List V → Hp → Prop) : Res (List D) → Prop
  | .st => False
  | .ok d => ∀ v H', Same H H' → P H' v d → Q v H'
  | .ex c => ∀ C H', Same H H' → mg c = some (.ref C) → W (.ref C) none σ H'
def RtB (mg : Str → Option Value) (W : WX) (H : Hp) (σ : L2.St) (Q : Bool → Hp → Prop) : Res D → Prop
  | .st => False
  | .ok (.bool b) => ∀ H', Same H H' → Q b H'
  | .ok _ => False
  | .ex c => ∀ C H', Same H H' → mg c = some (.ref C) → W (.ref C) none σ H'
abbrev PSh := PySem.W.Frag → List Addr → Hp → V → D → Prop
abbrev pE : PSh := fun K A H v d => Rp K H A v d
abbrev pB : PSh := fun K A H v d => RpB K H A v d
abbrev PLh := PySem.W.Frag → List Addr → Hp → List V → List D → Prop
abbrev pEs : PLh := fun K A H v d => RpL K H A v d
abbrev pBs : PLh := fun K A H v d => RpBs K H A v d
def tX (K : PySem.W.Frag) (mg : Str → Option Value) (W : WX) (P : PSh) (f : Env → Res D) : TE := fun σ H Q => ∃ A O ρ, AOk H A ∧ EnvOk K H A O σ ρ ∧ Rt mg W (P K A) H σ Q (f ρ)
def tXs (K : PySem.W.Frag) (mg : Str → Option Value) (W : WX) (P : PLh) (f : Env → Res (List D)) : TA := fun σ H Q => ∃ A O ρ, AOk H A ∧ EnvOk K H A O σ ρ ∧ RtL mg W (P K A) H σ Q (f ρ)
def tXT (K : PySem.W.Frag) (mg : Str → Option Value) (W : WX) (f : Env → Res D) : TT := fun σ H Q => ∃ A O ρ, AOk H A ∧ EnvOk K H A O σ ρ ∧ RtB mg W H σ Q (f ρ)

section
variable {K : PySem.W.Frag} {mg : Str → Option Value} {W : WX} {P P1 : Hp → V → D → Prop} {PL : Hp → List V → List D → Prop} {H H1 : Hp} {σ : L2.St} {Q Q1 : VK} {QL QL1 : List V → Hp → Prop} {QB : Bool → Hp → Prop}
theorem Rt.same {r : Res D} (h : Rt mg W P H σ Q r) (s : Same H H1) : Rt mg W P H1 σ Q r := by
  cases r with
  | st => exact h
  | ok d => exact fun v H' s' p => h v H' (s.trans s') p
  | ex c => exact fun C H' s' p => h C H' (s.trans s') p
theorem RtL.same {r : Res (List D)} (h : RtL mg W PL H σ QL r) (s : Same H H1) : RtL mg W PL H1 σ QL r := by
  cases r with
  | st => exact h
  | ok d => exact fun v H' s' p => h v H' (s.trans s') p
  | ex c => exact fun C H' s' p => h C H' (s.trans s') p
theorem RtB.same {r : Res D} (h : RtB mg W H σ QB r) (s : Same H H1) : RtB mg W H1 σ QB r := by
  cases r with
  | st => exact h
  | ok d => cases d <;> first | exact h | exact fun H' s' => h H' (s.trans s')
  | ex c => exact fun C H' s' p => h C H' (s.trans s') p
/-- from the whole to its first part -/
theorem Rt.bind {m : Res D} {g : D → Res D} (h : Rt mg W P H σ Q (m >>= g)) (k : ∀ d v H1, Same H H1 → P1 H1 v d → Rt mg W P H1 σ Q (g d) → Q1 v H1) : Rt mg W P1 H σ Q1 m := by
  cases m with
  | st => exact h
  | ok d => exact fun v H1 s p => k d v H1 s p (Rt.same h s)
  | ex c => exact h
theorem Rt.bindL {m : Res (List D)} {g : List D → Res D} (h : Rt mg W P H σ Q (m >>= g)) (k : ∀ d v H1, Same H H1 → PL H1 v d → Rt mg W P H1 σ Q (g d) → QL v H1) : RtL mg W PL H σ QL m := by
  cases m with
  | st => exact h
  | ok d => exact fun v H1 s p => k d v H1 s p (Rt.same h s)
  | ex c => exact h
theorem RtL.bind {m : Res D} {g : D → Res (List D)} (h : RtL mg W PL H σ QL (m >>= g)) (k : ∀ d v H1, Same H H1 → P1 H1 v d → RtL mg W PL H1 σ QL (g d) → Q1 v H1) : Rt mg W P1 H σ Q1 m := by
  cases m with
  | st => exact h
  | ok d => exact fun v H1 s p => k d v H1 s p (RtL.same h s)
  | ex c => exact h
theorem RtL.bindL {PL1 : Hp → List V → List D → Prop} {m : Res (List D)} {g : List D → Res (List D)} (h : RtL mg W PL H σ QL (m >>= g)) (k : ∀ d v H1, Same H H1 → PL1 H1 v d → RtL mg W PL H1 σ QL (g d) → QL1 v H1) : RtL mg W PL1 H σ QL1 m := by
  cases m with
  | st => exact h
  | ok d => exact fun v H1 s p => k d v H1 s p (RtL.same h s)
  | ex c => exact h
theorem RtB.bind {m : Res D} {g : D → Res D} (h : RtB mg W H σ QB (m >>= g)) (k : ∀ d v H1, Same H H1 → P1 H1 v d → RtB mg W H1 σ QB (g d) → Q1 v H1) : Rt mg W P1 H σ Q1 m := by
  cases m with
  | st => exact h
  | ok d => exact fun v H1 s p => k d v H1 s p (RtB.same h s)
  | ex c => exact h
/-- a test that comes first -/
theorem Rt.test {m : Res D} {g : Bool → Res D} {QB : Bool → Hp → Prop} (h : Rt mg W P H σ Q (m >>= fun d => match d with | .bool b => g b | _ => .st)) (k : ∀ b H1, Same H H1 → Rt mg W P H1 σ Q (g b) → QB b H1) : RtB mg W H σ QB m := by
  cases m with
  | st => exact h
  | ok d => cases d <;> first | exact h | exact fun H1 s => k _ H1 s (Rt.same h s)
  | ex c => exact h
theorem RtB.test {m : Res D} {g : Bool → Res D} {QB1 : Bool → Hp → Prop} (h : RtB mg W H σ QB (m >>= fun d => match d with | .bool b => g b | _ => .st)) (k : ∀ b H1, Same H H1 → RtB mg W H1 σ QB (g b) → QB1 b H1) : RtB mg W H σ QB1 m := by
  cases m with
  | st => exact h
  | ok d => cases d <;> first | exact h | exact fun H1 s => k _ H1 s (RtB.same h s)
  | ex c => exact h
theorem Rt.ofO {o : Option D} (h : Rt mg W P H σ Q (Res.ofO o)) : ∃ r, o = some r ∧ ∀ v H', Same H H' → P H' v r → Q v H' := by
  cases o with
  | none => exact h.elim
  | some r => exact ⟨r, rfl, h⟩
end

/-! ### the context of an expression -/
/-- a class by its name -/
def ClsN (mg : Str → Option Value) (y : Str) (k : V) (u : Value) : Prop := ClsV k u ∧ (mg y = some u ∨ (mg y = none ∧ bootBuiltins y = some u ∧ y ≠ ("__name__" : Str)))
/-- instances of the exception class x are (or are not) of the class y -/
def IsxHas (K : PySem.W.Frag) (mg : Str → Option Value) (x y : Str) (b : Bool) : Prop := ∃ (C : Addr) (k : V) (u : Value), mg x = some (.ref C) ∧ ExcC K C ∧ PySem.W.typeIn K (.ref C) = some (.type "type") ∧ PySem.W.subIn K (.ref C) (.ref C) = some true ∧ ClsN mg y k u ∧ PySem.W.kitOne K (.ref C) u = some b
structure Ctx where
  N : List Str
  sc : Scope
  fns : List Str
  lent : List Str
  gl : List (Str × D)
  blts : List Str
  cok : List Str
  exc : List Str
  isx : List (Str × Str × Bool)
/-- x names an exception class of the module -/
def ExcHas (K : PySem.W.Frag) (mg : Str → Option Value) (x : Str) : Prop := ∃ (C : Addr) (bmB : List Value) (B newId initId : String), mg x = some (.ref C) ∧ PySem.W.keepIn K (.ref C) = true ∧ PySem.W.subIn K (.ref C) (.type "BaseException") = some true ∧ PySem.W.typeIn K (.ref C) = some (.type "type")
  ∧ ExcBaseFacts B newId initId bmB ∧ PySem.W.excIn K C bmB newId = true
/-- what the def f promises: what Φ says -/
def spC (K : PySem.W.Frag) (mg : Str → Option Value) (Φ : Calls) (f : Str) : Sp := fun vs H Q E => ∃ A ds, AOk H A ∧ RpL K H A vs ds ∧ match Φ f ds with
  | .st => False
  | .ok d => ∀ v H', Same H H' → Rp K H' A v d → Q v H'
  | .ex c => ∀ C H', Same H H' → mg c = some (.ref C) → E (.ref C) none H'
def FnHas (X : Cx) (Φ : Calls) (f : Str) : Prop := ∃ k fa fd ps, FnOk X.prog X.w X.K X.mg X.base (L2.CX X.prog X.w) k fa fd ps (spC X.K X.mg Φ f) ∧ Room k X.A ∧ X.mg f = some (.ref fa) ∧ PySem.W.keepIn X.K (.ref fa) = true ∧ Binds X.K fd ps []
structure Ok (c : Ctx) (X : Cx) (Φ : Calls) : Prop where
  hN : X.N = c.N
  nd : c.N.Nodup
  sc : X.env.scope = c.sc
  calm : X.calm = true
  hu : X.A.units + 70 < cLine
  blt : ∀ x, x ∈ c.blts → X.mg x = none
  gl : ∀ x d, (x, d) ∈ c.gl → ∃ u v, X.mg x = some u ∧ RelV v u ∧ ∀ H A, Rp X.K H A v d
  fns : ∀ f, f ∈ c.fns → FnHas X Φ f
  exc : ∀ x, x ∈ c.exc → ExcHas X.K X.mg x
  isx : ∀ x y b, (x, y, b) ∈ c.isx → IsxHas X.K X.mg x y b
  stk : c.isx ≠ [] → X.stack = X.env :: X.outer ∧ X.env.frame = some X.env.locals
  cok : ∀ x, x ∈ c.cok → X.fn x = true
abbrev EvE := Calls → Env → Res D
abbrev EvL := Calls → Env → Res (List D)
def SX (P : PSh) (c : Ctx) (e : Expr) (f : EvE) : Prop := ∀ X Φ W, Ok c X Φ → Takes X W → PE X e (tX X.K X.mg W P (f Φ))
def SXs (P : PLh) (c : Ctx) (es : List Expr) (f : EvL) : Prop := ∀ X Φ W, Ok c X Φ → Takes X W → PA X es (tXs X.K X.mg W P (f Φ))
def ST (c : Ctx) (e : Expr) (f : EvE) : Prop := ∀ X Φ W, Ok c X Φ → Takes X W → PT X e (tXT X.K X.mg W (f Φ))
abbrev SE := SX pE
abbrev SB := SX pB

theorem peI {X : Cx} {e : Expr} {t t' : TE} (h : PE X e t) (q : ∀ σ H Q, t' σ H Q → t σ H Q) : PE X e t' := ⟨fun pins s σ H Q I x => h.run pins s σ H Q I (q σ H Q x)⟩
theorem ptI {X : Cx} {e : Expr} {t t' : TT} (h : PT X e t) (q : ∀ σ H Q, t' σ H Q → t σ H Q) : PT X e t' := ⟨fun pins s σ H Q I x => h.run pins s σ H Q I (q σ H Q x)⟩
theorem pwI {X : Cx} {e : Expr} {t t' : TT} (h : PW X e t) (q : ∀ σ H Q, t' σ H Q → t σ H Q) : PW X e t' := ⟨fun wh pins s σ H Q I x => h.run wh pins s σ H Q I (q σ H Q x)⟩
theorem paI {X : Cx} {e : List Expr} {t t' : TA} (h : PA X e t) (q : ∀ σ H Q, t' σ H Q → t σ H Q) : PA X e t' := ⟨fun pos pins s σ H Q I x => h.run pos pins s σ H Q I (q σ H Q x)⟩
theorem opX {ι : Type} {X : Cx} {f : Value → Value → Sem Value} {r : ι → R2} (h : ∀ a, OpR X f (r a)) : OpR X f (fun x y H Q => ∃ a, r a x y H Q) := fun pins s σ H x y v u Q I rx ry ⟨a, q⟩ => h a pins s σ H x y v u Q I rx ry q
theorem unX {ι : Type} {X : Cx} {f : Value → Sem Value} {r : ι → V → Hp → VK → Prop} (h : ∀ a, UnR X f (r a)) : UnR X f (fun x H Q => ∃ a, r a x H Q) := fun pins s σ H x v Q I rx ⟨a, q⟩ => h a pins s σ H x v Q I rx q
theorem ixX {ι : Type} {X : Cx} {r : ι → R2} (h : ∀ a, IxR X (r a)) : IxR X (fun x y H Q => ∃ a, r a x y H Q) := fun b c pins s σ H x y v u Q I rx ry ⟨a, q⟩ hs => h a b c pins s σ H x y v u Q I rx ry q hs
theorem slX {ι : Type} {X : Cx} {r : ι → V → Option Int → Option Int → Hp → VK → Prop} (h : ∀ a, SlR X (r a)) : SlR X (fun x l u H Q => ∃ a, r a x l u H Q) := fun pins s σ H x v vl vu lo hi sl Q I rx hs pl pu ⟨a, q⟩ => h a pins s σ H x v vl vu lo hi sl Q I rx hs pl pu q
theorem caX {ι : Type} {X : Cx} {f : Value} {r : ι → List V → Hp → VK → Prop} (h : ∀ a, CallR X f (r a)) : CallR X f (fun xs H Q => ∃ a, r a xs H Q) := fun pins s σ H xs us Q I rx ⟨a, q⟩ => h a pins s σ H xs us Q I rx q

section
variable {c : Ctx} {a b d e : Expr} {es : List Expr} {fa fb fd : EvE} {fs : EvL} {pos pos' : Pos}
theorem sx_b (h : SE c e fa) : SB c e fa := fun X Φ W ok tk => peI (h X Φ W ok tk) fun σ H Q ⟨A, O, ρ, hA, hρ, q⟩ => ⟨A, O, ρ, hA, hρ, by
  cases hf : fa Φ ρ with
  | st => rw [hf] at q; exact q
  | ok x => rw [hf] at q; exact fun v H' s p => q v H' s p.b
  | ex x => rw [hf] at q; exact q⟩
/-! constants, names -/
def atom : D → Bool
  | .none => true | .bool _ => true | .int _ => true | .str _ => true
  | _ => false
theorem se_int {i : Int} {j : Nat} : SE c (.Constant (.int i) j pos) (fun _ _ => .ok (.int i)) := fun X Φ W ok tk => peI pe_int fun σ H Q ⟨A, O, ρ, hA, hρ, q⟩ => q _ _ (Same.refl _) (.int _)
theorem se_bool {i : Bool} {j : Nat} : SE c (.Constant (.bool i) j pos) (fun _ _ => .ok (.bool i)) := fun X Φ W ok tk => peI pe_bl fun σ H Q ⟨A, O, ρ, hA, hρ, q⟩ => q _ _ (Same.refl _) (.bl _)
theorem se_none {j : Nat} : SE c (.Constant .none j pos) (fun _ _ => .ok .none) := fun X Φ W ok tk => peI pe_non fun σ H Q ⟨A, O, ρ, hA, hρ, q⟩ => q _ _ (Same.refl _) .non
theorem se_str {i : Str} {j : Nat} : SE c (.Constant (.str i) j pos) (fun _ _ => .ok (.str i)) := fun X Φ W ok tk => peI pe_str fun σ H Q ⟨A, O, ρ, hA, hρ, q⟩ => q _ _ (Same.refl _) (.str _)
/-- a name's value; where it is owned it may not go out -/
def rdV (i : Nat) (ρ : Env) : Res D := match ρ[i]? with
  | some (some (false, d)) => .ok d
  | _ => .st
def rdB (i : Nat) (ρ : Env) : Res D := match ρ[i]? with
  | some (some (true, .tuple _)) => .st
  | some (some (_, d)) => .ok d
  | _ => .st
theorem se_var {i : Nat} {x : Str} (hi : c.N[i]? = some x) (hv : Vis c.sc x) (hd : (x == ("__debug__" : Str)) = false) (hcd : (x == ("__classdict__" : Str)) = false) : SE c (.Name x pos) (fun _ ρ => rdV i ρ) := fun X Φ W ok tk =>
  peI (pe_var (i := i) (by rw [ok.hN]; exact hi) (by rw [ok.sc]; exact hv) hd hcd) fun σ H Q ⟨A, O, ρ, hA, hρ, q⟩ => by
    have q : Rt X.mg W (pE X.K A) H σ Q (rdV i ρ) := q
    unfold rdV at q
    split at q
    · rename_i dd he
      obtain ⟨x, r, e1, e2, sl⟩ := hρ.sl.get he
      cases sl with
      | shared h => exact ⟨_, e1, q _ _ (Same.refl _) h⟩
    · exact q.elim
theorem sb_var {i : Nat} {x : Str} (hi : c.N[i]? = some x) (hv : Vis c.sc x) (hd : (x == ("__debug__" : Str)) = false) (hcd : (x == ("__classdict__" : Str)) = false) : SB c (.Name x pos) (fun _ ρ => rdB i ρ) := fun X Φ W ok tk =>
  peI (pe_var (i := i) (by rw [ok.hN]; exact hi) (by rw [ok.sc]; exact hv) hd hcd) fun σ H Q ⟨A, O, ρ, hA, hρ, q⟩ => by
    have q : Rt X.mg W (pB X.K A) H σ Q (rdB i ρ) := q
    unfold rdB at q
    split at q
    · exact q.elim
    · rename_i dd hnd he
      obtain ⟨x, r, e1, e2, sl⟩ := hρ.sl.get he
      cases sl with
      | shared h => exact ⟨_, e1, q _ _ (Same.refl _) h.b⟩
      | ownL m h r => exact ⟨_, e1, q _ _ (Same.refl _) ⟨_, _, rfl, .inl (.inl h), r⟩⟩
      | ownD m h r e => exact ⟨_, e1, q _ _ (Same.refl _) (.inl ⟨_, _, _, rfl, .inl h, r, e⟩)⟩
      | ownX m h k z r e => exact ⟨_, e1, q _ _ (Same.refl _) (.inr ⟨_, _, _, _, rfl, .inl h, k, z, r, e⟩)⟩
      | deepL m h d k => exact (hnd _ rfl rfl).elim
      | deepD m h z d k e => exact (hnd _ rfl rfl).elim
    · exact q.elim
theorem se_glob {x : Str} {v : D} (hx : (x, v) ∈ c.gl) (hk : c.sc.names.lookup x = some .globalImplicit) (hd : (x == ("__debug__" : Str)) = false) : SE c (.Name x pos) (fun _ _ => .ok v) := fun X Φ W ok tk => by
  obtain ⟨u, w, h1, h2, h3⟩ := ok.gl x v hx
  exact peI (pe_glob (show Gl X x by unfold Gl Env.kindOf; rw [ok.sc]; exact hk) h1 h2 hd) fun σ H Q ⟨A, O, ρ, hA, hρ, q⟩ => q _ _ (Same.refl _) (h3 H A)
/-! operators -/
def rOpB (K : PySem.W.Frag) (A : List Addr) (f : D → D → Option D) : R2 := fun x y H Q => AOk H A ∧ ∃ d e r, RpB K H A x d ∧ RpB K H A y e ∧ f d e = some r ∧ ∀ v H', Same H H' → Rp K H' A v r → Q v H'
theorem opr_binB {X : Cx} {A : List Addr} (op : Operator) : OpR X (binaryOp op) (rOpB X.K A (binop op)) := by
  intro pins s σ H x y v u Q I rx ry h
  obtain ⟨hA, d, e, r, hd, he, hf, q⟩ := h
  by_cases hl : ∃ ds, d = .list ds
  · obtain ⟨ds, rfl⟩ := hl
    obtain ⟨a, xs, rfl, hx, lx⟩ := hd
    cases op <;> cases e <;> first
      | (simp [binop] at hf; done)
      | skip
    case Add.list es =>
      obtain ⟨b, ys, rfl, hy, ly⟩ := he
      obtain ⟨h1, rfl⟩ := ite_some (by simpa [binop] using hf)
      refine op_catL pins s σ H _ _ v u Q I rx ry ⟨a, b, xs, ys, rfl, rfl, hx, hy, ?_, fun p np => ?_⟩
      · rw [lx.length, ly.length]; exact sm_le h1
      · exact q _ _ (same_upd np) (.lst (.inl ⟨.inl upd_same, hA.fresh np⟩) ((lx.same (same_upd np)).append (ly.same (same_upd np))))
    case Mult.int k =>
      have hk := he.int
      subst hk
      obtain ⟨h1, rfl⟩ := ite_some (c := (decide (0 ≤ k) && decide (k ≤ 1000) && decide (ds.length ≤ 1000)) = true) hf
      obtain ⟨h1, h2, h3⟩ := and3 h1
      refine op_repL pins s σ H _ _ v u Q I rx ry ⟨a, k, xs, rfl, rfl, hx, of_decide_eq_true h1, of_decide_eq_true h2, ?_, fun p np => ?_⟩
      · rw [lx.length]; exact of_decide_eq_true h3
      · exact q _ _ (same_upd np) (.lst (.inl ⟨.inl upd_same, hA.fresh np⟩) ((lx.same (same_upd np)).rep _))
  · have go : ∀ {w : V} {z : D}, RpB X.K H A w z → (∀ ds, z ≠ .list ds) → (∀ es, z ≠ .dict es) → Rp X.K H A w z := fun {w z} h n1 n2 => by
      cases z <;> first | exact absurd rfl (n1 _) | exact absurd rfl (n2 _) | exact h
    have nd : ∀ es, d ≠ .dict es := fun es z => by subst z; cases op <;> cases e <;> simp [binop] at hf
    have ne : ∀ es, e ≠ .dict es := fun es z => by subst z; cases op <;> cases d <;> simp [binop] at hf
    have nl : ∀ es, e ≠ .list es := fun es z => by
      subst z
      cases op <;> cases d <;> first
        | (simp [binop] at hf; done)
        | exact hl ⟨_, rfl⟩
    exact opr_bin op pins s σ H x y v u Q I rx ry ⟨hA, d, e, r, go hd (fun ds z => hl ⟨ds, z⟩) nd, go he nl ne, hf, q⟩
theorem se_bin {op : Operator} (ha : SB c a fa) (hb : SB c b fb) : SE c (.BinOp a op b pos) (fun Φ ρ => do let x ← fa Φ ρ; let y ← fb Φ ρ; Res.ofO (binop op x y)) := fun X Φ W ok tk =>
  peI (pe_op (opX fun A => opr_binB (A := A) op) (ha X Φ W ok tk) (hb X Φ W ok tk)) fun σ H Q ⟨A, O, ρ, hA, hρ, q⟩ =>
    ⟨A, O, ρ, hA, hρ, q.bind fun x v H1 s1 p1 q1 => ⟨A, O, ρ, hA.same s1, hρ.same s1, q1.bind fun y u H2 s2 p2 q2 => by
      obtain ⟨r, e1, e2⟩ := q2.ofO
      exact ⟨A, (hA.same s1).same s2, x, y, r, p1.same s2, p2, e1, e2⟩⟩⟩
theorem rpb_rp {K : PySem.W.Frag} {H : Hp} {A : List Addr} {v : V} {d : D} (h : RpB K H A v d) : Rp K H [] v d := by
  cases d with
  | list ds => obtain ⟨a, xs, rfl, h1, h2⟩ := h; exact .lst (SqN.of h1) (h2.sub (by simp))
  | dict es =>
    rcases h with ⟨a, kvs, ds, rfl, h1, h2, h3⟩ | ⟨a, xs, ks, ds, rfl, h1, h2, h3, h4, h5⟩
    · exact .dic h1 (by simp) (h2.sub (by simp)) h3
    · exact .dix h1 (by simp) (h2.sub (by simp)) h3 (h4.sub (by simp)) h5
  | none => exact Rp.sub (by simp) h
  | bool _ => exact Rp.sub (by simp) h
  | int _ => exact Rp.sub (by simp) h
  | str _ => exact Rp.sub (by simp) h
  | tuple _ => exact Rp.sub (by simp) h
theorem se_un {op : UnaryOp} (hop : op ≠ .Not) (ha : SE c a fa) : SE c (.UnaryOp op a pos) (fun Φ ρ => do let x ← fa Φ ρ; Res.ofO (unop op x)) := fun X Φ W ok tk =>
  peI (pe_un (unX fun A => unr_un (A := A) op hop) (ha X Φ W ok tk)) fun σ H Q ⟨A, O, ρ, hA, hρ, q⟩ =>
    ⟨A, O, ρ, hA, hρ, q.bind fun x v H1 s1 p1 q1 => by
      obtain ⟨r, e1, e2⟩ := q1.ofO
      exact ⟨A, hA.same s1, x, r, p1, e1, e2⟩⟩
def cmpR (op : CmpOp) (x y : D) : Res D := Res.ofO ((cmpop op x y).map .bool)
theorem cmpR_some {mg : Str → Option Value} {W : WX} {P : Hp → V → D → Prop} {H : Hp} {σ : L2.St} {Q : VK} {op : CmpOp} {x y : D} (h : Rt mg W P H σ Q (cmpR op x y)) : ∃ k, cmpop op x y = some k ∧ ∀ v H', Same H H' → P H' v (.bool k) → Q v H' := by
  obtain ⟨r, e1, e2⟩ := h.ofO
  obtain ⟨k, e3, rfl⟩ := Option.map_eq_some_iff.mp e1
  exact ⟨k, e3, e2⟩
theorem cmpR_someB {mg : Str → Option Value} {W : WX} {H : Hp} {σ : L2.St} {Q : Bool → Hp → Prop} {op : CmpOp} {x y : D} (h : RtB mg W H σ Q (cmpR op x y)) : ∃ k, cmpop op x y = some k ∧ ∀ H', Same H H' → Q k H' := by
  unfold cmpR at h
  cases hc : cmpop op x y with
  | none => rw [hc] at h; exact h.elim
  | some k => rw [hc] at h; exact ⟨k, rfl, h⟩
theorem se_cmp {op : CmpOp} (ha : SB c a fa) (hb : SB c b fb) (hm : behindInMarks op b = false) : SE c (.Compare a [op] [b] pos) (fun Φ ρ => do let x ← fa Φ ρ; let y ← fb Φ ρ; cmpR op x y) := fun X Φ W ok tk =>
  peI (pe_cmpR (opr_cmp ok.hu op) (ha X Φ W ok tk) (hb X Φ W ok tk) hm) fun σ H Q ⟨A, O, ρ, hA, hρ, q⟩ =>
    ⟨A, O, ρ, hA, hρ, q.bind fun x v H1 s1 p1 q1 => ⟨A, O, ρ, hA.same s1, hρ.same s1, q1.bind fun y u H2 s2 p2 q2 => by
      obtain ⟨k, e1, e2⟩ := cmpR_some q2
      exact ⟨[], x, y, k, rpb_rp (p1.same s2), rpb_rp p2, e1, e2 _ _ (Same.refl _) (.bl _)⟩⟩⟩
theorem st_cmp {op : CmpOp} (ha : SB c a fa) (hb : SB c b fb) (hm : behindInMarks op b = false) : ST c (.Compare a [op] [b] pos) (fun Φ ρ => do let x ← fa Φ ρ; let y ← fb Φ ρ; cmpR op x y) := fun X Φ W ok tk =>
  ptI (pt_cmpR (opr_cmp ok.hu op) (ha X Φ W ok tk) (hb X Φ W ok tk) hm) fun σ H Q ⟨A, O, ρ, hA, hρ, q⟩ =>
    ⟨A, O, ρ, hA, hρ, q.bind fun x v H1 s1 p1 q1 => ⟨A, O, ρ, hA.same s1, hρ.same s1, q1.bind fun y u H2 s2 p2 q2 => by
      obtain ⟨k, e1, e2⟩ := cmpR_someB q2
      exact ⟨[], x, y, k, rpb_rp (p1.same s2), rpb_rp p2, e1, k, rfl, e2 _ (Same.refl _)⟩⟩⟩
/-! and, or, not, if else: over bools -/
def tst (m : Res D) (g : Bool → Res D) : Res D := m >>= fun d => match d with | .bool b => g b | _ => .st
@[simp] theorem tst_ok (b : Bool) (g : Bool → Res D) : tst (.ok (.bool b)) g = g b := id rfl
@[simp] theorem tst_st (g : Bool → Res D) : tst .st g = .st := id rfl
@[simp] theorem tst_ex (x : Str) (g : Bool → Res D) : tst (.ex x) g = .ex x := id rfl
def andR (a b : Res D) : Res D := tst a fun k => if k then b else .ok (.bool false)
def orR (a b : Res D) : Res D := tst a fun k => if k then .ok (.bool true) else b
def notR (a : Res D) : Res D := tst a fun k => .ok (.bool !k)
def iteR (t a b : Res D) : Res D := tst t fun k => if k then a else b
/-- a bool's value, as the layer's and, or, not want it -/
theorem bool_of {K : PySem.W.Frag} {H : Hp} {A : List Addr} {v : V} {b : Bool} (h : Rp K H A v (.bool b)) : v = .bl b := by cases h; rfl
theorem rt_tst {mg : Str → Option Value} {W : WX} {P P1 : Hp → V → D → Prop} {H : Hp} {σ : L2.St} {Q Q1 : VK} {m : Res D} {g : Bool → Res D} (h : Rt mg W P H σ Q (tst m g)) (k : ∀ b v H1, Same H H1 → P1 H1 v (.bool b) → Rt mg W P H1 σ Q (g b) → Q1 v H1) : Rt mg W P1 H σ Q1 m := by
  refine Rt.bind h fun d v H1 s p q => ?_
  cases d <;> first | exact q.elim | exact k _ v H1 s p q
theorem rtb_tst {mg : Str → Option Value} {W : WX} {P : Hp → V → D → Prop} {H : Hp} {σ : L2.St} {Q : VK} {m : Res D} {g : Bool → Res D} {QB : Bool → Hp → Prop} (h : Rt mg W P H σ Q (tst m g)) (k : ∀ b H1, Same H H1 → Rt mg W P H1 σ Q (g b) → QB b H1) : RtB mg W H σ QB m := Rt.test h k
theorem rtbb_tst {mg : Str → Option Value} {W : WX} {H : Hp} {σ : L2.St} {QB QB1 : Bool → Hp → Prop} {m : Res D} {g : Bool → Res D} (h : RtB mg W H σ QB (tst m g)) (k : ∀ b H1, Same H H1 → RtB mg W H1 σ QB (g b) → QB1 b H1) : RtB mg W H σ QB1 m := RtB.test h k
theorem se_one {op : BoolOp} (ha : SE c a fa) : SE c (.BoolOp op [a] pos) fa := fun X Φ W ok tk => pe_one (ha X Φ W ok tk)
theorem se_and (ha : SE c a fa) (hb : SE c (.BoolOp .And (b :: es) pos) fb) : SE c (.BoolOp .And (a :: b :: es) pos) (fun Φ ρ => andR (fa Φ ρ) (fb Φ ρ)) := fun X Φ W ok tk =>
  peI (pe_and (ha X Φ W ok tk) (hb X Φ W ok tk)) fun σ H Q ⟨A, O, ρ, hA, hρ, q⟩ => ⟨A, O, ρ, hA, hρ, rt_tst q fun k v H1 s1 p1 q1 => ⟨k, bool_of p1, by
    cases k with
    | true => exact iteT ⟨A, O, ρ, hA.same s1, hρ.same s1, q1⟩
    | false => exact iteF (q1 _ _ (Same.refl _) (.bl false))⟩⟩
theorem se_or (ha : SE c a fa) (hb : SE c (.BoolOp .Or (b :: es) pos) fb) : SE c (.BoolOp .Or (a :: b :: es) pos) (fun Φ ρ => orR (fa Φ ρ) (fb Φ ρ)) := fun X Φ W ok tk =>
  peI (pe_or (ha X Φ W ok tk) (hb X Φ W ok tk)) fun σ H Q ⟨A, O, ρ, hA, hρ, q⟩ => ⟨A, O, ρ, hA, hρ, rt_tst q fun k v H1 s1 p1 q1 => ⟨k, bool_of p1, by
    cases k with
    | true => exact iteT (q1 _ _ (Same.refl _) (.bl true))
    | false => exact iteF ⟨A, O, ρ, hA.same s1, hρ.same s1, q1⟩⟩⟩
theorem se_not (ha : SE c a fa) : SE c (.UnaryOp .Not a pos) (fun Φ ρ => notR (fa Φ ρ)) := fun X Φ W ok tk =>
  peI (pe_not (ha X Φ W ok tk)) fun σ H Q ⟨A, O, ρ, hA, hρ, q⟩ => ⟨A, O, ρ, hA, hρ, rt_tst q fun k v H1 s1 p1 q1 => ⟨k, bool_of p1, q1 _ _ (Same.refl _) (.bl _)⟩⟩
theorem se_ite (hd : ST c d fd) (ha : SE c a fa) (hb : SE c b fb) : SE c (.IfExp d a b pos) (fun Φ ρ => iteR (fd Φ ρ) (fa Φ ρ) (fb Φ ρ)) := fun X Φ W ok tk =>
  peI (pe_ifExp (hd X Φ W ok tk) (ha X Φ W ok tk) (hb X Φ W ok tk)) fun σ H Q ⟨A, O, ρ, hA, hρ, q⟩ => ⟨A, O, ρ, hA, hρ, rtb_tst q fun k H1 s1 q1 => by
    cases k with
    | true => exact iteT ⟨A, O, ρ, hA.same s1, hρ.same s1, q1⟩
    | false => exact iteF ⟨A, O, ρ, hA.same s1, hρ.same s1, q1⟩⟩
/-- tests -/
def SW (c : Ctx) (e : Expr) (f : EvE) : Prop := ∀ X Φ W, Ok c X Φ → Takes X W → PW X e (tXT X.K X.mg W (f Φ))
theorem st_val (ha : SE c a fa) (he : ∀ env whole, isTrue a env whole = (do let v ← whole; standAt a.pos; holding [v] (truthy v))) : ST c a fa := fun X Φ W ok tk =>
  ptI (pt_val (ha X Φ W ok tk) (he _)) fun σ H Q ⟨A, O, ρ, hA, hρ, q⟩ => ⟨A, O, ρ, hA, hρ, by
    cases hf : fa Φ ρ with
    | st => rw [hf] at q; exact q.elim
    | ok x =>
      rw [hf] at q
      cases x <;> first
        | exact q.elim
        | exact fun v H' s p => ⟨_, bool_of p, q H' s⟩
    | ex x => rw [hf] at q; exact q⟩
theorem sw_t (h : SW c a fa) : ST c a fa := fun X Φ W ok tk => PW.pt (h X Φ W ok tk)
theorem st_not (ha : ST c a fa) : ST c (.UnaryOp .Not a pos) (fun Φ ρ => notR (fa Φ ρ)) := fun X Φ W ok tk =>
  ptI (pt_not (ha X Φ W ok tk)) fun σ H Q ⟨A, O, ρ, hA, hρ, q⟩ => ⟨A, O, ρ, hA, hρ, rtbb_tst q fun k H1 s1 q1 => q1 _ (Same.refl _)⟩
theorem sw_and1 (ha : ST c a fa) : SW c (.BoolOp .And [a] pos) fa := fun X Φ W ok tk => pw_and1 (ha X Φ W ok tk)
theorem sw_or1 (ha : ST c a fa) : SW c (.BoolOp .Or [a] pos) fa := fun X Φ W ok tk => pw_or1 (ha X Φ W ok tk)
theorem sw_and (ha : ST c a fa) (hb : SW c (.BoolOp .And (b :: es) pos) fb) : SW c (.BoolOp .And (a :: b :: es) pos) (fun Φ ρ => andR (fa Φ ρ) (fb Φ ρ)) := fun X Φ W ok tk =>
  pwI (pw_and (ha X Φ W ok tk) (hb X Φ W ok tk)) fun σ H Q ⟨A, O, ρ, hA, hρ, q⟩ => ⟨A, O, ρ, hA, hρ, rtbb_tst q fun k H1 s1 q1 => by
    cases k with
    | true => exact iteT ⟨A, O, ρ, hA.same s1, hρ.same s1, q1⟩
    | false => exact iteF (q1 _ (Same.refl _))⟩
theorem sw_or (ha : ST c a fa) (hb : SW c (.BoolOp .Or (b :: es) pos) fb) : SW c (.BoolOp .Or (a :: b :: es) pos) (fun Φ ρ => orR (fa Φ ρ) (fb Φ ρ)) := fun X Φ W ok tk =>
  pwI (pw_or (ha X Φ W ok tk) (hb X Φ W ok tk)) fun σ H Q ⟨A, O, ρ, hA, hρ, q⟩ => ⟨A, O, ρ, hA, hρ, rtbb_tst q fun k H1 s1 q1 => by
    cases k with
    | true => exact iteT (q1 _ (Same.refl _))
    | false => exact iteF ⟨A, O, ρ, hA.same s1, hρ.same s1, q1⟩⟩
/-! rows of expressions -/
def notStar : Expr → Bool
  | .Starred _ _ => false
  | _ => true
theorem star_of {e : Expr} (h : notStar e = true) (es : List Expr) (env : PySem.Env) : starEach (e :: es) env = (false, eval e env) :: starEach es env := by
  cases e <;> first | rfl | cases h
theorem stars_of {env : PySem.Env} {pos : Pos} : ∀ {es : List Expr}, es.all notStar = true → (backTo pos (starEach es env)).any (·.1) = false
  | [], _ => by simp [starEach, backTo]
  | e :: es, h => by
    rw [List.all_cons, Bool.and_eq_true] at h
    rw [star_of h.1]
    have := stars_of (env := env) (pos := pos) h.2
    simpa [backTo] using this
theorem ss_nil {P : PLh} (h0 : ∀ K A H, P K A H [] []) : SXs P c [] (fun _ _ => .ok []) := fun X Φ W ok tk => paI pa_nil fun σ H Q ⟨A, O, ρ, hA, hρ, q⟩ => q _ _ (Same.refl _) (h0 _ _ _)
theorem ss_cons {P1 : PSh} {P : PLh} (h0 : ∀ K A H H' v d vs ds, P1 K A H v d → Same H H' → P K A H' vs ds → P K A H' (v :: vs) (d :: ds)) (ha : SX P1 c a fa) (hs : SXs P c es fs) (hn : notStar a = true) : SXs P c (a :: es) (fun Φ ρ => do let x ← fa Φ ρ; let r ← fs Φ ρ; pure (x :: r)) := fun X Φ W ok tk =>
  paI (pa_cons (ha X Φ W ok tk) (hs X Φ W ok tk) (star_of hn _ _)) fun σ H Q ⟨A, O, ρ, hA, hρ, q⟩ => ⟨A, O, ρ, hA, hρ, q.bind fun x v H1 s1 p1 q1 => ⟨A, O, ρ, hA.same s1, hρ.same s1, q1.bindL fun xs vs H2 s2 p2 q2 => q2 _ _ (Same.refl _) (h0 _ _ _ _ _ _ _ _ p1 s2 p2)⟩⟩
theorem ses_cons (ha : SE c a fa) (hs : SXs pEs c es fs) (hn : notStar a = true) : SXs pEs c (a :: es) (fun Φ ρ => do let x ← fa Φ ρ; let r ← fs Φ ρ; pure (x :: r)) := ss_cons (P1 := pE) (fun _ _ _ _ _ _ _ _ p s q => .cons (p.same s) q) ha hs hn
theorem sbs_cons (ha : SB c a fa) (hs : SXs pBs c es fs) (hn : notStar a = true) : SXs pBs c (a :: es) (fun Φ ρ => do let x ← fa Φ ρ; let r ← fs Φ ρ; pure (x :: r)) := ss_cons (P1 := pB) (fun _ _ _ _ _ _ _ _ p s q => .cons (p.same s) q) ha hs hn
def smL (xs : List D) (d : List D → D) : Res D := if sm xs.length then .ok (d xs) else .st
theorem rt_smL {mg : Str → Option Value} {W : WX} {P : Hp → V → D → Prop} {H : Hp} {σ : L2.St} {Q : VK} {xs : List D} {d : List D → D} (h : Rt mg W P H σ Q (smL xs d)) : xs.length ≤ sizeLine ∧ ∀ v H', Same H H' → P H' v (d xs) → Q v H' := by
  unfold smL at h
  by_cases hz : sm xs.length = true
  · rw [if_pos hz] at h; exact ⟨sm_le hz, h⟩
  · rw [if_neg hz] at h; exact h.elim
theorem se_tup {k : Nat} (hs : SXs pEs c es fs) : SE c (.Tuple es k pos) (fun Φ ρ => do let r ← fs Φ ρ; smL r .tuple) := fun X Φ W ok tk =>
  peI (pe_tupE (hs X Φ W ok tk)) fun σ H Q ⟨A, O, ρ, hA, hρ, q⟩ => ⟨A, O, ρ, hA, hρ, q.bindL fun xs vs H1 s1 p1 q1 => by
    obtain ⟨hz, q2⟩ := rt_smL q1
    exact ⟨by rw [p1.length]; exact hz, fun p o np on => q2 _ _ (same_upd np) (.tup (.inl ⟨o, upd_same, on⟩) (p1.same (same_upd np)))⟩⟩
theorem se_lst (hs : SXs pEs c es fs) : SE c (.List es pos) (fun Φ ρ => do let r ← fs Φ ρ; smL r .list) := fun X Φ W ok tk =>
  peI (pe_lst (hs X Φ W ok tk)) fun σ H Q ⟨A, O, ρ, hA, hρ, q⟩ => ⟨A, O, ρ, hA, hρ, q.bindL fun xs vs H1 s1 p1 q1 => by
    obtain ⟨hz, q2⟩ := rt_smL q1
    exact ⟨by rw [p1.length]; exact hz, fun p np => q2 _ _ (same_upd np) (.lst (.inl ⟨.inl upd_same, (hA.same s1).fresh np⟩) (p1.same (same_upd np)))⟩⟩
/-! items, slices -/
theorem se_ix (ha : SB c a fa) (hb : SB c b fb) (hp : PlainIx b) : SE c (.Subscript a b pos) (fun Φ ρ => do let x ← fa Φ ρ; let y ← fb Φ ρ; Res.ofO (ixop x y)) := fun X Φ W ok tk =>
  peI (pe_ix (ixX fun A => ixr_dyn (A := A) ok.hu) (ha X Φ W ok tk) (hb X Φ W ok tk) hp) fun σ H Q ⟨A, O, ρ, hA, hρ, q⟩ =>
    ⟨A, O, ρ, hA, hρ, q.bind fun x v H1 s1 p1 q1 => ⟨A, O, ρ, hA.same s1, hρ.same s1, q1.bind fun y u H2 s2 p2 q2 => by
      obtain ⟨r, e1, e2⟩ := q2.ofO
      exact ⟨A, x, y, r, p1.same s2, p2, e1, fun v h => e2 v _ (Same.refl _) h⟩⟩⟩
def RtO (mg : Str → Option Value) (W : WX) (H : Hp) (σ : L2.St) (Q : Option Int → Hp → Prop) : Res (Option Int) → Prop
  | .st => False
  | .ok d => ∀ H', Same H H' → Q d H'
  | .ex c => ∀ C H', Same H H' → mg c = some (.ref C) → W (.ref C) none σ H'
abbrev EvO := Calls → Env → Res (Option Int)
def SO (c : Ctx) (e : Option Expr) (f : EvO) : Prop := ∀ X Φ W, Ok c X Φ → Takes X W → PO X e (fun σ H Q => ∃ A O ρ, AOk H A ∧ EnvOk X.K H A O σ ρ ∧ RtO X.mg W H σ Q (f Φ ρ))
theorem so_none : SO c none (fun _ _ => .ok none) := fun X Φ W ok tk => ⟨fun pins s σ H Q I ⟨A, O, ρ, hA, hρ, q⟩ => po_none.run pins s σ H Q I (q _ (Same.refl _))⟩
def intR (m : Res D) : Res (Option Int) := m >>= fun d => match d with | .int i => .ok (some i) | _ => .st
theorem so_some (ha : SE c a fa) : SO c (some a) (fun Φ ρ => intR (fa Φ ρ)) := fun X Φ W ok tk => ⟨fun pins s σ H Q I ⟨A, O, ρ, hA, hρ, q⟩ => (po_some (ha X Φ W ok tk)).run pins s σ H Q I ⟨A, O, ρ, hA, hρ, by
  have q : RtO X.mg W H σ Q (intR (fa Φ ρ)) := q
  unfold intR at q
  cases hf : fa Φ ρ with
  | st => rw [hf] at q; exact q
  | ok d =>
    rw [hf] at q
    cases d <;> first
      | exact q.elim
      | (rename_i i; exact fun v H' s p => ⟨i, by cases p; rfl, q H' s⟩)
  | ex x => rw [hf] at q; exact q⟩⟩
theorem se_slc {lo hi : Option Expr} {fl fh : Calls → Env → Res (Option Int)} (ha : SB c a fa) (hl : SO c lo fl) (hh : SO c hi fh) : SE c (.Subscript a (.Slice lo hi none pos') pos) (fun Φ ρ => do let x ← fa Φ ρ; let l ← fl Φ ρ; let h ← fh Φ ρ; Res.ofO (slop x l h)) := fun X Φ W ok tk =>
  peI (pe_slice (slX fun A => slr_dyn (A := A)) (ha X Φ W ok tk) (hl X Φ W ok tk) (hh X Φ W ok tk)) fun σ H Q ⟨A, O, ρ, hA, hρ, q⟩ =>
    ⟨A, O, ρ, hA, hρ, q.bind fun x v H1 s1 p1 q1 => ⟨A, O, ρ, hA.same s1, hρ.same s1, by
      have q1 : Rt X.mg W (pE X.K A) H1 σ Q (fl Φ ρ >>= fun l => fh Φ ρ >>= fun h => Res.ofO (slop x l h)) := q1
      cases h1 : fl Φ ρ with
      | st => rw [h1] at q1; exact q1
      | ex z => rw [h1] at q1; exact q1
      | ok l =>
        rw [h1] at q1
        refine fun H2 s2 => ⟨A, O, ρ, (hA.same s1).same s2, (hρ.same s1).same s2, ?_⟩
        have q2 : Rt X.mg W (pE X.K A) H2 σ Q (fh Φ ρ >>= fun h => Res.ofO (slop x l h)) := Rt.same q1 s2
        cases h2 : fh Φ ρ with
        | st => rw [h2] at q2; exact q2
        | ex z => rw [h2] at q2; exact q2
        | ok h =>
          rw [h2] at q2
          refine fun H3 s3 => ?_
          obtain ⟨r, e1, e2⟩ := (Rt.same q2 s3).ofO
          exact ⟨A, ((hA.same s1).same s2).same s3, x, r, (p1.same s2).same s3, e1, e2⟩⟩⟩
/-! calls -/
theorem gl_of {X : Cx} {Φ : Calls} {x : Str} (ok : Ok c X Φ) (hk : c.sc.names.lookup x = some .globalImplicit) : Gl X x := by
  unfold Gl Env.kindOf
  rw [ok.sc]
  exact hk
def bName : Bn → Str
  | .len => "len" | .int => "int" | .str => "str" | .list => "list" | .tuple => "tuple" | .sum => "sum" | .max => "max" | .min => "min" | .sorted => "sorted"
theorem se_blt {bn : Bn} {p : Pos} (hb : bName bn ∈ c.blts) (hk : c.sc.names.lookup (bName bn) = some .globalImplicit) (hs : SXs pBs c (a :: es) fs) (hn : notStar a = true) (hns : es.all notStar = true) :
    SE c (.Call (.Name (bName bn) p) (a :: es) [] pos) (fun Φ ρ => do let r ← fs Φ ρ; Res.ofO (bltop bn r)) := fun X Φ W ok tk => by
  have hc := caX fun A => clr_bn (X := X) (A := A) ok.calm ok.hu bn
  have fin : ∀ {t : TE}, (∀ σ H Q, tX X.K X.mg W pE (fun ρ => do let r ← fs Φ ρ; Res.ofO (bltop bn r)) σ H Q → tCB (fun xs H Q => ∃ A, rBn X.K A bn xs H Q) (tXs X.K X.mg W pBs (fs Φ)) σ H Q) := fun {t} σ H Q ⟨A, O, ρ, hA, hρ, q⟩ =>
    ⟨A, O, ρ, hA, hρ, q.bindL fun xs vs H1 s1 p1 q1 => by
      obtain ⟨r, e1, e2⟩ := q1.ofO
      exact ⟨A, hA.same s1, xs, r, p1, e1, e2⟩⟩
  have hm := ok.blt _ hb
  have hg := gl_of ok hk
  have ha := hs X Φ W ok tk
  have h1 := star_of (env := X.env) hn es
  have h2 := stars_of (env := X.env) (pos := pos) hns
  cases bn
  · exact peI (pe_callB hc hg hm (by decide +kernel) ha (by decide) (by decide) h1 h2) (fin (t := fun _ _ _ => True))
  · exact peI (pe_callTy hc hg hm (by decide +kernel) ha (by decide) (by decide) h1 h2) (fin (t := fun _ _ _ => True))
  · exact peI (pe_callTy hc hg hm (by decide +kernel) ha (by decide) (by decide) h1 h2) (fin (t := fun _ _ _ => True))
  · exact peI (pe_callTy hc hg hm (by decide +kernel) ha (by decide) (by decide) h1 h2) (fin (t := fun _ _ _ => True))
  · exact peI (pe_callTy hc hg hm (by decide +kernel) ha (by decide) (by decide) h1 h2) (fin (t := fun _ _ _ => True))
  · exact peI (pe_callB hc hg hm (by decide +kernel) ha (by decide) (by decide) h1 h2) (fin (t := fun _ _ _ => True))
  · exact peI (pe_callB hc hg hm (by decide +kernel) ha (by decide) (by decide) h1 h2) (fin (t := fun _ _ _ => True))
  · exact peI (pe_callB hc hg hm (by decide +kernel) ha (by decide) (by decide) h1 h2) (fin (t := fun _ _ _ => True))
  · exact peI (pe_callB hc hg hm (by decide +kernel) ha (by decide) (by decide) h1 h2) (fin (t := fun _ _ _ => True))
/-- f(..), what it gives may hold what it is given -/
theorem se_call {f : Str} {p : Pos} (hf : f ∈ c.fns) (hk : c.sc.names.lookup f = some .globalImplicit) (hd : (f == ("__debug__" : Str)) = false) (hs : SXs pEs c (a :: es) fs) (hn : notStar a = true) (hns : es.all notStar = true) :
    SE c (.Call (.Name f p) (a :: es) [] pos) (fun Φ ρ => do let r ← fs Φ ρ; Φ f r) := fun X Φ W ok tk => by
  obtain ⟨k, fa, fd, ps, F, hr, hm, hkp, hb⟩ := ok.fns f hf
  refine peI (pe_callS F hr (gl_of ok hk) hm hkp hb (fun σ => passAt tk σ) (hs X Φ W ok tk) hd (star_of hn _ _) (stars_of hns)) fun σ H Q ⟨A, O, ρ, hA, hρ, q⟩ => ⟨A, O, ρ, hA, hρ, q.bindL fun xs vs H1 s1 p1 q1 => ?_⟩
  refine ⟨A, xs, hA.same s1, p1, ?_⟩
  · cases hr : Φ f xs with
    | st => rw [hr] at q1; exact q1.elim
    | ok r => rw [hr] at q1; exact q1
    | ex z => rw [hr] at q1; exact q1
/-- f(..), the arguments lent: it gives pure data -/
def purR (m : Res D) : Res D := m >>= fun d => if pureD d then .ok d else .st
theorem se_lent {f : Str} {p : Pos} (hf : f ∈ c.fns) (hk : c.sc.names.lookup f = some .globalImplicit) (hd : (f == ("__debug__" : Str)) = false) (hs : SXs pBs c (a :: es) fs) (hn : notStar a = true) (hns : es.all notStar = true) :
    SE c (.Call (.Name f p) (a :: es) [] pos) (fun Φ ρ => do let r ← fs Φ ρ; purR (Φ f r)) := fun X Φ W ok tk => by
  obtain ⟨k, fa, fd, ps, F, hr, hm, hkp, hb⟩ := ok.fns f hf
  refine peI (pe_callS F hr (gl_of ok hk) hm hkp hb (fun σ => passAt tk σ) (hs X Φ W ok tk) hd (star_of hn _ _) (stars_of hns)) fun σ H Q ⟨A, O, ρ, hA, hρ, q⟩ => ⟨A, O, ρ, hA, hρ, q.bindL fun xs vs H1 s1 p1 q1 => ?_⟩
  have all : ∀ {vs : List V} {xs : List D}, RpBs X.K H1 A vs xs → RpL X.K H1 [] vs xs := by
    intro vs xs h
    induction h with
    | nil => exact .nil
    | cons h _ ih => exact .cons (rpb_rp h) ih
  refine ⟨[], xs, fun p hp => absurd hp (by simp), all p1, ?_⟩
  · cases hr : Φ f xs with
    | st => rw [hr] at q1; exact q1.elim
    | ok r =>
      rw [hr] at q1
      have q1 : Rt X.mg W (pE X.K A) H1 σ Q (if pureD r = true then .ok r else .st) := q1
      by_cases hp : pureD r = true
      · rw [if_pos hp] at q1
        exact fun v H' s p => q1 v H' s (p.pure hp)
      · rw [if_neg hp] at q1; exact q1.elim
    | ex z => rw [hr] at q1; exact q1
end
end Pv

end
section
namespace Pv
open PySem PySem.Spec PyProof.Rows L2

/-! ### enumerate of a list or a tuple -/
set_option maxHeartbeats 1000000 in
theorem meets_enumerate_new1B {v : Value} {o : Obj} {H : Heap → Prop} (B : Begins v o H) :
    Meets (Builtin.«enumerate.__new__» ⟨[.type "enumerate", v], []⟩) (fun _ R s => H s.heap ∧
      R (.ok (.ret (.ref (s.heap.push o).objs.size))) { s with heap := (s.heap.push o).push { cls := .type "enumerate", data := .fields #[.none, .bool false, .ref s.heap.objs.size, rawInt 0, .none, .none] } }) :=
  .of_wp fun prog w A R s h => by
    obtain ⟨hp, g, d, tk, os⟩ := s; obtain ⟨h1, h⟩ := h
    have hsub := sub_enumerate
    have q1 : ∀ {A' : Around} {E : Value → Shared → Prop} {Q : Value → Shared → Prop}, Q (.ref hp.objs.size) ⟨hp.push o, g, d, tk, os⟩ → wpAny (model prog w) A' (pyIter v) Q E ⟨hp, g, d, tk, os⟩ :=
      fun q => B.iter prog w _ _ ⟨hp, g, d, tk, os⟩ _ h1 q
    wp_walk using q1
    refine wpAny_stack_any fun st => wpAny_pure ?_
    split
    · rename_i c _ _ _ _ _
      cases (c == Value.type "enumerate")
      · wp_walk using q1
        exact ⟨_, rfl, h⟩
      · wp_walk using q1
        exact ⟨_, rfl, h⟩
    · wp_walk using q1
      exact ⟨_, rfl, h⟩
section
variable {prog : Program} {w : World} {A : Around} {E : Value → Shared → Prop} {s : Shared}
theorem enum_begins1 {v : Value} {o : Obj} {H : Heap → Prop} {Q : Value → Shared → Prop} (B : Begins v o H) (h1 : H s.heap)
    (h : ∀ h', IsEnum h' (s.heap.objs.size + 1) s.heap.objs.size 0 .none → h'.get? s.heap.objs.size = some o → h'.objs.size = s.heap.objs.size + 2 →
      (∀ b o, s.heap.get? b = some o → h'.get? b = some o) → Q (.ref (s.heap.objs.size + 1)) { s with heap := h' }) :
    wpAny (model prog w) A (call (.type "enumerate") [v]) Q E s := by
  refine callType_new F.called_enumerate (by decide) (F.typeCall_enumerate_1 _) (F.newCall_enumerate_1 _) (fun obj => F.args_object_init_2 obj _) F.entry_enumerate_new
    (meets_enumerate_new1B B) ⟨h1, ?_⟩
  have hz : (s.heap.push o).objs.size = s.heap.objs.size + 1 := Heap.size_push ..
  show _ ∧ _
  rw [hz]
  have he : IsEnum ((s.heap.push o).push { cls := .type "enumerate", data := .fields #[.none, .bool false, .ref s.heap.objs.size, rawInt 0, .none, .none] }) (s.heap.objs.size + 1) s.heap.objs.size 0 .none := by
    have := Heap.get?_push_size (s.heap.push o) (o := { cls := .type "enumerate", data := .fields #[.none, .bool false, .ref s.heap.objs.size, rawInt 0, .none, .none] }) rfl
    rw [hz] at this; exact this
  refine ⟨⟨_, he, rfl⟩, h _ he (Heap.get?_push_of_some _ (Heap.get?_push_size _ B.free)) (by rw [Heap.size_push, hz]) fun b o x => Heap.get?_push_of_some _ (Heap.get?_push_of_some _ x)⟩
end
def IteT (K : PySem.W.Frag) (a : Addr) : It :=
  ⟨fun i H => ∃ (xs : List V) (x : V), SqT K H a xs ∧ xs[i]? = some x, fun i H v H' => ∃ T x, v = .ref T ∧ H T = none ∧ H' = upd H T (.tup [.int (i : Nat), x]) ∧ ∀ xs, SqT K H a xs → xs[i]? = some x, fun i H => ∃ xs : List V, SqT K H a xs ∧ xs.length ≤ i⟩
theorem turn_enumT {P : Program} {w : World} {K : PySem.W.Frag} {elts : List Expr} {kk : Nat} {tpos : Pos} (a e it : Addr) :
    Turn P w K (.Tuple elts kk tpos) (IteT K a) [e, it] e (fun i h => (∃ old, IsEnum h e it ((i : Nat) : Int) old) ∧ h.IsTupleIter it a i ∧ e ≠ it) where
  mem := by simp
  obj := fun i h st b hb => by
    obtain ⟨⟨old, he⟩, ⟨o, ho, hc, hd⟩, _⟩ := st
    have e' : b = e ∨ b = it := by simpa using hb
    rcases e' with z | z
    · rw [z]; exact ⟨_, he, fun v q => nomatch q⟩
    · rw [z]; exact ⟨o, ho, fun v q => by rw [hd] at q; cases q⟩
  keep := fun i h h' st k => let ⟨⟨old, he⟩, hi, hne⟩ := st; ⟨⟨old, k e (by simp) _ he⟩, hi.at fun o q => k it (by simp) o q, hne⟩
  item := by
    intro X hP hw hK hc i pins s σ H E I hf st hg
    subst hP hw hK
    obtain ⟨⟨old, he⟩, hit, hne⟩ := st
    obtain ⟨xs, x, hq, hx⟩ := hg
    obtain ⟨its, rv, p, hz⟩ := I.tuple hq
    obtain ⟨u, hu, ru⟩ := rv.get hx
    have hel : e < s.heap.objs.size := Heap.lt_size he
    have hil : it < s.heap.objs.size := by obtain ⟨_, q, _⟩ := hit; exact Heap.lt_size q
    have hai : a ≠ it := fun z => by
      obtain ⟨o, ho, hc1, hd⟩ := hit
      obtain ⟨o2, ho2, hc2, _⟩ := p
      rw [z, ho] at ho2
      cases ho2
      rw [hc1] at hc2
      simp at hc2
    have hae : e ∉ [it, a] := fun z => by
      rcases List.mem_cons.mp z with z | z
      · exact hne z
      · have z : e = a := by simpa using z
        obtain ⟨o2, ho2, hc2, _⟩ := p
        rw [← z, he] at ho2
        cases ho2
        simp at hc2
    have hh : X.A.in1.handled = none := I.ok.hd hc
    have hlt : i < its.toArray.size := by
      have := (List.getElem?_eq_some_iff.mp hu).1
      simpa using this
    refine wpAny_pyNext_enum_itemD (Draws.tuple hh it a hai its.toArray) he ⟨hit, p⟩ hlt hne hae fun y h' tk hP ho hst hT hsz hk => ?_
    have ey : y = u := by
      have e1 : its[i]? = some y := by simpa using hP
      rw [hu] at e1; cases e1; rfl
    subst ey
    refine ⟨_, rfl, wpAny_letOwnedTupleGo_enum (s := { s with heap := h', toks := tk + 1 }) ho fun h'' he' sb => ?_⟩
    have hT2 : h''.get? s.heap.objs.size = some { cls := .type "tuple", data := .seq #[.int i tk, y] } := (sb.2 _ (Nat.ne_of_gt hel)).trans hT
    have new : ObjOk X.prog X.w (upd H s.heap.objs.size (.tup [.int (i : Nat), x])) h'' s.heap.objs.size (.tup [.int (i : Nat), x]) :=
      ⟨by show 2 ≤ sizeLine; decide, [.int i tk, y], .cons ⟨_, rfl⟩ (.cons ru .nil), ⟨_, hT2, rfl, _, rfl⟩⟩
    have I1 : Inv X pins σ (upd H s.heap.objs.size (.tup [.int (i : Nat), x])) { s with heap := h'', toks := tk + 1 } :=
      I.turnedNew (ch := [e, it]) (fun b ob hb q => (sb.2 b (fun z => hb (by simp [z]))).trans (hk b ob (fun z => hb (by simp [z])) (fun z => hb (by simp [z])) q)) hf (Nat.le_refl _) new
    refine ⟨.ref s.heap.objs.size, _, I1, rfl, ⟨_, x, rfl, I.hok.fresh (Nat.le_refl _), rfl, fun ys hy => by rw [I.tuple_inj hy hq]; exact hx⟩, ⟨⟨y, ?_⟩, hst.1.at fun o q => (sb.2 it (Ne.symm hne)).trans q, hne⟩, fun b hb => ?_⟩
    · have e1 : ((i + 1 : Nat) : Int) = (i : Int) + 1 := by omega
      rw [e1]; exact he'
    · have hb' : b < s.heap.objs.size := by
        have e' : b = e ∨ b = it := by simpa using hb
        rcases e' with z | z
        · rw [z]; exact hel
        · rw [z]; exact hil
      rw [upd_ne (Nat.ne_of_lt hb')]
      exact (hf b hb).1
  done := by
    intro X hP hw hK hc i pins s σ H E I hf st hg
    subst hP hw hK
    obtain ⟨⟨old, he⟩, hit, hne⟩ := st
    obtain ⟨xs, hq, hx⟩ := hg
    obtain ⟨its, rv, p, hz⟩ := I.tuple hq
    obtain ⟨f0, f1, f2, f3, f4, f5⟩ := hf it (by simp)
    have hl := rv.length
    have hai : a ≠ it := fun z => by
      obtain ⟨o, ho, hc1, hd⟩ := hit
      obtain ⟨o2, ho2, hc2, _⟩ := p
      rw [z, ho] at ho2
      cases ho2
      rw [hc1] at hc2
      simp at hc2
    have hh : X.A.in1.handled = none := I.ok.hd hc
    have hnone : its.toArray[i]? = none := by simp; omega
    have D : Draws X.prog X.w X.A.in1 it [it, a] i (fun _ _ => False) (fun j h => j = i ∧ h.IsTupleIter it a i ∧ h.IsTuple a its.toArray) :=
      { live := fun _ _ st => let ⟨o, ho, _⟩ := st.2.1; ⟨o, ho⟩
        frame := fun _ _ _ st hk => ⟨st.1, st.2.1.at fun o e => hk it (by simp) o e, st.2.2.at fun o e => hk a (by simp) o e⟩
        item := fun j s Q E hj st _ => absurd st.1 (by omega)
        done := fun s Q E st hE => wpAny_nextOf_tuple_end hh st.2.1 st.2.2 hnone hE }
    exact wpAny_pyNext_enum_endD D he ⟨rfl, hit, p⟩ fun h' eb => ⟨rfl, I.turned (t' := s.toks) (fun b o hb q => eb b o hb q) f0 f1 f3 f4 f5⟩
  self := fun A i s Q E st h => let ⟨⟨_, he⟩, _⟩ := st; wpAny_pyIter_enum he h
/-- enumerate(e), e a list or a tuple -/
def iEnumD (K : PySem.W.Frag) (te : TE) : TI := fun σ H R => te σ H fun x H1 => (∃ a xs, x = .ref a ∧ SqL K H1 a xs ∧ R (Ite K a) H1) ∨ ∃ a xs, x = .ref a ∧ SqT K H1 a xs ∧ R (IteT K a) H1
theorem pi_enumD {X : Cx} {e : Expr} {te : TE} {p pos tpos : Pos} {elts : List Expr} {kk : Nat} (hg : Gl X "enumerate") (hm : X.mg "enumerate" = none) (he : PE X e te) (hs : starEach [e] X.env = (false, eval e X.env) :: starEach [] X.env) :
    PI X (.Tuple elts kk tpos) (.Call (.Name "enumerate" p) [e] [] pos) (iEnumD X.K te) := by
  refine ⟨fun pins s σ H R I h => ?_⟩
  refine Call_ (ld_blt I hg hm boot_enumerate (PyProof.Rows.callWith_type1 (PyProof.Rows.args_cons (thn (he.run pins s σ H _ I h) fun u s1 ⟨x, H1, I1, r1, q1⟩ => PyProof.Rows.args_nil ?_) hs) hs rfl))
  rcases q1 with ⟨a, xs, rfl, hq, q⟩ | ⟨a, xs, rfl, hq, q⟩
  · cases r1
    obtain ⟨its, rv, p', hz⟩ := I1.list hq
    refine call_enumerate_list p'.isList fun h' he hit hsz hk => wpAny_pyIter_enum he ?_
    have I2 : Inv X pins σ H1 { s1 with heap := h' } := I1.kept (t' := s1.toks) hk
    refine ⟨s1.heap.objs.size + 1, [s1.heap.objs.size + 1, s1.heap.objs.size], _, _, H1, rfl, I2, turn_enum a (s1.heap.objs.size + 1) s1.heap.objs.size, ⟨⟨.none, he⟩, hit, Nat.succ_ne_self _⟩, fun b hb => ?_, q⟩
    have e' : b = s1.heap.objs.size + 1 ∨ b = s1.heap.objs.size := by simpa using hb
    have hle : s1.heap.objs.size ≤ b := by
      rcases e' with z | z
      · rw [z]; exact Nat.le_add_right _ _
      · rw [z]; exact Nat.le_refl _
    exact I1.fpOk hle (I1.hok.fresh hle)
  · cases r1
    obtain ⟨its, rv, p', hz⟩ := I1.tuple hq
    refine enum_begins1 (begins_tuple a its.toArray) p' fun h' he hit hsz hk => wpAny_pyIter_enum he ?_
    have I2 : Inv X pins σ H1 { s1 with heap := h' } := I1.kept (t' := s1.toks) hk
    refine ⟨s1.heap.objs.size + 1, [s1.heap.objs.size + 1, s1.heap.objs.size], _, _, H1, rfl, I2, turn_enumT a (s1.heap.objs.size + 1) s1.heap.objs.size, ⟨⟨.none, he⟩, ⟨_, hit, rfl, rfl⟩, Nat.succ_ne_self _⟩, fun b hb => ?_, q⟩
    have e' : b = s1.heap.objs.size + 1 ∨ b = s1.heap.objs.size := by simpa using hb
    have hle : s1.heap.objs.size ≤ b := by
      rcases e' with z | z
      · rw [z]; exact Nat.le_add_right _ _
      · rw [z]; exact Nat.le_refl _
    exact I1.fpOk hle (I1.hok.fresh hle)
end Pv

end
section
namespace Pv
open PySem PySem.Spec PyProof.Rows L2

/-! ### enumerate -/
section
def IteLE (K : PySem.W.Frag) (a : Addr) : It :=
  ⟨fun i H => ∃ (xs : List V) (x : V), SqL K H a xs ∧ xs[i]? = some x, fun i H v H' => ∃ T x o, v = .ref T ∧ H T = none ∧ Obj.dict o = none ∧ H' = upd H T (.frz o (.tup [.int (i : Nat), x])) ∧ ∀ xs, SqL K H a xs → xs[i]? = some x, fun i H => ∃ xs : List V, SqL K H a xs ∧ xs.length ≤ i⟩
theorem turn_enumLE {P : Program} {w : World} {K : PySem.W.Frag} {elts : List Expr} {kk : Nat} {tpos : Pos} (a e it : Addr) :
    Turn P w K (.Tuple elts kk tpos) (IteLE K a) [e, it] e (fun i h => (∃ old, IsEnum h e it ((i : Nat) : Int) old) ∧ h.IsListIter it a i ∧ e ≠ it) where
  mem := (turn_enum (P := P) (w := w) (K := K) (elts := elts) (kk := kk) (tpos := tpos) a e it).mem
  obj := (turn_enum (P := P) (w := w) (K := K) (elts := elts) (kk := kk) (tpos := tpos) a e it).obj
  keep := (turn_enum (P := P) (w := w) (K := K) (elts := elts) (kk := kk) (tpos := tpos) a e it).keep
  item := by
    intro X hP hw hK hc i pins s σ H E I hf st hg
    subst hP hw hK
    obtain ⟨⟨old, he⟩, hit, hne⟩ := st
    obtain ⟨xs, x, hq, hx⟩ := hg
    obtain ⟨its, rv, p, hz⟩ := I.list hq
    obtain ⟨u, hu, ru⟩ := rv.get hx
    have hel : e < s.heap.objs.size := Heap.lt_size he
    have hil : it < s.heap.objs.size := by obtain ⟨_, q, _⟩ := hit; exact Heap.lt_size q
    refine wpAny_pyNext_enum_item he hit p.isList (x := u) (by simpa using hu) hne fun h' ho hit' hT hsz hk => ?_
    refine ⟨_, rfl, wpAny_letOwnedTupleGo_enum (s := { s with heap := h', toks := s.toks + 1 }) ho fun h'' he' sb => ?_⟩
    have hT2 : h''.get? s.heap.objs.size = some { cls := .type "tuple", data := .seq #[.int i s.toks, u] } := (sb.2 _ (Nat.ne_of_gt hel)).trans hT
    have new : ObjOk X.prog X.w (upd H s.heap.objs.size (.frz { cls := .type "tuple", data := .seq #[.int i s.toks, u] } (.tup [.int (i : Nat), x]))) h'' s.heap.objs.size (.frz { cls := .type "tuple", data := .seq #[.int i s.toks, u] } (.tup [.int (i : Nat), x])) :=
      ⟨hT2, by show 2 ≤ sizeLine; decide, [.int i s.toks, u], .cons ⟨_, rfl⟩ (.cons ru .nil), ⟨_, hT2, rfl, _, rfl⟩⟩
    have I1 : Inv X pins σ (upd H s.heap.objs.size (.frz { cls := .type "tuple", data := .seq #[.int i s.toks, u] } (.tup [.int (i : Nat), x]))) { s with heap := h'', toks := s.toks + 1 } :=
      I.turnedNew (ch := [e, it]) (fun b ob hb q => (sb.2 b (fun z => hb (by simp [z]))).trans (hk b ob (fun z => hb (by simp [z])) (fun z => hb (by simp [z])) q)) hf (Nat.le_refl _) new
    refine ⟨.ref s.heap.objs.size, _, I1, rfl, ⟨_, x, _, rfl, I.hok.fresh (Nat.le_refl _), rfl, rfl, fun ys hy => by rw [I.list_inj hy hq]; exact hx⟩, ⟨⟨u, ?_⟩, hit'.at fun o q => (sb.2 it (Ne.symm hne)).trans q, hne⟩, fun b hb => ?_⟩
    · have e1 : ((i + 1 : Nat) : Int) = (i : Int) + 1 := by omega
      rw [e1]; exact he'
    · have hb' : b < s.heap.objs.size := by
        have e' : b = e ∨ b = it := by simpa using hb
        rcases e' with z | z
        · rw [z]; exact hel
        · rw [z]; exact hil
      rw [upd_ne (Nat.ne_of_lt hb')]
      exact (hf b hb).1
  done := fun hP hw hK hc i pins s σ H E I hf st hg => (turn_enum (P := P) (w := w) (K := K) (elts := elts) (kk := kk) (tpos := tpos) a e it).done hP hw hK hc i pins s σ H E I hf st hg
  self := (turn_enum (P := P) (w := w) (K := K) (elts := elts) (kk := kk) (tpos := tpos) a e it).self
def IteTE (K : PySem.W.Frag) (a : Addr) : It :=
  ⟨fun i H => ∃ (xs : List V) (x : V), SqT K H a xs ∧ xs[i]? = some x, fun i H v H' => ∃ T x o, v = .ref T ∧ H T = none ∧ Obj.dict o = none ∧ H' = upd H T (.frz o (.tup [.int (i : Nat), x])) ∧ ∀ xs, SqT K H a xs → xs[i]? = some x, fun i H => ∃ xs : List V, SqT K H a xs ∧ xs.length ≤ i⟩
theorem turn_enumTE {P : Program} {w : World} {K : PySem.W.Frag} {elts : List Expr} {kk : Nat} {tpos : Pos} (a e it : Addr) :
    Turn P w K (.Tuple elts kk tpos) (IteTE K a) [e, it] e (fun i h => (∃ old, IsEnum h e it ((i : Nat) : Int) old) ∧ h.IsTupleIter it a i ∧ e ≠ it) where
  mem := by simp
  obj := fun i h st b hb => by
    obtain ⟨⟨old, he⟩, ⟨o, ho, hc, hd⟩, _⟩ := st
    have e' : b = e ∨ b = it := by simpa using hb
    rcases e' with z | z
    · rw [z]; exact ⟨_, he, fun v q => nomatch q⟩
    · rw [z]; exact ⟨o, ho, fun v q => by rw [hd] at q; cases q⟩
  keep := fun i h h' st k => let ⟨⟨old, he⟩, hi, hne⟩ := st; ⟨⟨old, k e (by simp) _ he⟩, hi.at fun o q => k it (by simp) o q, hne⟩
  item := by
    intro X hP hw hK hc i pins s σ H E I hf st hg
    subst hP hw hK
    obtain ⟨⟨old, he⟩, hit, hne⟩ := st
    obtain ⟨xs, x, hq, hx⟩ := hg
    obtain ⟨its, rv, p, hz⟩ := I.tuple hq
    obtain ⟨u, hu, ru⟩ := rv.get hx
    have hel : e < s.heap.objs.size := Heap.lt_size he
    have hil : it < s.heap.objs.size := by obtain ⟨_, q, _⟩ := hit; exact Heap.lt_size q
    have hai : a ≠ it := fun z => by
      obtain ⟨o, ho, hc1, hd⟩ := hit
      obtain ⟨o2, ho2, hc2, _⟩ := p
      rw [z, ho] at ho2
      cases ho2
      rw [hc1] at hc2
      simp at hc2
    have hae : e ∉ [it, a] := fun z => by
      rcases List.mem_cons.mp z with z | z
      · exact hne z
      · have z : e = a := by simpa using z
        obtain ⟨o2, ho2, hc2, _⟩ := p
        rw [← z, he] at ho2
        cases ho2
        simp at hc2
    have hh : X.A.in1.handled = none := I.ok.hd hc
    have hlt : i < its.toArray.size := by
      have := (List.getElem?_eq_some_iff.mp hu).1
      simpa using this
    refine wpAny_pyNext_enum_itemD (Draws.tuple hh it a hai its.toArray) he ⟨hit, p⟩ hlt hne hae fun y h' tk hP ho hst hT hsz hk => ?_
    have ey : y = u := by
      have e1 : its[i]? = some y := by simpa using hP
      rw [hu] at e1; cases e1; rfl
    subst ey
    refine ⟨_, rfl, wpAny_letOwnedTupleGo_enum (s := { s with heap := h', toks := tk + 1 }) ho fun h'' he' sb => ?_⟩
    have hT2 : h''.get? s.heap.objs.size = some { cls := .type "tuple", data := .seq #[.int i tk, y] } := (sb.2 _ (Nat.ne_of_gt hel)).trans hT
    have new : ObjOk X.prog X.w (upd H s.heap.objs.size (.frz { cls := .type "tuple", data := .seq #[.int i tk, y] } (.tup [.int (i : Nat), x]))) h'' s.heap.objs.size (.frz { cls := .type "tuple", data := .seq #[.int i tk, y] } (.tup [.int (i : Nat), x])) :=
      ⟨hT2, by show 2 ≤ sizeLine; decide, [.int i tk, y], .cons ⟨_, rfl⟩ (.cons ru .nil), ⟨_, hT2, rfl, _, rfl⟩⟩
    have I1 : Inv X pins σ (upd H s.heap.objs.size (.frz { cls := .type "tuple", data := .seq #[.int i tk, y] } (.tup [.int (i : Nat), x]))) { s with heap := h'', toks := tk + 1 } :=
      I.turnedNew (ch := [e, it]) (fun b ob hb q => (sb.2 b (fun z => hb (by simp [z]))).trans (hk b ob (fun z => hb (by simp [z])) (fun z => hb (by simp [z])) q)) hf (Nat.le_refl _) new
    refine ⟨.ref s.heap.objs.size, _, I1, rfl, ⟨_, x, _, rfl, I.hok.fresh (Nat.le_refl _), rfl, rfl, fun ys hy => by rw [I.tuple_inj hy hq]; exact hx⟩, ⟨⟨y, ?_⟩, hst.1.at fun o q => (sb.2 it (Ne.symm hne)).trans q, hne⟩, fun b hb => ?_⟩
    · have e1 : ((i + 1 : Nat) : Int) = (i : Int) + 1 := by omega
      rw [e1]; exact he'
    · have hb' : b < s.heap.objs.size := by
        have e' : b = e ∨ b = it := by simpa using hb
        rcases e' with z | z
        · rw [z]; exact hel
        · rw [z]; exact hil
      rw [upd_ne (Nat.ne_of_lt hb')]
      exact (hf b hb).1
  done := by
    intro X hP hw hK hc i pins s σ H E I hf st hg
    subst hP hw hK
    obtain ⟨⟨old, he⟩, hit, hne⟩ := st
    obtain ⟨xs, hq, hx⟩ := hg
    obtain ⟨its, rv, p, hz⟩ := I.tuple hq
    obtain ⟨f0, f1, f2, f3, f4, f5⟩ := hf it (by simp)
    have hl := rv.length
    have hai : a ≠ it := fun z => by
      obtain ⟨o, ho, hc1, hd⟩ := hit
      obtain ⟨o2, ho2, hc2, _⟩ := p
      rw [z, ho] at ho2
      cases ho2
      rw [hc1] at hc2
      simp at hc2
    have hh : X.A.in1.handled = none := I.ok.hd hc
    have hnone : its.toArray[i]? = none := by simp; omega
    have D : Draws X.prog X.w X.A.in1 it [it, a] i (fun _ _ => False) (fun j h => j = i ∧ h.IsTupleIter it a i ∧ h.IsTuple a its.toArray) :=
      { live := fun _ _ st => let ⟨o, ho, _⟩ := st.2.1; ⟨o, ho⟩
        frame := fun _ _ _ st hk => ⟨st.1, st.2.1.at fun o e => hk it (by simp) o e, st.2.2.at fun o e => hk a (by simp) o e⟩
        item := fun j s Q E hj st _ => absurd st.1 (by omega)
        done := fun s Q E st hE => wpAny_nextOf_tuple_end hh st.2.1 st.2.2 hnone hE }
    exact wpAny_pyNext_enum_endD D he ⟨rfl, hit, p⟩ fun h' eb => ⟨rfl, I.turned (t' := s.toks) (fun b o hb q => eb b o hb q) f0 f1 f3 f4 f5⟩
  self := fun A i s Q E st h => let ⟨⟨_, he⟩, _⟩ := st; wpAny_pyIter_enum he h
/-- enumerate(e), e a list or a tuple -/
def iEnumE (K : PySem.W.Frag) (te : TE) : TI := fun σ H R => te σ H fun x H1 => (∃ a xs, x = .ref a ∧ SqL K H1 a xs ∧ R (IteLE K a) H1) ∨ ∃ a xs, x = .ref a ∧ SqT K H1 a xs ∧ R (IteTE K a) H1
theorem pi_enumE {X : Cx} {e : Expr} {te : TE} {p pos tpos : Pos} {elts : List Expr} {kk : Nat} (hg : Gl X "enumerate") (hm : X.mg "enumerate" = none) (he : PE X e te) (hs : starEach [e] X.env = (false, eval e X.env) :: starEach [] X.env) :
    PI X (.Tuple elts kk tpos) (.Call (.Name "enumerate" p) [e] [] pos) (iEnumE X.K te) := by
  refine ⟨fun pins s σ H R I h => ?_⟩
  refine Call_ (ld_blt I hg hm boot_enumerate (PyProof.Rows.callWith_type1 (PyProof.Rows.args_cons (thn (he.run pins s σ H _ I h) fun u s1 ⟨x, H1, I1, r1, q1⟩ => PyProof.Rows.args_nil ?_) hs) hs rfl))
  rcases q1 with ⟨a, xs, rfl, hq, q⟩ | ⟨a, xs, rfl, hq, q⟩
  · cases r1
    obtain ⟨its, rv, p', hz⟩ := I1.list hq
    refine call_enumerate_list p'.isList fun h' he hit hsz hk => wpAny_pyIter_enum he ?_
    have I2 : Inv X pins σ H1 { s1 with heap := h' } := I1.kept (t' := s1.toks) hk
    refine ⟨s1.heap.objs.size + 1, [s1.heap.objs.size + 1, s1.heap.objs.size], _, _, H1, rfl, I2, turn_enumLE a (s1.heap.objs.size + 1) s1.heap.objs.size, ⟨⟨.none, he⟩, hit, Nat.succ_ne_self _⟩, fun b hb => ?_, q⟩
    have e' : b = s1.heap.objs.size + 1 ∨ b = s1.heap.objs.size := by simpa using hb
    have hle : s1.heap.objs.size ≤ b := by
      rcases e' with z | z
      · rw [z]; exact Nat.le_add_right _ _
      · rw [z]; exact Nat.le_refl _
    exact I1.fpOk hle (I1.hok.fresh hle)
  · cases r1
    obtain ⟨its, rv, p', hz⟩ := I1.tuple hq
    refine enum_begins1 (begins_tuple a its.toArray) p' fun h' he hit hsz hk => wpAny_pyIter_enum he ?_
    have I2 : Inv X pins σ H1 { s1 with heap := h' } := I1.kept (t' := s1.toks) hk
    refine ⟨s1.heap.objs.size + 1, [s1.heap.objs.size + 1, s1.heap.objs.size], _, _, H1, rfl, I2, turn_enumTE a (s1.heap.objs.size + 1) s1.heap.objs.size, ⟨⟨.none, he⟩, ⟨_, hit, rfl, rfl⟩, Nat.succ_ne_self _⟩, fun b hb => ?_, q⟩
    have e' : b = s1.heap.objs.size + 1 ∨ b = s1.heap.objs.size := by simpa using hb
    have hle : s1.heap.objs.size ≤ b := by
      rcases e' with z | z
      · rw [z]; exact Nat.le_add_right _ _
      · rw [z]; exact Nat.le_refl _
    exact I1.fpOk hle (I1.hok.fresh hle)
end
end Pv

end
section
namespace Pv
open PySem PySem.Spec PyProof.Rows L2

/-! ### targets -/
mutual
inductive Tg where
  | var (i : Nat)
  | tup (ts : Tgs)
inductive Tgs where
  | nil
  | cons (t : Tg) (ts : Tgs)
end
mutual
def Tg.slots : Tg → List Nat
  | .var i => [i]
  | .tup ts => ts.slots
def Tgs.slots : Tgs → List Nat
  | .nil => []
  | .cons t ts => t.slots ++ ts.slots
end
def Tgs.len : Tgs → Nat
  | .nil => 0
  | .cons _ ts => ts.len + 1
mutual
def asgT : Tg → D → Env → Res Env
  | .var i, d, ρ => .ok (ρ.set i (some (false, d)))
  | .tup ts, .tuple ds, ρ => if ts.len == ds.length then asgTs ts ds ρ else .st
  | .tup _, _, _ => .st
def asgTs : Tgs → List D → Env → Res Env
  | .nil, [], ρ => .ok ρ
  | .cons t ts, d :: ds, ρ => do let ρ' ← asgT t d ρ; asgTs ts ds ρ'
  | _, _, _ => .st
end
/-- what is wanted behind an assignment -/
def RtG (K : PySem.W.Frag) (H : Hp) (A : List Addr) (O : List (List Addr)) (sl : List Nat) (σ : L2.St) (Q : L2.St → Hp → Prop) : Res Env → Prop
  | .ok ρ' => ∀ σ' O', EnvOk K H A O' σ' ρ' → (∀ a ∈ O'.flatten, a ∈ O.flatten) → (∀ vs, (∀ i ∈ sl, i ∈ vs) → wipe σ' vs = wipe σ vs) → Q σ' H
  | _ => False
def tG (K : PySem.W.Frag) (t : Tg) : TG := fun v σ H Q => ∃ A O ρ d, AOk H A ∧ EnvOk K H A O σ ρ ∧ Rp K H A v d ∧ RtG K H A O t.slots σ Q (asgT t d ρ)
def tGs (K : PySem.W.Frag) (t : Tgs) : TGs := fun vs σ H Q => ∃ A O ρ ds, AOk H A ∧ EnvOk K H A O σ ρ ∧ RpL K H A vs ds ∧ RtG K H A O t.slots σ Q (asgTs t ds ρ)
def SG (c : Ctx) (tg : Expr) (t : Tg) : Prop := ∀ X Φ, Ok c X Φ → PG X tg (tG X.K t)
def SGs (c : Ctx) (tg : List Expr) (t : Tgs) : Prop := ∀ X Φ, Ok c X Φ → PGs X tg (tGs X.K t)
theorem pgI {X : Cx} {e : Expr} {t t' : TG} (h : PG X e t) (q : ∀ v σ H Q, t' v σ H Q → t v σ H Q) : PG X e t' := ⟨fun pins s σ H v u Q I r x => h.run pins s σ H v u Q I r (q v σ H Q x)⟩
theorem pgsI {X : Cx} {e : List Expr} {t t' : TGs} (h : PGs X e t) (q : ∀ v σ H Q, t' v σ H Q → t v σ H Q) : PGs X e t' := ⟨fun pins s σ H v u Q I r x => h.run pins s σ H v u Q I r (q v σ H Q x)⟩
theorem wipe_at {σ : L2.St} : ∀ {vs : List Nat} {i : Nat}, i < σ.length → (wipe σ vs)[i]? = if i ∈ vs then some none else σ[i]?
  | [], i, _ => by simp [wipe]
  | v :: vs, i, h => by
    have hl : v < (wipe σ vs).length ∨ ¬ v < (wipe σ vs).length := Nat.lt_or_ge _ _ |>.imp id Nat.not_lt.mpr
    unfold wipe
    rw [List.getElem?_set]
    by_cases e : v = i
    · subst e
      rw [if_pos rfl, wipe_length, if_pos h]
      simp
    · rw [if_neg e, wipe_at h]
      by_cases m : i ∈ vs
      · simp [m]
      · simp [m, Ne.symm e]
theorem wipe_set {σ : L2.St} {vs : List Nat} {i : Nat} {x : Option V} (h : i ∈ vs) : wipe (σ.set i x) vs = wipe σ vs := by
  apply List.ext_getElem?
  intro j
  by_cases hj : j < σ.length
  · rw [wipe_at hj, wipe_at (by rw [List.length_set]; exact hj)]
    by_cases m : j ∈ vs
    · rw [if_pos m, if_pos m]
    · rw [if_neg m, if_neg m, List.getElem?_set_ne (fun z => m (by rw [← z]; exact h))]
  · rw [List.getElem?_eq_none (by rw [wipe_length, List.length_set]; omega), List.getElem?_eq_none (by rw [wipe_length]; omega)]
def LocC (c : Ctx) (x : Str) : Prop := c.sc.names.lookup x = some .local ∨ (c.sc.names.lookup x = some .cell ∧ x ∈ c.cok)
section
variable {c : Ctx} {e : Expr} {es : List Expr} {pos : Pos}
theorem LocC.loc {x : Str} {X : Cx} {Φ : Calls} (h : LocC c x) (ok : Ok c X Φ) : Loc X.env.scope x ∧ (X.fn x = true ∨ X.env.scope.names.lookup x = some .local) := by
  rw [ok.sc]
  rcases h with h | ⟨h, m⟩
  · exact ⟨.inl h, .inr h⟩
  · exact ⟨.inr h, .inl (ok.cok x m)⟩
theorem sg_var {i : Nat} {x : Str} (hi : c.N[i]? = some x) (hx : LocC c x) : SG c (.Name x pos) (.var i) := fun X Φ ok =>
  pgI (pg_name (i := i) (by rw [ok.hN]; exact ok.nd) (by rw [ok.hN]; exact hi) (hx.loc ok).1 (hx.loc ok).2) fun v σ H Q ⟨A, O, ρ, d, hA, hρ, hd, q⟩ => by
    have e2 : EnvOk X.K H A (O.set i []) (σ.set i (some v)) (ρ.set i (some (false, d))) := hρ.set i hd
    exact q _ _ e2 (fun a ha => by
      obtain ⟨l, hl, h2⟩ := List.mem_flatten.mp ha
      rcases List.mem_or_eq_of_mem_set hl with h | h
      · exact List.mem_flatten.mpr ⟨l, h, h2⟩
      · subst h; cases h2) fun vs h => wipe_set (h i (by simp [Tg.slots]))
theorem sgs_nil : SGs c [] .nil := fun X Φ ok => pgsI pgs_nil fun v σ H Q ⟨A, O, ρ, ds, hA, hρ, hd, q⟩ => by
  cases ds with
  | nil => cases hd; exact ⟨rfl, q _ _ hρ (fun _ h => h) fun _ _ => rfl⟩
  | cons d ds => exact q.elim
theorem sgs_cons {t : Tg} {ts : Tgs} (h : SG c e t) (hs : SGs c es ts) (hn : notStar e = true) : SGs c (e :: es) (.cons t ts) := fun X Φ ok =>
  pgsI (pgs_cons (h X Φ ok) (hs X Φ ok) (by cases e <;> first | rfl | cases hn)) fun v σ H Q ⟨A, O, ρ, ds, hA, hρ, hd, q⟩ => by
    cases ds with
    | nil => exact q.elim
    | cons d ds =>
      cases hd with
      | @cons v vs _ _ h1 h2 =>
        refine ⟨v, vs, rfl, A, O, ρ, d, hA, hρ, h1, ?_⟩
        have q : RtG X.K H A O (t.slots ++ ts.slots) σ Q (asgT t d ρ >>= fun ρ' => asgTs ts ds ρ') := q
        cases hr : asgT t d ρ with
        | st => rw [hr] at q; exact q
        | ex z => rw [hr] at q; exact q
        | ok ρ' =>
          rw [hr] at q
          intro σ' O' e1 e3 e2
          refine ⟨A, O', ρ', ds, hA, e1, h2, ?_⟩
          have q : RtG X.K H A O (t.slots ++ ts.slots) σ Q (asgTs ts ds ρ') := q
          cases hr2 : asgTs ts ds ρ' with
          | st => rw [hr2] at q; exact q
          | ex z => rw [hr2] at q; exact q
          | ok ρ2 =>
            rw [hr2] at q
            exact fun σ2 O2 e4 e6 e5 => q σ2 O2 e4 (fun a ha => e3 a (e6 a ha)) fun vs hv => (e5 vs fun i hi => hv i (by simp [hi])).trans (e2 vs fun i hi => hv i (by simp [hi]))
theorem each_len {env : PySem.Env} : ∀ {es : List Expr}, es.all notStar = true → (assignEach es env).length = es.length ∧ (assignEach es env).findIdx? (·.1) = none
  | [], _ => ⟨rfl, rfl⟩
  | e :: es, h => by
    rw [List.all_cons, Bool.and_eq_true] at h
    obtain ⟨h1, h2⟩ := each_len (env := env) h.2
    have e1 : assignEach (e :: es) env = (false, assign e env) :: assignEach es env := by
      have := h.1
      cases e <;> first | rfl | cases this
    rw [e1]
    refine ⟨by rw [List.length_cons, List.length_cons, h1], ?_⟩
    rw [List.findIdx?_cons]
    simp [h2]
theorem sg_tup {ts : Tgs} {k : Nat} (h : SGs c es ts) (hn : es.all notStar = true) (hl : es.length = ts.len) : SG c (.Tuple es k pos) (.tup ts) := fun X Φ ok =>
  pgI (pg_tup (n := es.length) ok.calm (h X Φ ok) (each_len hn).1 (each_len hn).2) fun v σ H Q ⟨A, O, ρ, d, hA, hρ, hd, q⟩ => by
    cases d with
    | tuple ds =>
      cases hd with
      | @tup a xs _ h1 h2 =>
        have q : RtG X.K H A O ts.slots σ Q (if ts.len == ds.length then asgTs ts ds ρ else .st) := q
        by_cases hz : (ts.len == ds.length) = true
        · rw [if_pos hz] at q
          have hz' := beq_iff_eq.mp hz
          exact ⟨a, xs, rfl, h1.t, by rw [h2.length]; omega, A, O, ρ, ds, hA, hρ, h2, q⟩
        · rw [if_neg hz] at q; exact q.elim
    | _ => exact q.elim
end

/-! ### what is walked -/
def Wk (K : PySem.W.Frag) (A B : List Addr) (J : It) (H1 : Hp) (ds : List D) : Prop := ∀ i H' A2, But B H1 H' → (∀ p ∈ A2, p ∈ A ∨ H1 p = none) →
  (∀ d, ds[i]? = some d → J.go i H' ∧ ∀ x H'', J.yld i H' x H'' → Same H' H'' ∧ Rp K H'' A2 x d) ∧ (ds.length ≤ i → J.stop i H')
def RtI (K : PySem.W.Frag) (mg : Str → Option Value) (W : WX) (A B : List Addr) (H : Hp) (σ : L2.St) (R : It → Hp → Prop) : Res (List D) → Prop
  | .st => False
  | .ok ds => ∀ J H1, Same H H1 → Wk K A B J H1 ds → R J H1
  | .ex c => ∀ C H', Same H H' → mg c = some (.ref C) → W (.ref C) none σ H'
/-- bor: the walked thing may be owned (nothing is changed meanwhile) -/
def tI (K : PySem.W.Frag) (mg : Str → Option Value) (W : WX) (bor : Bool) (f : Env → Res (List D)) : TI := fun σ H R => ∃ A O ρ, AOk H A ∧ EnvOk K H A O σ ρ ∧ RtI K mg W A (if bor then [] else A) H σ R (f ρ)
def SI (bor : Bool) (c : Ctx) (tg iter : Expr) (f : EvL) : Prop := ∀ X Φ W, Ok c X Φ → Takes X W → PI X tg iter (tI X.K X.mg W bor (f Φ))
theorem piI {X : Cx} {tg e : Expr} {t t' : TI} (h : PI X tg e t) (q : ∀ σ H R, t' σ H R → t σ H R) : PI X tg e t' := ⟨fun pins s σ H R I x => h.run pins s σ H R I (q σ H R x)⟩
section
variable {K : PySem.W.Frag} {A B : List Addr} {H1 : Hp} {ds : List D} {a : Addr} {xs : List V}
theorem wk_list (h : SqL K H1 a xs) (r : RpL K H1 A xs ds) (hs : ∀ H', But B H1 H' → SqL K H' a xs) (hB : AOk H1 B) (s : ∀ b ∈ B, b ∈ A) : Wk K A B (Itl K a) H1 ds := fun i H' A2 bt w => by
  have h' : SqL K H' a xs := hs H' bt
  have r' : RpL K H' A2 xs ds := r.go s hB bt w
  refine ⟨fun d hd => ?_, fun hz => ⟨xs, h', by rw [r.length]; exact hz⟩⟩
  obtain ⟨x, e1, e2⟩ := r'.get' hd
  refine ⟨⟨xs, x, h', e1⟩, fun y H'' hy => ?_⟩
  obtain ⟨rfl, hy⟩ := hy
  have := (hy xs h').symm.trans e1
  cases this
  exact ⟨Same.refl _, e2⟩
theorem wk_tup (h : SqT K H1 a xs) (r : RpL K H1 A xs ds) (hB : AOk H1 B) (s : ∀ b ∈ B, b ∈ A) : Wk K A B (Itt K a) H1 ds := fun i H' A2 bt w => by
  have h' : SqT K H' a xs := SqT_but bt hB h
  have r' : RpL K H' A2 xs ds := r.go s hB bt w
  refine ⟨fun d hd => ?_, fun hz => ⟨xs, h', by rw [r.length]; exact hz⟩⟩
  obtain ⟨x, e1, e2⟩ := r'.get' hd
  refine ⟨⟨xs, x, h', e1⟩, fun y H'' hy => ?_⟩
  obtain ⟨rfl, hy⟩ := hy
  have := (hy xs h').symm.trans e1
  cases this
  exact ⟨Same.refl _, e2⟩
theorem wk_str {z : Str} : Wk K A B (Its z) H1 (z.cps.toList.map fun c => .str ⟨#[c]⟩) := fun i H' A2 bt w => by
  refine ⟨fun d hd => ?_, fun hz => by simpa [Its] using hz⟩
  rw [List.getElem?_map] at hd
  obtain ⟨k, e1, rfl⟩ := Option.map_eq_some_iff.mp hd
  have e1' : z.cps[i]? = some k := by simpa using e1
  refine ⟨(Array.getElem?_eq_some_iff.mp e1').1, fun y H'' hy => ?_⟩
  obtain ⟨rfl, k', e2, rfl⟩ := hy
  rw [e1'] at e2
  cases e2
  exact ⟨Same.refl _, .str _⟩
def rngL (lo : Int) (n : Nat) : List D := (List.range n).map fun i => .int (lo + (i : Nat))
theorem wk_rng {lo : Int} {n : Nat} : Wk K A B (Itr lo n) H1 (rngL lo n) := fun i H' A2 bt w => by
  refine ⟨fun d hd => ?_, fun hz => by simpa [Itr, rngL] using hz⟩
  unfold rngL at hd
  rw [List.getElem?_map] at hd
  obtain ⟨k, e1, rfl⟩ := Option.map_eq_some_iff.mp hd
  obtain ⟨hk, e2⟩ := List.getElem?_eq_some_iff.mp e1
  have e3 : k = i := by simpa using e2.symm
  subst e3
  refine ⟨(by simpa using hk : k < n), fun y H'' hy => ?_⟩
  obtain ⟨rfl, rfl⟩ := hy
  exact ⟨Same.refl _, .int _⟩
def rngD (hi : Int) (n : Nat) : List D := (List.range n).map fun i => .int (hi + (i : Nat) * (-1))
theorem wk_rngD {lo : Int} {n : Nat} : Wk K A B (Itc lo (-1) n) H1 (rngD lo n) := fun i H' A2 bt w => by
  refine ⟨fun d hd => ?_, fun hz => by simpa [Itc, rngD] using hz⟩
  unfold rngD at hd
  rw [List.getElem?_map] at hd
  obtain ⟨k, e1, rfl⟩ := Option.map_eq_some_iff.mp hd
  obtain ⟨hk, e2⟩ := List.getElem?_eq_some_iff.mp e1
  have e3 : k = i := by simpa using e2.symm
  subst e3
  refine ⟨(by simpa using hk : k < n), fun y H'' hy => ?_⟩
  obtain ⟨rfl, rfl⟩ := hy
  exact ⟨Same.refl _, .int _⟩
def enumFrom (k : Nat) : List D → List D
  | [] => []
  | d :: ds => .tuple [.int (k : Nat), d] :: enumFrom (k + 1) ds
theorem enumFrom_len : ∀ (k : Nat) (ds : List D), (enumFrom k ds).length = ds.length
  | _, [] => rfl
  | k, d :: ds => by rw [enumFrom, List.length_cons, List.length_cons, enumFrom_len]
theorem enumFrom_get : ∀ (k : Nat) (ds : List D) (i : Nat), (enumFrom k ds)[i]? = ds[i]?.map fun d => .tuple [.int ((k + i : Nat) : Int), d]
  | _, [], _ => rfl
  | k, d :: ds, 0 => rfl
  | k, d :: ds, i + 1 => by
    rw [enumFrom, List.getElem?_cons_succ, List.getElem?_cons_succ, enumFrom_get (k + 1) ds i]
    have e : k + 1 + i = k + (i + 1) := by omega
    rw [e]
theorem wk_enum (h : SqL K H1 a xs) (r : RpL K H1 A xs ds) (hs : ∀ H', But B H1 H' → SqL K H' a xs) (hB : AOk H1 B) (s : ∀ b ∈ B, b ∈ A) : Wk K A B (IteLE K a) H1 (enumFrom 0 ds) := fun i H' A2 bt w => by
  have h' : SqL K H' a xs := hs H' bt
  have r' : RpL K H' A2 xs ds := r.go s hB bt w
  refine ⟨fun d hd => ?_, fun hz => ⟨xs, h', by rw [r.length]; simpa [enumFrom_len] using hz⟩⟩
  rw [enumFrom_get, Nat.zero_add] at hd
  obtain ⟨d', e0, rfl⟩ := Option.map_eq_some_iff.mp hd
  obtain ⟨x, e1, e2⟩ := r'.get' e0
  refine ⟨⟨xs, x, h', e1⟩, fun y H'' hy => ?_⟩
  obtain ⟨T, x2, o, rfl, nT, on, rfl, hx⟩ := hy
  have := (hx xs h').symm.trans e1
  cases this
  exact ⟨same_upd nT, .tup (.inl ⟨o, upd_same, on⟩) (.cons (.int _) (.cons (e2.same (same_upd nT)) .nil))⟩
theorem wk_enumT (h : SqT K H1 a xs) (r : RpL K H1 A xs ds) (hB : AOk H1 B) (s : ∀ b ∈ B, b ∈ A) : Wk K A B (IteTE K a) H1 (enumFrom 0 ds) := fun i H' A2 bt w => by
  have h' : SqT K H' a xs := SqT_but bt hB h
  have r' : RpL K H' A2 xs ds := r.go s hB bt w
  refine ⟨fun d hd => ?_, fun hz => ⟨xs, h', by rw [r.length]; simpa [enumFrom_len] using hz⟩⟩
  rw [enumFrom_get, Nat.zero_add] at hd
  obtain ⟨d', e0, rfl⟩ := Option.map_eq_some_iff.mp hd
  obtain ⟨x, e1, e2⟩ := r'.get' e0
  refine ⟨⟨xs, x, h', e1⟩, fun y H'' hy => ?_⟩
  obtain ⟨T, x2, o, rfl, nT, on, rfl, hx⟩ := hy
  have := (hx xs h').symm.trans e1
  cases this
  exact ⟨same_upd nT, .tup (.inl ⟨o, upd_same, on⟩) (.cons (.int _) (.cons (e2.same (same_upd nT)) .nil))⟩
theorem rev_get {α : Type} {l : List α} {i : Nat} {d : α} (h : l.reverse[i]? = some d) : i < l.length ∧ l[l.length - 1 - i]? = some d := by
  have hi : i < l.length := by
    have := (List.getElem?_eq_some_iff.mp h).1
    simpa using this
  exact ⟨hi, by rw [← List.getElem?_reverse hi]; exact h⟩
theorem wk_rev (h : SqL K H1 a xs) (r : RpL K H1 A xs ds) (hs : ∀ H', But B H1 H' → SqL K H' a xs) (hB : AOk H1 B) (s : ∀ b ∈ B, b ∈ A) : Wk K A B (Itv K a xs.length) H1 ds.reverse := fun i H' A2 bt w => by
  have h' : SqL K H' a xs := hs H' bt
  have r' : RpL K H' A2 xs ds := r.go s hB bt w
  have hl := r.length
  refine ⟨fun d hd => ?_, fun hz => (by simpa [hl] using hz : xs.length ≤ i)⟩
  obtain ⟨hi, hd⟩ := rev_get hd
  obtain ⟨x, e1, e2⟩ := r'.get' hd
  rw [← hl] at e1
  refine ⟨⟨by omega, xs, x, h', e1⟩, fun y H'' hy => ?_⟩
  obtain ⟨rfl, hy⟩ := hy
  have := (hy xs h').symm.trans e1
  cases this
  exact ⟨Same.refl _, e2⟩
theorem wk_revT (h : SqT K H1 a xs) (r : RpL K H1 A xs ds) (hB : AOk H1 B) (s : ∀ b ∈ B, b ∈ A) : Wk K A B (RT.ItvT K a xs.length) H1 ds.reverse := fun i H' A2 bt w => by
  have h' : SqT K H' a xs := SqT_but bt hB h
  have r' : RpL K H' A2 xs ds := r.go s hB bt w
  have hl := r.length
  refine ⟨fun d hd => ?_, fun hz => (by simpa [hl] using hz : xs.length ≤ i)⟩
  obtain ⟨hi, hd⟩ := rev_get hd
  obtain ⟨x, e1, e2⟩ := r'.get' hd
  rw [← hl] at e1
  refine ⟨⟨by omega, xs, x, h', e1⟩, fun y H'' hy => ?_⟩
  obtain ⟨rfl, hy⟩ := hy
  have := (hy xs h').symm.trans e1
  cases this
  exact ⟨Same.refl _, e2⟩
end

/-! the iterators of the text -/
def itemsOf : D → Res (List D)
  | .list ds => .ok ds
  | .tuple ds => .ok ds
  | .str z => .ok (z.cps.toList.map fun c => .str ⟨#[c]⟩)
  | _ => .st
def seqOf : D → Res (List D)
  | .list ds => .ok ds
  | .tuple ds => .ok ds
  | _ => .st
/-- a value walked: list, tuple, text -/
theorem pi_dyn {X : Cx} {tg l : Expr} {tl : TE} (hl : PE X l tl) : PI X tg l (fun σ H R => tl σ H fun x H1 => (∃ a xs, x = .ref a ∧ SqL X.K H1 a xs ∧ R (Itl X.K a) H1) ∨ (∃ a xs, x = .ref a ∧ SqT X.K H1 a xs ∧ R (Itt X.K a) H1) ∨ ∃ z, x = .str z ∧ R (Its z) H1) := by
  refine ⟨fun pins s σ H R I h => ?_⟩
  refine thn (hl.run pins s σ H _ I h) fun v s1 ⟨x, H1, I1, r1, q1⟩ => ?_
  rcases q1 with ⟨a, xs, rfl, hq, q⟩ | ⟨a, xs, rfl, hq, q⟩ | ⟨z, rfl, q⟩
  · cases r1
    obtain ⟨its, rv, p, hz⟩ := I1.list hq
    refine wpAny_pyIter_list p.isList ?_
    refine ⟨s1.heap.objs.size, [s1.heap.objs.size], _, _, H1, rfl, I1.kept (t' := s1.toks) fun b o e => Heap.get?_push_of_some _ e, turn_list a _, ⟨_, Heap.get?_push_size _ rfl, rfl, rfl⟩, fun b hb => ?_, q⟩
    have e : b = s1.heap.objs.size := by simpa using hb
    subst e
    exact I1.fpOk (Nat.le_refl _) (I1.hok.fresh (Nat.le_refl _))
  · cases r1
    obtain ⟨its, rv, p, hz⟩ := I1.tuple hq
    refine wpAny_pyIter_tuple (show s1.heap.IsTuple a its.toArray from p) ?_
    refine ⟨s1.heap.objs.size, [s1.heap.objs.size], _, _, H1, rfl, I1.kept (t' := s1.toks) fun b o e => Heap.get?_push_of_some _ e, turn_tuple a _, ⟨_, Heap.get?_push_size _ rfl, rfl, rfl⟩, fun b hb => ?_, q⟩
    have e : b = s1.heap.objs.size := by simpa using hb
    subst e
    exact I1.fpOk (Nat.le_refl _) (I1.hok.fresh (Nat.le_refl _))
  · obtain ⟨t, rfl⟩ := r1
    cases ha : z.cps.all (· < 128)
    · exact wpAny_pyIter_wide ha (pi_one (tk := s1.toks) I1 _ (turn_str _ z t "str_iterator" (.inr rfl)) ⟨_, Heap.get?_push_size _ rfl, rfl, rfl⟩ q)
    · exact wpAny_pyIter_ascii ha (pi_one (tk := s1.toks) I1 _ (turn_str _ z t "str_ascii_iterator" (.inl rfl)) ⟨_, Heap.get?_push_size _ rfl, rfl, rfl⟩ q)
section
variable {c : Ctx} {tg a b : Expr} {fa fb : EvE} {pos p : Pos}
/-- the walked value, where bor: it may be owned -/
def pS (bor : Bool) : PSh := if bor then pB else pE
abbrev bS (bor : Bool) (A : List Addr) : List Addr := if bor then [] else A
theorem bS_ok {H : Hp} {A : List Addr} (bor : Bool) (hA : AOk H A) : AOk H (bS bor A) ∧ ∀ b ∈ bS bor A, b ∈ A := by
  cases bor
  · exact ⟨hA, fun _ h => h⟩
  · exact ⟨AOk.nil, by simp [bS]⟩
theorem pS_list {K : PySem.W.Frag} {H : Hp} {A : List Addr} {v : V} {ds : List D} (bor : Bool) (h : pS bor K A H v (.list ds)) : ∃ a xs, v = .ref a ∧ SqL K H a xs ∧ RpL K H A xs ds ∧ ∀ H', But (bS bor A) H H' → SqL K H' a xs := by
  cases bor
  · have h : Rp K H A v (.list ds) := h
    cases h with
    | @lst a xs _ hq r =>
      refine ⟨a, xs, rfl, hq.sq, r, fun H' bt => ?_⟩
      rcases hq with ⟨h, n⟩ | h
      · exact .inl (Rd_but bt n h)
      · exact .inr h
  · obtain ⟨a, xs, rfl, h, r⟩ := (show RpB K H A v (.list ds) from h)
    exact ⟨a, xs, rfl, h, r, fun H' bt => (show Same H H' from fun b o e => bt b o (by simp [bS]) e).seq h⟩
theorem pS_tup {K : PySem.W.Frag} {H : Hp} {A : List Addr} {v : V} {ds : List D} (bor : Bool) (h : pS bor K A H v (.tuple ds)) : ∃ a xs, v = .ref a ∧ SqT K H a xs ∧ RpL K H A xs ds := by
  have h : Rp K H A v (.tuple ds) := by cases bor <;> exact h
  cases h with
  | @tup a xs _ hq r => exact ⟨a, xs, rfl, hq.t, r⟩
theorem pS_str {K : PySem.W.Frag} {H : Hp} {A : List Addr} {v : V} {z : Str} (bor : Bool) (h : pS bor K A H v (.str z)) : v = .str z := by
  have h : Rp K H A v (.str z) := by cases bor <;> exact h
  cases h; rfl
theorem pS_int {K : PySem.W.Frag} {H : Hp} {A : List Addr} {v : V} {z : Int} (bor : Bool) (h : pS bor K A H v (.int z)) : v = .int z := by
  have h : Rp K H A v (.int z) := by cases bor <;> exact h
  cases h; rfl
theorem rti_ok {K : PySem.W.Frag} {mg : Str → Option Value} {W : WX} {A B : List Addr} {H : Hp} {σ : L2.St} {R : It → Hp → Prop} {m : Res D} {g : D → Res (List D)} {P : Hp → V → D → Prop} {Q : VK} (h : RtI K mg W A B H σ R (m >>= g))
    (k : ∀ d v H1, Same H H1 → P H1 v d → RtI K mg W A B H1 σ R (g d) → Q v H1) : Rt mg W P H σ Q m := by
  cases m with
  | st => exact h
  | ex z => exact h
  | ok d =>
    intro v H1 s p
    refine k d v H1 s p ?_
    have h : RtI K mg W A B H σ R (g d) := h
    cases hg : g d with
    | st => rw [hg] at h; exact h
    | ok ds => rw [hg] at h; exact fun J H2 s2 => h J H2 (s.trans s2)
    | ex z => rw [hg] at h; exact fun C H2 s2 => h C H2 (s.trans s2)
theorem rti_okL {K : PySem.W.Frag} {mg : Str → Option Value} {W : WX} {A B : List Addr} {H : Hp} {σ : L2.St} {R : It → Hp → Prop} {m : Res (List D)} {g : List D → Res (List D)} {P : Hp → List V → List D → Prop} {Q : List V → Hp → Prop} (h : RtI K mg W A B H σ R (m >>= g))
    (k : ∀ d v H1, Same H H1 → P H1 v d → RtI K mg W A B H1 σ R (g d) → Q v H1) : RtL mg W P H σ Q m := by
  cases m with
  | st => exact h
  | ex z => exact h
  | ok d =>
    intro v H1 s p
    refine k d v H1 s p ?_
    have h : RtI K mg W A B H σ R (g d) := h
    cases hg : g d with
    | st => rw [hg] at h; exact h
    | ok ds => rw [hg] at h; exact fun J H2 s2 => h J H2 (s.trans s2)
    | ex z => rw [hg] at h; exact fun C H2 s2 => h C H2 (s.trans s2)
theorem si_val (bor : Bool) (ha : SX (pS bor) c a fa) : SI bor c tg a (fun Φ ρ => do let d ← fa Φ ρ; itemsOf d) := fun X Φ W ok tk =>
  piI (pi_dyn (ha X Φ W ok tk)) fun σ H R ⟨A, O, ρ, hA, hρ, q⟩ => ⟨A, O, ρ, hA, hρ, rti_ok q fun d v H1 s1 p1 q1 => by
    obtain ⟨b1, b2⟩ := bS_ok bor (hA.same s1)
    cases d with
    | list ds =>
      obtain ⟨a, xs, rfl, h, r, hs⟩ := pS_list bor p1
      exact .inl ⟨a, xs, rfl, h, q1 _ _ (Same.refl _) (wk_list h r hs b1 b2)⟩
    | tuple ds =>
      obtain ⟨a, xs, rfl, h, r⟩ := pS_tup bor p1
      exact .inr (.inl ⟨a, xs, rfl, h, q1 _ _ (Same.refl _) (wk_tup h r b1 b2)⟩)
    | str z =>
      have := pS_str bor p1
      subst this
      exact .inr (.inr ⟨z, rfl, q1 _ _ (Same.refl _) wk_str⟩)
    | _ => exact q1.elim⟩
/-! range, enumerate, reversed -/
def i62 (i : Int) : Bool := decide (-(2 ^ 62) ≤ i) && decide (i < 2 ^ 62)
theorem i62_lt {i : Int} (h : i62 i = true) : -(2 ^ 62) ≤ i ∧ i < 2 ^ 62 := ⟨of_decide_eq_true (and2 h).1, of_decide_eq_true (and2 h).2⟩
def rng : List D → Res (List D)
  | [.int j] => if i62 j then .ok (rngL 0 j.toNat) else .st
  | [.int i, .int j] => if i62 i && i62 j then .ok (rngL i (j - i).toNat) else .st
  | [.int i, .int j, .int k] => if i62 i && i62 j && k == -1 then .ok (rngD i (i - j).toNat) else .st
  | _ => .st
theorem rpls1 {K : PySem.W.Frag} {H : Hp} {A : List Addr} {vs : List V} {i : Int} (h : RpL K H A vs [.int i]) : vs = [.int i] := by
  cases h with | cons h r => cases r; cases h; rfl
theorem rpls2 {K : PySem.W.Frag} {H : Hp} {A : List Addr} {vs : List V} {i j : Int} (h : RpL K H A vs [.int i, .int j]) : vs = [.int i, .int j] := by
  cases h with | cons h r => cases r with | cons h' r => cases r; cases h; cases h'; rfl
theorem rpls3 {K : PySem.W.Frag} {H : Hp} {A : List Addr} {vs : List V} {i j k : Int} (h : RpL K H A vs [.int i, .int j, .int k]) : vs = [.int i, .int j, .int k] := by
  cases h with | cons h r => cases r with | cons h' r => cases r with | cons h'' r => cases r; cases h; cases h'; cases h''; rfl
theorem si_rng1 {fs : EvL} (bor : Bool) (hb : ("range" : Str) ∈ c.blts) (hk : c.sc.names.lookup ("range" : Str) = some .globalImplicit) (hs : SXs pEs c [a] fs) (hn : notStar a = true) : SI bor c tg (.Call (.Name "range" p) [a] [] pos) (fun Φ ρ => do let r ← fs Φ ρ; match r with | [_] => rng r | _ => .st) := fun X Φ W ok tk =>
  piI (pi_range1 (gl_of ok hk) (ok.blt _ hb) (hs X Φ W ok tk) (star_of hn _ _)) fun σ H R ⟨A, O, ρ, hA, hρ, q⟩ => ⟨A, O, ρ, hA, hρ, rti_okL q fun ds vs H1 s1 p1 q1 => by
    match ds, p1, q1 with
    | [.int j], p1, q1 =>
      have q1 : RtI X.K X.mg W A _ H1 σ R (if i62 j then .ok (rngL 0 j.toNat) else .st) := q1
      by_cases hj : i62 j = true
      · rw [if_pos hj] at q1
        exact ⟨j, rpls1 p1, (i62_lt hj).1, (i62_lt hj).2, q1 _ _ (Same.refl _) wk_rng⟩
      · rw [if_neg hj] at q1; exact q1.elim
    | [.none], _, q1 => exact q1.elim
    | [.bool _], _, q1 => exact q1.elim
    | [.str _], _, q1 => exact q1.elim
    | [.list _], _, q1 => exact q1.elim
    | [.tuple _], _, q1 => exact q1.elim
    | [.dict _], _, q1 => exact q1.elim
    | [], _, q1 => exact q1.elim
    | _ :: _ :: _, _, q1 => exact q1.elim⟩
theorem si_rng2 {fs : EvL} (bor : Bool) (hb : ("range" : Str) ∈ c.blts) (hk : c.sc.names.lookup ("range" : Str) = some .globalImplicit) (hs : SXs pEs c [a, b] fs) (hn : notStar a = true) (hn2 : notStar b = true) : SI bor c tg (.Call (.Name "range" p) [a, b] [] pos) (fun Φ ρ => do let r ← fs Φ ρ; match r with | [_, _] => rng r | _ => .st) := fun X Φ W ok tk =>
  piI (pi_range2 (gl_of ok hk) (ok.blt _ hb) (hs X Φ W ok tk) (by rw [star_of hn, star_of hn2]; rfl) (by rw [star_of hn2]; rfl)) fun σ H R ⟨A, O, ρ, hA, hρ, q⟩ => ⟨A, O, ρ, hA, hρ, rti_okL q fun ds vs H1 s1 p1 q1 => by
    have go : ∀ i j, ds = [.int i, .int j] → iRng2 (fun σ H Q => Q vs H1) σ H1 R → ∃ i j : Int, vs = [.int i, .int j] ∧ (-(2 ^ 62) ≤ i ∧ i < 2 ^ 62 ∧ -(2 ^ 62) ≤ j ∧ j < 2 ^ 62) ∧ R (Itr i (j - i).toNat) H1 := fun _ _ _ h => h
    by_cases hd : ∃ i j, ds = [.int i, .int j]
    · obtain ⟨i, j, rfl⟩ := hd
      have q1 : RtI X.K X.mg W A _ H1 σ R (if i62 i && i62 j then .ok (rngL i (j - i).toNat) else .st) := q1
      by_cases hj : (i62 i && i62 j) = true
      · rw [if_pos hj] at q1
        obtain ⟨h1, h2⟩ := and2 hj
        exact ⟨i, j, rpls2 p1, ⟨(i62_lt h1).1, (i62_lt h1).2, (i62_lt h2).1, (i62_lt h2).2⟩, q1 _ _ (Same.refl _) wk_rng⟩
      · rw [if_neg hj] at q1; exact q1.elim
    · exfalso
      match ds, q1, hd with
      | [], q1, _ => exact q1
      | [_], q1, _ => exact q1
      | _ :: _ :: _ :: _, q1, _ => exact q1
      | [x, y], q1, hd =>
        cases x <;> first
          | exact q1
          | (cases y <;> first
              | exact q1
              | exact hd ⟨_, _, rfl⟩)⟩
theorem si_rng3 {d : Expr} {fs : EvL} (bor : Bool) (hb : ("range" : Str) ∈ c.blts) (hk : c.sc.names.lookup ("range" : Str) = some .globalImplicit) (hs : SXs pEs c [a, b, d] fs) (hn : notStar a = true) (hn2 : notStar b = true) (hn3 : notStar d = true) : SI bor c tg (.Call (.Name "range" p) [a, b, d] [] pos) (fun Φ ρ => do let r ← fs Φ ρ; match r with | [_, _, _] => rng r | _ => .st) := fun X Φ W ok tk =>
  piI (pi_range3 (gl_of ok hk) (ok.blt _ hb) (hs X Φ W ok tk) (star_of hn _ _) (stars_of (by simp [hn2, hn3]))) fun σ H R ⟨A, O, ρ, hA, hρ, q⟩ => ⟨A, O, ρ, hA, hρ, rti_okL q fun ds vs H1 s1 p1 q1 => by
    by_cases hd : ∃ i j k, ds = [.int i, .int j, .int k]
    · obtain ⟨i, j, k, rfl⟩ := hd
      have q2 : RtI X.K X.mg W A (if bor then [] else A) H1 σ R (if i62 i && i62 j && k == -1 then .ok (rngD i (i - j).toNat) else .st) := q1
      clear q1
      by_cases hj : (i62 i && i62 j && k == -1) = true
      · obtain ⟨h1, h2, h3⟩ := and3 hj
        rw [if_pos hj] at q2
        have q3 : ∀ J H2, Same H1 H2 → Wk X.K A (if bor then [] else A) J H2 (rngD i (i - j).toNat) → R J H2 := q2
        clear q2 hj
        have hk3 := beq_iff_eq.mp h3
        rw [hk3] at p1
        exact ⟨i, j, -1, (i - j).toNat, rpls3 p1, RgC.neg (i62_lt h1).1 (i62_lt h1).2 (i62_lt h2).1 (i62_lt h2).2, q3 _ _ (Same.refl _) wk_rngD⟩
      · rw [if_neg hj] at q2; exact q2.elim
    · exfalso
      match ds, q1, hd with
      | [], q1, _ => exact q1
      | [_], q1, _ => exact q1
      | [_, _], q1, _ => exact q1
      | _ :: _ :: _ :: _ :: _, q1, _ => exact q1
      | [x, y, z], q1, hd =>
        cases x <;> first
          | exact q1
          | (cases y <;> first
              | exact q1
              | (cases z <;> first
                  | exact q1
                  | exact hd ⟨_, _, _, rfl⟩))⟩
theorem si_rev (bor : Bool) (hb : ("reversed" : Str) ∈ c.blts) (hk : c.sc.names.lookup ("reversed" : Str) = some .globalImplicit) (ha : SX (pS bor) c a fa) (hn : notStar a = true) : SI bor c tg (.Call (.Name "reversed" p) [a] [] pos) (fun Φ ρ => do let d ← fa Φ ρ; let r ← seqOf d; pure r.reverse) := fun X Φ W ok tk =>
  piI (RT.pi_revA (gl_of ok hk) (ok.blt _ hb) (ha X Φ W ok tk) (star_of hn _ _)) fun σ H R ⟨A, O, ρ, hA, hρ, q⟩ => ⟨A, O, ρ, hA, hρ, rti_ok q fun d v H1 s1 p1 q1 => by
    obtain ⟨b1, b2⟩ := bS_ok bor (hA.same s1)
    cases d with
    | list ds =>
      obtain ⟨a, xs, rfl, h, r, hs⟩ := pS_list bor p1
      exact ⟨a, xs, rfl, .inl ⟨h, q1 _ _ (Same.refl _) (wk_rev h r hs b1 b2)⟩⟩
    | tuple ds =>
      obtain ⟨a, xs, rfl, h, r⟩ := pS_tup bor p1
      exact ⟨a, xs, rfl, .inr ⟨h, q1 _ _ (Same.refl _) (wk_revT h r b1 b2)⟩⟩
    | _ => exact q1.elim⟩
theorem si_enm {elts : List Expr} {kk : Nat} {tpos : Pos} (bor : Bool) (hb : ("enumerate" : Str) ∈ c.blts) (hk : c.sc.names.lookup ("enumerate" : Str) = some .globalImplicit) (ha : SX (pS bor) c a fa) (hn : notStar a = true) : SI bor c (.Tuple elts kk tpos) (.Call (.Name "enumerate" p) [a] [] pos) (fun Φ ρ => do let d ← fa Φ ρ; let r ← seqOf d; pure (enumFrom 0 r)) := fun X Φ W ok tk =>
  piI (pi_enumE (gl_of ok hk) (ok.blt _ hb) (ha X Φ W ok tk) (star_of hn _ _)) fun σ H R ⟨A, O, ρ, hA, hρ, q⟩ => ⟨A, O, ρ, hA, hρ, rti_ok q fun d v H1 s1 p1 q1 => by
    obtain ⟨b1, b2⟩ := bS_ok bor (hA.same s1)
    cases d with
    | list ds =>
      obtain ⟨a, xs, rfl, h, r, hs⟩ := pS_list bor p1
      exact .inl ⟨a, xs, rfl, h, q1 _ _ (Same.refl _) (wk_enum h r hs b1 b2)⟩
    | tuple ds =>
      obtain ⟨a, xs, rfl, h, r⟩ := pS_tup bor p1
      exact .inr ⟨a, xs, rfl, h, q1 _ _ (Same.refl _) (wk_enumT h r b1 b2)⟩
    | _ => exact q1.elim⟩
end
end Pv

end
section
namespace Pv
open PySem PySem.Spec PyProof.Rows L2

/-! ### list comprehensions -/
def noex {α : Type} : Res α → Res α
  | .ex _ => .st
  | r => r
def wipeE (ρ : Env) : List Nat → Env
  | [] => ρ
  | v :: vs => (wipeE ρ vs).set v none
def wipeO (O : List (List Addr)) : List Nat → List (List Addr)
  | [] => O
  | v :: vs => (wipeO O vs).set v []
theorem EnvOk.wipe {K : PySem.W.Frag} {H : Hp} {A : List Addr} {O : List (List Addr)} {σ : L2.St} {ρ : Env} (h : EnvOk K H A O σ ρ) : ∀ vs : List Nat, EnvOk K H A (wipeO O vs) (L2.wipe σ vs) (wipeE ρ vs)
  | [] => h
  | v :: vs => (EnvOk.wipe h vs).gone none v
/-- what is wanted of a new list -/
def RtF (K : PySem.W.Frag) (mg : Str → Option Value) (W : WX) (A : List Addr) (H : Hp) (σ : L2.St) (Q : VK) : Res D → Prop
  | .ok (.list ds) => ∀ p xs H', Same H H' → H p = none → H' p = some (.lst xs) → RpL K H' (p :: A) xs ds → Q (.ref p) H'
  | .ex c => ∀ C H', Same H H' → mg c = some (.ref C) → W (.ref C) none σ H'
  | _ => False
/-- the items kept, each by its element -/
def lcL (asg : D → Res Env) (cond : Env → Res D) (elt : Env → Res D) : List D → Res (List D)
  | [] => .ok []
  | d :: ds => do
    let ρ' ← noex (asg d)
    let k ← noex (cond ρ')
    match k with
    | .bool true => do let y ← noex (elt ρ'); let r ← lcL asg cond elt ds; pure (y :: r)
    | .bool false => lcL asg cond elt ds
    | _ => .st
def lcE (own : List Nat) (t : Tg) (fi : EvL) (fc fe : EvE) : EvE := fun Φ ρ => do
  let ds ← fi Φ ρ
  if sm ds.length then do
    let r ← lcL (fun d => asgT t d (wipeE ρ own)) (fc Φ) (fe Φ) ds
    pure (.list r)
  else .st
def STs (c : Ctx) (es : List Expr) (f : EvE) : Prop := ∀ X Φ W, Ok c X Φ → Takes X W → PTs X es (tXT X.K X.mg W (f Φ))
section
variable {c : Ctx} {a e iter tg : Expr} {fa fc fe : EvE} {fi : EvL} {pos : Pos}
theorem sts_nil : STs c [] (fun _ _ => .ok (.bool true)) := fun X Φ W ok tk => ⟨fun pins s σ H Q I ⟨A, O, ρ, hA, hρ, q⟩ => pts_nil.run pins s σ H Q I (q _ (Same.refl _))⟩
theorem sts_one (h : ST c a fa) : STs c [a] fa := fun X Φ W ok tk => pts_one (h X Φ W ok tk)
theorem lcL_len {asg : D → Res Env} {cond elt : Env → Res D} : ∀ {ds r : List D}, lcL asg cond elt ds = .ok r → r.length ≤ ds.length
  | [], r, h => by cases h; simp
  | d :: ds, r, h => by
    unfold lcL at h
    cases h1 : noex (asg d) with
    | st => rw [h1] at h; cases h
    | ex z => rw [h1] at h; cases h
    | ok ρ' =>
      rw [h1, Res.ok_bind] at h
      cases h2 : noex (cond ρ') with
      | st => rw [h2] at h; cases h
      | ex z => rw [h2] at h; cases h
      | ok k =>
        rw [h2, Res.ok_bind] at h
        cases k with
        | bool b =>
          cases b with
          | true =>
            have h : (noex (elt ρ') >>= fun y => lcL asg cond elt ds >>= fun r => pure (y :: r)) = .ok r := h
            cases h3 : noex (elt ρ') with
            | st => rw [h3] at h; cases h
            | ex z => rw [h3] at h; cases h
            | ok y =>
              rw [h3, Res.ok_bind] at h
              cases h4 : lcL asg cond elt ds with
              | st => rw [h4] at h; cases h
              | ex z => rw [h4] at h; cases h
              | ok r' =>
                rw [h4] at h
                cases h
                have := lcL_len h4
                simp; omega
          | false =>
            have := lcL_len (show lcL asg cond elt ds = .ok r from h)
            simp; omega
        | _ => cases h
/-- the context of the comprehension's block -/
def Ctx.blk (c : Ctx) (scope : Scope) : Ctx := { c with sc := relS scope c.sc, isx := [], cok := (scope.names.filter fun p => p.2 == .cell).map (·.1) }
theorem ok_blk {X : Cx} {Φ : Calls} (ok : Ok c X Φ) {scope : Scope} {own : List (Str × Nat)} (bo : BlkOk c.N c.sc scope own) (s : Shared) (H : Hp) (C : Addr) (cl : List (Str × Addr)) (fp : List Addr) : Ok (c.blk scope) (X.blk s H scope (compEnvC scope cl C X.env) fp) Φ :=
  ⟨ok.hN, ok.nd, by show relS scope X.env.scope = relS scope c.sc; rw [ok.sc], ok.calm, ok.hu, ok.blt, ok.gl, ok.fns, ok.exc, fun x y b h => absurd h (by simp [Ctx.blk]), fun h => absurd rfl h, fun x hx => by
    obtain ⟨⟨y, k⟩, hp, rfl⟩ := List.mem_map.mp hx
    obtain ⟨h1, h2⟩ := List.mem_filter.mp hp
    have hk : k = .cell := by simpa using h2
    subst hk
    show (scope.names.lookup y == some NameKind.cell) = true
    rw [bo.uniq _ h1]
    rfl⟩
abbrev W0 : WX := fun _ _ _ _ => False
theorem lcL_noex {asg : D → Res Env} {cond elt : Env → Res D} {z : Str} : ∀ ds : List D, lcL asg cond elt ds ≠ .ex z := by
  intro ds
  induction ds with
  | nil => intro h; cases h
  | cons d ds ih =>
    intro h
    unfold lcL at h
    cases h1 : noex (asg d) with
    | st => rw [h1] at h; cases h
    | ex z => cases h0 : asg d <;> rw [h0] at h1 <;> cases h1
    | ok ρ' =>
      rw [h1, Res.ok_bind] at h
      cases h2 : noex (cond ρ') with
      | st => rw [h2] at h; cases h
      | ex z => cases h0 : cond ρ' <;> rw [h0] at h2 <;> cases h2
      | ok k =>
        rw [h2, Res.ok_bind] at h
        cases k with
        | bool b =>
          cases b with
          | true =>
            have h : (noex (elt ρ') >>= fun y => lcL asg cond elt ds >>= fun r => pure (y :: r)) = .ex z := h
            cases h3 : noex (elt ρ') with
            | st => rw [h3] at h; cases h
            | ex z => cases h0 : elt ρ' <;> rw [h0] at h3 <;> cases h3
            | ok y =>
              rw [h3, Res.ok_bind] at h
              cases h4 : lcL asg cond elt ds with
              | st => rw [h4] at h; cases h
              | ok r => rw [h4] at h; cases h
              | ex z' => rw [h4] at h; cases h; exact ih h4
          | false => exact ih h
        | _ => cases h
/-- the reading of a comprehension -/
theorem lc_readG {K : PySem.W.Frag} {mg : Str → Option Value} {W : WX} {B : List Addr} {wi : TI} {t : Tg} {Φ : Calls} {own : List Nat} (ht : ∀ i ∈ t.slots, i ∈ own) {A : List Addr} {O : List (List Addr)} {ρ : Env} {σ : L2.St} {H : Hp} {Q : VK} (hA : AOk H A) (hρ : EnvOk K H A O σ ρ)
    (hw : ∀ R, RtI K mg W A B H σ R (fi Φ ρ) → wi σ H R) (q : RtF K mg W A H σ Q (lcE own t fi fc fe Φ ρ)) : tLc wi (tG K t) (tXT K mg W0 (fc Φ)) (tX K mg W0 pE (fe Φ)) own σ H Q := by
  refine hw _ ?_
  unfold lcE at q
  cases hi : fi Φ ρ with
  | st => rw [hi] at q; exact q
  | ex z => rw [hi] at q; exact q
  | ok ds =>
    rw [hi, Res.ok_bind] at q
    intro J H1 s1 wk D nD
    have hsm : sm ds.length = true := by
      by_cases h : sm ds.length = true
      · exact h
      · rw [if_neg h] at q; exact q.elim
    rw [if_pos hsm] at q
    cases hr : lcL (fun d => asgT t d (wipeE ρ own)) (fc Φ) (fe Φ) ds with
    | st => rw [hr] at q; exact q.elim
    | ex z =>
      exact absurd hr (lcL_noex ds)
    | ok total =>
      rw [hr] at q
      have q : ∀ p xs H', Same H H' → H p = none → H' p = some (.lst xs) → RpL K H' (p :: A) xs total → Q (.ref p) H' := q
      have hA1 := hA.same s1
      have hρ1 := hρ.same s1
      have hz : ds.length ≤ 1000000 := of_decide_eq_true hsm
      have hS := sizeLine_eq
      -- the invariant
      refine ⟨fun i m H2 => m = ds.length - i ∧ i ≤ ds.length ∧ Same H1 H2 ∧ ∃ acc accD rest, H2 D = some (.lst acc) ∧ RpL K H2 (D :: A) acc accD ∧ lcL (fun d => asgT t d (wipeE ρ own)) (fc Φ) (fe Φ) (ds.drop i) = .ok rest ∧ accD ++ rest = total ∧ accD.length ≤ i,
        ⟨ds.length, by simp, Nat.zero_le _, same_upd nD, [], [], total, upd_same, .nil, by simpa using hr, rfl, Nat.le_refl _⟩, ?_⟩
      rintro i m H2 ⟨rfl, hi, s2, acc, accD, rest, hD, hacc, hrest, htot, hlen⟩
      have hA2 : AOk H2 (D :: A) := fun p hp => by
        rcases List.mem_cons.mp hp with rfl | hp
        · exact ⟨_, hD, trivial⟩
        · exact (hA1.same s2) p hp
      have hρ2 : EnvOk K H2 (D :: A) O σ ρ := (hρ1.new nD).same s2
      obtain ⟨wgo, wst⟩ := wk i H2 (D :: A) (fun b o _ e => s2 b o e) fun p hp => by
        rcases List.mem_cons.mp hp with rfl | hp
        · exact .inr nD
        · exact .inl hp
      by_cases hlt : i < ds.length
      · have hd : ds[i]? = some ds[i] := List.getElem?_eq_getElem hlt
        obtain ⟨go, yl⟩ := wgo _ hd
        have hdrop : ds.drop i = ds[i] :: ds.drop (i + 1) := List.drop_eq_getElem_cons hlt
        rw [hdrop] at hrest
        unfold lcL at hrest
        cases h1 : asgT t ds[i] (wipeE ρ own) with
        | st => rw [h1] at hrest; cases hrest
        | ex z => rw [h1] at hrest; cases hrest
        | ok ρ' =>
          have e1 : noex (asgT t ds[i] (wipeE ρ own)) = .ok ρ' := by rw [h1]; rfl
          rw [e1, Res.ok_bind] at hrest
          refine .inr ⟨go, fun H' => Same H1 H' ∧ ∃ acc accD rest, H' D = some (.lst acc) ∧ RpL K H' (D :: A) acc accD ∧ lcL (fun d => asgT t d (wipeE ρ own)) (fc Φ) (fe Φ) (ds.drop (i + 1)) = .ok rest ∧ accD ++ rest = total ∧ accD.length ≤ i + 1,
            fun H' ⟨s', x⟩ => ⟨ds.length - (i + 1), by omega, rfl, hlt, s', x⟩, fun x H' hy => ?_⟩
          obtain ⟨s3, hx⟩ := yl x H' hy
          refine ⟨D :: A, wipeO O own, wipeE ρ own, ds[i], hA2.same s3, (hρ2.same s3).wipe own, hx, ?_⟩
          rw [h1]
          refine fun σ' O' e4 _ e5 => ⟨?_, ?_⟩
          · have e6 := e5 own ht
            rw [e6]
            have idem : ∀ vs : List Nat, wipe (wipe σ vs) vs = wipe σ vs := fun vs => by
              apply List.ext_getElem?
              intro j
              by_cases hj : j < σ.length
              · rw [wipe_at (by rw [wipe_length]; exact hj), wipe_at hj]
                by_cases hm : j ∈ vs
                · rw [if_pos hm, if_pos hm]
                · rw [if_neg hm, if_neg hm]
              · rw [List.getElem?_eq_none (by rw [wipe_length, wipe_length]; omega), List.getElem?_eq_none (by rw [wipe_length]; omega)]
            exact idem own
          · refine ⟨D :: A, O', ρ', hA2.same s3, e4, ?_⟩
            cases h2 : fc Φ ρ' with
            | st => rw [h2] at hrest; cases hrest
            | ex z => rw [h2] at hrest; cases hrest
            | ok k =>
              have e7 : noex (fc Φ ρ') = .ok k := by rw [h2]; rfl
              rw [e7, Res.ok_bind] at hrest
              have hD3 : H' D = some (.lst acc) := s3 _ _ hD
              cases k with
              | bool b =>
                intro H3 s4
                have s34 := s3.trans s4
                cases b with
                | false =>
                  refine iteF ⟨(s2.trans s3).trans s4, acc, accD, rest, s4 _ _ hD3, (hacc.same s3).same s4, hrest, htot, by omega⟩
                | true =>
                  have hrest : (noex (fe Φ ρ') >>= fun y => lcL (fun d => asgT t d (wipeE ρ own)) (fc Φ) (fe Φ) (ds.drop (i + 1)) >>= fun r => pure (y :: r)) = .ok rest := hrest
                  refine iteT ⟨D :: A, O', ρ', hA2.same s34, e4.same s4, ?_⟩
                  cases h3 : fe Φ ρ' with
                  | st => rw [h3] at hrest; cases hrest
                  | ex z => rw [h3] at hrest; cases hrest
                  | ok y =>
                    have e8 : noex (fe Φ ρ') = .ok y := by rw [h3]; rfl
                    rw [e8, Res.ok_bind] at hrest
                    cases h4 : lcL (fun d => asgT t d (wipeE ρ own)) (fc Φ) (fe Φ) (ds.drop (i + 1)) with
                    | st => rw [h4] at hrest; cases hrest
                    | ex z => rw [h4] at hrest; cases hrest
                    | ok r' =>
                      rw [h4] at hrest
                      cases hrest
                      intro v H4 s5 hv
                      have sAll := (s34.trans s5)
                      have hD4 : H4 D = some (.lst acc) := sAll _ _ hD
                      have hacc4 : RpL K H4 (D :: A) acc accD := hacc.same sAll
                      have hAD : AOk H4 [D] := fun p hp => by
                        have : p = D := by simpa using hp
                        subst this
                        exact ⟨_, hD4, trivial⟩
                      have bt : But [D] H4 (upd H4 D (.lst (acc ++ [v]))) := But.upd (by simp)
                      have hnew : RpL K (upd H4 D (.lst (acc ++ [v]))) (D :: A) (acc ++ [v]) (accD ++ [y]) :=
                        (hacc4.append (.cons hv .nil)).but bt hAD (by simp)
                      refine ⟨acc, hD4, ?_, ?_, acc ++ [v], accD ++ [y], r', upd_same, hnew, rfl, by rw [List.append_assoc]; exact htot, by rw [List.length_append]; simp; omega⟩
                      · rw [hacc4.length, hS]; omega
                      · intro b o hb
                        have hb4 : H4 b = some o := (s5 _ _ (s4 _ _ (s3 _ _ (s2 _ _ hb))))
                        rw [upd_ne (fun z => by rw [z, nD] at hb; cases hb)]
                        exact hb4
              | _ => cases hrest
      · have e : i = ds.length := by omega
        subst e
        rw [List.drop_length] at hrest
        cases hrest
        rw [List.append_nil] at htot
        subst htot
        refine .inl ⟨wst (Nat.le_refl _), q _ _ _ (s1.trans s2) (s1.free nD) hD hacc⟩
theorem lc_readF {K : PySem.W.Frag} {mg : Str → Option Value} {W : WX} {bor : Bool} {t : Tg} {Φ : Calls} {own : List Nat} (ht : ∀ i ∈ t.slots, i ∈ own) {A : List Addr} {O : List (List Addr)} {ρ : Env} {σ : L2.St} {H : Hp} {Q : VK} (hA : AOk H A) (hρ : EnvOk K H A O σ ρ)
    (q : RtF K mg W A H σ Q (lcE own t fi fc fe Φ ρ)) : tLc (tI K mg W bor (fi Φ)) (tG K t) (tXT K mg W0 (fc Φ)) (tX K mg W0 pE (fe Φ)) own σ H Q :=
  lc_readG (B := if bor then [] else A) ht hA hρ (fun R h => ⟨A, O, ρ, hA, hρ, h⟩) q
theorem lc_toF {K : PySem.W.Frag} {mg : Str → Option Value} {W : WX} {t : Tg} {Φ : Calls} {own : List Nat} {A : List Addr} {ρ : Env} {σ : L2.St} {H : Hp} {Q : VK} (hA : AOk H A)
    (q : Rt mg W (pE K A) H σ Q (lcE own t fi fc fe Φ ρ)) : RtF K mg W A H σ Q (lcE own t fi fc fe Φ ρ) := by
  have fin : ∀ r : Res D, Rt mg W (pE K A) H σ Q r → (∀ d, r = .ok d → ∃ ds, d = .list ds) → RtF K mg W A H σ Q r := fun r h hl => by
    cases r with
    | st => exact h
    | ex z => exact h
    | ok d =>
      obtain ⟨ds, rfl⟩ := hl d rfl
      exact fun p xs H' s np e r => h _ H' s (.lst (.inl ⟨.inl e, hA.fresh np⟩) (r.sub fun _ z => List.mem_cons_of_mem _ z))
  refine fin _ q fun d hd => ?_
  unfold lcE at hd
  cases h1 : fi Φ ρ with
  | st => rw [h1] at hd; cases hd
  | ex z => rw [h1] at hd; cases hd
  | ok ds =>
    rw [h1, Res.ok_bind] at hd
    split at hd
    · cases h2 : lcL (fun d => asgT t d (wipeE ρ own)) (fc Φ) (fe Φ) ds with
      | st => rw [h2] at hd; cases hd
      | ex z => rw [h2] at hd; cases hd
      | ok r => rw [h2] at hd; cases hd; exact ⟨_, rfl⟩
    · cases hd
theorem lc_read {K : PySem.W.Frag} {mg : Str → Option Value} {W : WX} {bor : Bool} {t : Tg} {Φ : Calls} {own : List Nat} (ht : ∀ i ∈ t.slots, i ∈ own) {A : List Addr} {O : List (List Addr)} {ρ : Env} {σ : L2.St} {H : Hp} {Q : VK} (hA : AOk H A) (hρ : EnvOk K H A O σ ρ)
    (q : Rt mg W (pE K A) H σ Q (lcE own t fi fc fe Φ ρ)) : tLc (tI K mg W bor (fi Φ)) (tG K t) (tXT K mg W0 (fc Φ)) (tX K mg W0 pE (fe Φ)) own σ H Q := lc_readF ht hA hρ (lc_toF hA q)
theorem se_lc {scope : Scope} {own : List (Str × Nat)} {ifs : List Expr} {t : Tg} (bor : Bool) (hi : SI bor c tg iter fi) (bo : BlkOk c.N c.sc scope own) (hg : SG (c.blk scope) tg t) (ht : ∀ i ∈ t.slots, i ∈ own.map (·.2)) (hc : STs (c.blk scope) ifs fc) (he : SE (c.blk scope) e fe)
    (hs : ∀ env x, foldedSetIterable iter env x = pure x) : SE c (.ListComp e [⟨tg, iter, ifs, 0⟩] scope pos) (lcE (own.map (·.2)) t fi fc fe) := fun X Φ W ok tk =>
  peI (pe_lc ok.calm (by rw [ok.hN]; exact ok.nd) (hi X Φ W ok tk) (by rw [ok.hN, ok.sc]; exact bo)
    (fun s H C cl fp => hg _ Φ (ok_blk ok bo s H C cl fp)) (fun s H C cl fp => hc _ Φ W0 (ok_blk ok bo s H C cl fp) takes0) (fun s H C cl fp => he _ Φ W0 (ok_blk ok bo s H C cl fp) takes0) (hs _))
    fun σ H Q ⟨A, O, ρ, hA, hρ, q⟩ => lc_read ht hA hρ q
end
end Pv

end
section
namespace Pv
open PySem PySem.Spec PyProof.Rows L2

/-! ### statements -/
inductive SR where
  | st
  | nx (ρ : Env)
  | bk (ρ : Env)
  | ct (ρ : Env)
  | rt (d : D)
  | ex (c : Str) (ρ : Env)
def SR.seq : SR → (Env → SR) → SR
  | .nx ρ, k => k ρ
  | r, _ => r
@[simp] theorem SR.seq_nx (ρ : Env) (k : Env → SR) : SR.seq (.nx ρ) k = k ρ := id rfl
@[simp] theorem SR.seq_rt (d : D) (k : Env → SR) : SR.seq (.rt d) k = .rt d := id rfl
@[simp] theorem SR.seq_st (k : Env → SR) : SR.seq .st k = .st := id rfl
@[simp] theorem SR.seq_bk (ρ : Env) (k : Env → SR) : SR.seq (.bk ρ) k = .bk ρ := id rfl
@[simp] theorem SR.seq_ct (ρ : Env) (k : Env → SR) : SR.seq (.ct ρ) k = .ct ρ := id rfl
@[simp] theorem SR.seq_ex (c : Str) (ρ : Env) (k : Env → SR) : SR.seq (.ex c ρ) k = .ex c ρ := id rfl
def onE {α : Type} (m : Res α) (ρ : Env) (k : α → SR) : SR := match m with
  | .st => .st
  | .ok d => k d
  | .ex c => .ex c ρ
@[simp] theorem onE_ok {α : Type} (d : α) (ρ : Env) (k : α → SR) : onE (.ok d) ρ k = k d := id rfl
@[simp] theorem onE_st {α : Type} (ρ : Env) (k : α → SR) : onE (.st : Res α) ρ k = .st := id rfl
@[simp] theorem onE_ex {α : Type} (c : Str) (ρ : Env) (k : α → SR) : onE (.ex c : Res α) ρ k = .ex c ρ := id rfl
/-- flags down at some slots -/
def dis1 (i : Nat) (ρ : Env) : Env := match ρ[i]? with
  | some (some (true, d)) => ρ.set i (some (false, undeep (true, d)))
  | _ => ρ
def dis : List Nat → Env → Env
  | [], ρ => ρ
  | i :: is, ρ => dis is (dis1 i ρ)

/-! the frame of a statement: at H0 nothing outside of B0 changes; A0 is not to be touched -/
structure Fm where
  A0 : List Addr
  B0 : List Addr
  H0 : Hp
structure Fm.Ok (F : Fm) : Prop where
  a : AOk F.H0 F.A0
  d : ∀ b ∈ F.B0, b ∉ F.A0
def rts (O : List (List Addr)) : List Addr := O.flatten
theorem mem_rts {O : List (List Addr)} {a : Addr} : a ∈ rts O ↔ ∃ l ∈ O, a ∈ l := List.mem_flatten
structure StO (K : PySem.W.Frag) (F : Fm) (O : List (List Addr)) (σ : L2.St) (H : Hp) (ρ : Env) : Prop where
  env : EnvOk K H (F.A0 ++ rts O) O σ ρ
  but : But F.B0 F.H0 H
  own : ∀ a ∈ rts O, a ∈ F.B0 ∨ F.H0 a = none
section
variable {K : PySem.W.Frag} {F : Fm} {O : List (List Addr)} {σ : L2.St} {H H' : Hp} {ρ : Env}
theorem StO.notA (h : StO K F O σ H ρ) (ok : F.Ok) {a : Addr} (ha : a ∈ rts O) : a ∉ F.A0 := fun z => by
  rcases h.own a ha with q | q
  · exact ok.d a q z
  · obtain ⟨o, e, _⟩ := ok.a a z
    rw [q] at e; cases e
theorem StO.aok (h : StO K F O σ H ρ) (ok : F.Ok) : AOk H (F.A0 ++ rts O) := fun p hp => by
  rcases List.mem_append.mp hp with hp | hp
  · obtain ⟨o, e, m⟩ := ok.a p hp
    exact ⟨o, h.but p o (fun z => ok.d p z hp) e, m⟩
  · exact h.env.sl.isM p hp
theorem StO.same (s : Same H H') (h : StO K F O σ H ρ) : StO K F O σ H' ρ := ⟨h.env.same s, h.but.trans (But.of_same s), h.own⟩
/-- another frame from here on -/
theorem StO.start (h : StO K F O σ H ρ) : StO K ⟨F.A0, rts O, H⟩ O σ H ρ := ⟨h.env, But.refl, fun a ha => .inl ha⟩
theorem StO.startOk (h : StO K F O σ H ρ) (ok : F.Ok) : Fm.Ok ⟨F.A0, rts O, H⟩ := ⟨fun p hp => h.aok ok p (List.mem_append_left _ hp), fun b hb => h.notA ok hb⟩
theorem StO.butBack (h : StO K F O σ H ρ) (ok : F.Ok) (b : But (rts O) H H') : But F.B0 F.H0 H' := fun c o n e => b c o (fun z => by
  rcases h.own c z with q | q
  · exact n q
  · rw [e] at q; cases q) (h.but c o n e)
theorem StO.back {O' : List (List Addr)} {σ' : L2.St} {ρ' : Env} (h : StO K F O σ H ρ) (ok : F.Ok) (g : StO K ⟨F.A0, rts O, H⟩ O' σ' H' ρ') : StO K F O' σ' H' ρ' :=
  ⟨g.env, h.butBack ok g.but, fun a ha => by
    rcases g.own a ha with q | q
    · exact h.own a q
    · by_cases n : a ∈ F.B0
      · exact .inl n
      · refine .inr ?_
        cases e : F.H0 a with
        | none => rfl
        | some o =>
          have this := h.but a o n e
          have q : H a = none := q
          rw [q] at this; cases this⟩

theorem mem_set {O : List (List Addr)} {i : Nat} {r : List Addr} {a : Addr} (h : a ∈ rts (O.set i r)) : a ∈ rts O ∨ a ∈ r := by
  obtain ⟨l, hl, h2⟩ := mem_rts.mp h
  rcases List.mem_or_eq_of_mem_set hl with h | h
  · exact .inl (mem_rts.mpr ⟨l, h, h2⟩)
  · subst h; exact .inr h2
theorem mem_set_none {O : List (List Addr)} {i : Nat} {a : Addr} (h : a ∈ rts (O.set i [])) : a ∈ rts O := by
  rcases mem_set h with h | h
  · exact h
  · cases h
theorem mem_at {O : List (List Addr)} {i : Nat} {r : List Addr} {a : Addr} (h : O[i]? = some r) (ha : a ∈ r) : a ∈ rts O := mem_rts.mpr ⟨r, List.mem_of_getElem? h, ha⟩
theorem EnvOk.subTo {A A' : List Addr} (h : EnvOk K H A O σ ρ) (s : ∀ a ∈ A', a ∈ A) (ho : ∀ a ∈ rts O, a ∈ A') : EnvOk K H A' O σ ρ :=
  h.go (B := []) (by simp) AOk.nil But.refl (fun p z => .inl (s p z)) fun a ha => ⟨by simp, ho a ha⟩
/-- a slot stored, not owned -/
theorem StO.set {v : V} {d : D} (i : Nat) (h : StO K F O σ H ρ) (r : Rp K H (F.A0 ++ rts O) v d) : StO K F (O.set i []) (σ.set i (some v)) H (ρ.set i (some (false, d))) :=
  ⟨(h.env.set i r).subTo (fun a z => by
      rcases List.mem_append.mp z with z | z
      · exact List.mem_append_left _ z
      · exact List.mem_append_right _ (mem_set_none z)) fun a ha => List.mem_append_right _ ha, h.but, fun a ha => h.own a (mem_set_none ha)⟩
theorem nd_ne {A : List Addr} (h : EnvOk K H A O σ ρ) {i : Nat} {r : List Addr} {a : Addr} (e : O[i]? = some r) (ha : a ∈ r) : a ∉ rts (O.set i []) := fun z => by
  obtain ⟨l, hl, h2⟩ := mem_rts.mp z
  obtain ⟨j, hj, e2⟩ := List.getElem_of_mem hl
  have e3 : (O.set i [])[j]? = some l := by rw [List.getElem?_eq_getElem hj, e2]
  rw [List.getElem?_set] at e3
  split at e3
  · split at e3
    · cases e3; cases h2
    · cases e3
  · rename_i hne
    exact hne (h.nd i j r l a e ha e3 h2)
/-- flags down at a slot -/
theorem StO.dis1 (h : StO K F O σ H ρ) (ok : F.Ok) (i : Nat) : ∃ O', StO K F O' σ H (dis1 i ρ) := by
  unfold Pv.dis1
  split
  · rename_i d e
    obtain ⟨x, r, e1, e2, sl⟩ := h.env.sl.get e
    have hx : σ.set i x = σ := by
      obtain ⟨h1, h2⟩ := List.getElem?_eq_some_iff.mp e1
      rw [← h2, List.set_getElem_self]
    have out : ∀ a ∈ r, a ∉ F.A0 ++ rts (O.set i []) := fun a ha z => by
      rcases List.mem_append.mp z with z | z
      · exact h.notA ok (mem_at e2 ha) z
      · exact nd_ne h.env e2 ha z
    have sub : ∀ a ∈ F.A0 ++ rts (O.set i []), a ∈ F.A0 ++ rts O := fun a z => by
      rcases List.mem_append.mp z with z | z
      · exact List.mem_append_left _ z
      · exact List.mem_append_right _ (mem_set_none z)
    have base : EnvOk K H (F.A0 ++ rts (O.set i [])) (O.set i []) (σ.set i x) (ρ.set i none) := (h.env.gone x i).subTo sub fun a ha => List.mem_append_right _ ha
    have sl2 : Slot K H (F.A0 ++ rts (O.set i [])) x (some (false, undeep (true, d))) [] := sl.clr0 sub out
    have q := base.sl.set i sl2
    rw [List.set_set, List.set_set, List.set_set, hx] at q
    exact ⟨_, ⟨q, nd_set i h.env.nd⟩, h.but, fun a ha => h.own a (mem_set_none ha)⟩
  · exact ⟨O, h⟩
theorem StO.dis (ok : F.Ok) : ∀ (is : List Nat) {O : List (List Addr)} {ρ : Env}, StO K F O σ H ρ → ∃ O', StO K F O' σ H (dis is ρ)
  | [], _, _, h => ⟨_, h⟩
  | i :: is, _, _, h => let ⟨_, h'⟩ := h.dis1 ok i; StO.dis ok is h'
/-- all flags down -/
theorem StO.clr0 (h : StO K F O σ H ρ) (ok : F.Ok) : EnvOk K H F.A0 (O.map fun _ => []) σ (Pv.clr ρ) := ⟨Slots.clr0 (fun a z => List.mem_append_left _ z) (fun a ha => h.notA ok ha) h.env.sl, nd_nil⟩
theorem StO.aok0 (h : StO K F O σ H ρ) (ok : F.Ok) : AOk H F.A0 := fun p hp => h.aok ok p (List.mem_append_left _ hp)
/-- a slot gets what is new and its own -/
theorem own_new {A' : List Addr} {i : Nat} {r : List Addr} {x : Option V} {y : Option (Bool × D)} (h : EnvOk K H A' (O.set i []) (σ.set i x) (ρ.set i none)) (n : ∀ a ∈ r, a ∉ rts (O.set i [])) (sl : Slot K H A' x y r) :
    EnvOk K H A' (O.set i r) (σ.set i x) (ρ.set i y) := by
  have q := h.sl.set i sl
  rw [List.set_set, List.set_set, List.set_set] at q
  refine ⟨q, fun j k l m b e1 h1 e2 h2 => ?_⟩
  have key : ∀ (j : Nat) (l : List Addr), (O.set i r)[j]? = some l → b ∈ l → (j = i ∧ b ∈ r) ∨ (j ≠ i ∧ (O.set i [])[j]? = some l) := fun j l e hb => by
    rw [List.getElem?_set] at e
    split at e
    · rename_i hj
      split at e
      · cases e; exact .inl ⟨hj.symm, hb⟩
      · cases e
    · rename_i hj
      refine .inr ⟨fun z => hj z.symm, ?_⟩
      rw [List.getElem?_set_ne hj]; exact e
  rcases key j l e1 h1 with ⟨rfl, q1⟩ | ⟨q1, q2⟩
  · rcases key k m e2 h2 with ⟨rfl, _⟩ | ⟨q3, q4⟩
    · rfl
    · exact absurd (mem_at q4 h2) (n b q1)
  · rcases key k m e2 h2 with ⟨rfl, q3⟩ | ⟨q3, q4⟩
    · exact absurd (mem_at q2 h1) (n b q3)
    · exact h.nd j k l m b q2 h1 q4 h2
theorem in_set_ne {i : Nat} {r : List Addr} {a : Addr} (ha : a ∈ rts (O.set i [])) : a ∈ rts (O.set i r) := by
  obtain ⟨l, hl, h2⟩ := mem_rts.mp ha
  obtain ⟨j, hj, e2⟩ := List.getElem_of_mem hl
  have e3 : (O.set i [])[j]? = some l := by rw [List.getElem?_eq_getElem hj, e2]
  rw [List.getElem?_set] at e3
  split at e3
  · split at e3
    · cases e3; cases h2
    · cases e3
  · rename_i hne
    refine mem_at (i := j) (r := l) ?_ h2
    rw [List.getElem?_set_ne hne]; exact e3
/-- new things, all at new places -/
theorem StO.putN {ps : List Addr} {x : Option V} (i : Nat) {y : Option (Bool × D)} (ok : F.Ok) (h : StO K F O σ H ρ) (s : Same H H') (np : ∀ p ∈ ps, H p = none)
    (sl : Slot K H' (F.A0 ++ rts (O.set i ps)) x y ps) : StO K F (O.set i ps) (σ.set i x) H' (ρ.set i y) := by
  have notO : ∀ p ∈ ps, p ∉ rts O := fun p hp z => by
    obtain ⟨o, e, _⟩ := h.env.sl.isM p z
    rw [np p hp] at e; cases e
  have n : ∀ p ∈ ps, p ∉ rts (O.set i []) := fun p hp z => notO p hp (mem_set_none z)
  have base : EnvOk K H' (F.A0 ++ rts (O.set i ps)) (O.set i []) (σ.set i x) (ρ.set i none) :=
    (h.env.gone x i).go (B := []) (by simp) AOk.nil (But.of_same s) (fun q hq => by
      rcases List.mem_append.mp hq with hq | hq
      · exact .inl (List.mem_append_left _ hq)
      · rcases mem_set hq with hq | hq
        · exact .inl (List.mem_append_right _ hq)
        · exact .inr (np q hq)) fun a ha => ⟨by simp, List.mem_append_right _ (in_set_ne ha)⟩
  refine ⟨own_new base n sl, h.but.trans (But.of_same s), fun a ha => ?_⟩
  rcases mem_set ha with ha | ha
  · exact h.own a ha
  · by_cases q : a ∈ F.B0
    · exact .inl q
    · refine .inr ?_
      cases e : F.H0 a with
      | none => rfl
      | some o =>
        have := h.but a o q e
        rw [np a ha] at this; cases this
theorem StO.put {p : Addr} (i : Nat) {y : Option (Bool × D)} (ok : F.Ok) (h : StO K F O σ H ρ) (s : Same H H') (np : H p = none)
    (sl : Slot K H' (F.A0 ++ rts (O.set i [p])) (some (.ref p)) y [p]) : StO K F (O.set i [p]) (σ.set i (some (.ref p))) H' (ρ.set i y) :=
  h.putN i ok s (fun q hq => by rw [List.mem_singleton.mp hq]; exact np) sl
/-- what is owned is changed, at a -/
theorem StO.mutN {a : Addr} {r : List Addr} (i : Nat) {o : HO} {x : Option V} {y : Option (Bool × D)} (ok : F.Ok) (h : StO K F O σ H ρ) (e1 : σ[i]? = some x) (e2 : O[i]? = some r) (hr : a ∈ r)
    (sl : Slot K (upd H a o) (F.A0 ++ rts O) x y r) : StO K F O σ (upd H a o) (ρ.set i y) := by
  obtain ⟨i1, h1⟩ := List.getElem?_eq_some_iff.mp e1
  obtain ⟨i2, h2⟩ := List.getElem?_eq_some_iff.mp e2
  have hσ : σ.set i x = σ := by rw [← h1, List.set_getElem_self]
  have hO : O.set i r = O := by rw [← h2, List.set_getElem_self]
  have ha := mem_at e2 hr
  have inO : a ∈ F.A0 ++ rts O := List.mem_append_right _ ha
  have base : EnvOk K (upd H a o) (F.A0 ++ rts O) (O.set i []) (σ.set i x) (ρ.set i none) :=
    (h.env.gone x i).go (B := [a]) (fun b hb => by
      rw [List.mem_singleton.mp hb]; exact inO) (fun p hp => by
      rw [List.mem_singleton.mp hp]; exact h.aok ok a inO) (But.upd (by simp)) (fun q hq => .inl hq) fun b hb => ⟨fun z => by
        rw [List.mem_singleton.mp z] at hb
        exact nd_ne h.env e2 hr hb, List.mem_append_right _ (mem_set_none hb)⟩
  have q := own_new base (fun b hb => nd_ne h.env e2 hb) sl
  rw [hσ, hO] at q
  refine ⟨q, fun b u nb e => ?_, h.own⟩
  have e' := h.but b u nb e
  rw [upd_ne (fun z => ?_)]
  · exact e'
  · subst z
    rcases h.own b ha with q | q
    · exact nb q
    · rw [e] at q; cases q
theorem StO.mut {a : Addr} (i : Nat) {o : HO} {x y : Option (Bool × D)} (ok : F.Ok) (h : StO K F O σ H ρ) (e1 : σ[i]? = some (some (.ref a))) (e2 : O[i]? = some [a])
    (sl : Slot K (upd H a o) (F.A0 ++ rts O) (some (.ref a)) y [a]) : StO K F O σ (upd H a o) (ρ.set i y) := h.mutN i ok e1 e2 (by simp) sl
end

/-! the readings -/
def RtS (K : PySem.W.Frag) (mg : Str → Option Value) (W : WX) (F : Fm) (Dn : Ends) : SR → Prop
  | .st => False
  | .nx ρ => ∀ σ H O, StO K F O σ H ρ → Dn.nx σ H
  | .bk ρ => ∀ σ H O, StO K F O σ H ρ → Dn.bk σ H
  | .ct ρ => ∀ σ H O, StO K F O σ H ρ → Dn.ct σ H
  | .rt d => ∀ v H, But F.B0 F.H0 H → Rp K H F.A0 v d → Dn.rt v H
  | .ex c ρ => ∀ C σ H O, StO K F O σ H ρ → mg c = some (.ref C) → W (.ref C) none σ H
def tS (K : PySem.W.Frag) (mg : Str → Option Value) (W : WX) (f : Env → SR) : TS := fun Dn σ H => ∃ F O ρ, F.Ok ∧ StO K F O σ H ρ ∧ RtS K mg W F Dn (f ρ)
abbrev EvS := Calls → Env → SR
def Pass (X : Cx) : Prop := PassesOwn (model X.prog X.w) X.A X.env X.xe
def SS (c : Ctx) (s : Stmt) (f : EvS) : Prop := ∀ X Φ W, Ok c X Φ → Takes X W → Pass X → PS X s (tS X.K X.mg W (f Φ))
def SSs (c : Ctx) (s : List Stmt) (f : EvS) : Prop := ∀ X Φ W, Ok c X Φ → Takes X W → Pass X → PSs X s (tS X.K X.mg W (f Φ))
theorem psI {X : Cx} {e : Stmt} {t t' : TS} (h : PS X e t) (q : ∀ Dn σ H, t' Dn σ H → t Dn σ H) : PS X e t' := ⟨fun pins s σ H Dn I x => h.run pins s σ H Dn I (q Dn σ H x)⟩
theorem pssI {X : Cx} {e : List Stmt} {t t' : TS} (h : PSs X e t) (q : ∀ Dn σ H, t' Dn σ H → t Dn σ H) : PSs X e t' := ⟨fun pins s σ H Dn I x => h.run pins s σ H Dn I (q Dn σ H x)⟩
section
variable {K : PySem.W.Frag} {mg : Str → Option Value} {W : WX} {F : Fm} {O : List (List Addr)} {σ : L2.St} {H : Hp} {ρ : Env} {Dn : Ends}
theorem rt_onE {P : Hp → V → D → Prop} {Q : VK} {m : Res D} {k : D → SR} (h : RtS K mg W F Dn (onE m ρ k)) (s : StO K F O σ H ρ) (kk : ∀ d v H1, Same H H1 → P H1 v d → RtS K mg W F Dn (k d) → Q v H1) : Rt mg W P H σ Q m := by
  cases m with
  | st => exact h
  | ok d => exact fun v H1 s1 p => kk d v H1 s1 p h
  | ex c => exact fun C H' s' hm => h C σ H' O (s.same s') hm
theorem rtb_onE {Q : Bool → Hp → Prop} {m : Res D} {k : Bool → SR} (h : RtS K mg W F Dn (onE m ρ fun d => match d with | .bool b => k b | _ => .st)) (s : StO K F O σ H ρ) (kk : ∀ b H1, Same H H1 → RtS K mg W F Dn (k b) → Q b H1) : RtB mg W H σ Q m := by
  cases m with
  | st => exact h
  | ok d => cases d <;> first | exact h | exact fun H1 s1 => kk _ H1 s1 h
  | ex c => exact fun C H' s' hm => h C σ H' O (s.same s') hm
end
section
variable {c : Ctx} {e a b : Expr} {st : Stmt} {sts : List Stmt} {fe fa fb : EvE} {fs gs : EvS} {pos pos' : Pos}
theorem sq_nil : SSs c [] (fun _ ρ => .nx ρ) := fun X Φ W ok tk hp => pssI pss_nil fun Dn σ H ⟨F, O, ρ, hF, hs, q⟩ => q _ _ _ hs
theorem sq_cons (h1 : SS c st fs) (h2 : SSs c sts gs) : SSs c (st :: sts) (fun Φ ρ => (fs Φ ρ).seq (gs Φ)) := fun X Φ W ok tk hp =>
  pssI (pss_cons (h1 X Φ W ok tk hp) (h2 X Φ W ok tk hp)) fun Dn σ H ⟨F, O, ρ, hF, hs, q⟩ => ⟨F, O, ρ, hF, hs, by
    have q : RtS X.K X.mg W F Dn ((fs Φ ρ).seq (gs Φ)) := q
    cases hr : fs Φ ρ with
    | st => rw [hr] at q; exact q
    | nx ρ' => rw [hr] at q; exact fun σ' H' O' s' => ⟨F, O', ρ', hF, s', q⟩
    | bk ρ' => rw [hr] at q; exact q
    | ct ρ' => rw [hr] at q; exact q
    | rt d => rw [hr] at q; exact q
    | ex z ρ' => rw [hr] at q; exact q⟩
theorem sq_one (h1 : SS c st fs) : SSs c [st] fs := fun X Φ W ok tk hp => pss_one (h1 X Φ W ok tk hp)
theorem s_pass : SS c (.Pass pos) (fun _ ρ => .nx ρ) := fun X Φ W ok tk hp => psI ps_pass fun Dn σ H ⟨F, O, ρ, hF, hs, q⟩ => q _ _ _ hs
theorem s_brk : SS c (.Break pos) (fun _ ρ => .bk ρ) := fun X Φ W ok tk hp => psI ps_break fun Dn σ H ⟨F, O, ρ, hF, hs, q⟩ => q _ _ _ hs
theorem s_cont : SS c (.Continue pos) (fun _ ρ => .ct ρ) := fun X Φ W ok tk hp => psI ps_continue fun Dn σ H ⟨F, O, ρ, hF, hs, q⟩ => q _ _ _ hs
theorem s_never : SS c st (fun _ _ => .st) := fun X Φ W ok tk hp => psI ps_never fun Dn σ H ⟨F, O, ρ, hF, hs, q⟩ => q
theorem s_ret (he : SE c e fe) : SS c (.Return (some e) pos) (fun Φ ρ => onE (fe Φ (clr ρ)) ρ .rt) := fun X Φ W ok tk hp =>
  psI (ps_ret (he X Φ W ok tk)) fun Dn σ H ⟨F, O, ρ, hF, hs, q⟩ => ⟨F.A0, _, clr ρ, hs.aok0 hF, hs.clr0 hF, rt_onE q hs fun d v H1 s1 p q1 => q1 v H1 (hs.but.trans (But.of_same s1)) p⟩
theorem s_if {A B : List Stmt} (hc : ST c e fe) (hA : SSs c A fs) (hB : SSs c B gs) : SS c (.If e A B pos) (fun Φ ρ => onE (fe Φ ρ) ρ fun d => match d with | .bool b => if b then fs Φ ρ else gs Φ ρ | _ => .st) := fun X Φ W ok tk hp =>
  psI (ps_if (hc X Φ W ok tk) (hA X Φ W ok tk hp) (hB X Φ W ok tk hp)) fun Dn σ H ⟨F, O, ρ, hF, hs, q⟩ => ⟨_, O, ρ, hs.aok hF, hs.env, rtb_onE (k := fun b => if b then fs Φ ρ else gs Φ ρ) q hs fun b H1 s1 q1 => by
    cases b with
    | true => exact iteT ⟨F, O, ρ, hF, hs.same s1, q1⟩
    | false => exact iteF ⟨F, O, ρ, hF, hs.same s1, q1⟩⟩
/-- x = e -/
theorem s_set {i : Nat} {x : Str} (is : List Nat) (hi : c.N[i]? = some x) (hx : LocC c x) (he : SE c e fe) (hs : ∀ env, env.scope = c.sc → swapsWith e (some (.Name x pos')) pos.line env = pure false) :
    SS c (.Assign [.Name x pos'] e pos) (fun Φ ρ => onE (fe Φ (dis is ρ)) (dis is ρ) fun d => .nx ((dis is ρ).set i (some (false, d)))) := fun X Φ W ok tk hp =>
  psI (ps_set (i := i) (by rw [ok.hN]; exact ok.nd) (by rw [ok.hN]; exact hi) (hx.loc ok).1 (he X Φ W ok tk) (hs _ ok.sc) (hx.loc ok).2) fun Dn σ H ⟨F, O, ρ, hF, hs, q⟩ => by
    obtain ⟨O', hs'⟩ := hs.dis hF is
    exact ⟨_, O', _, hs'.aok hF, hs'.env, rt_onE q hs' fun d v H1 s1 p q1 => q1 _ _ _ ((hs'.same s1).set i p)⟩
theorem s_expr (he : SE c e fe) (hs : ∀ env, env.scope = c.sc → swapsWith e none pos.line env = pure false) : SS c (.Expr e pos) (fun Φ ρ => onE (fe Φ ρ) ρ fun _ => .nx ρ) := fun X Φ W ok tk hp =>
  psI (ps_expr (he X Φ W ok tk) (hs _ ok.sc)) fun Dn σ H ⟨F, O, ρ, hF, hs, q⟩ => ⟨_, O, ρ, hs.aok hF, hs.env, rt_onE q hs fun d v H1 s1 p q1 => q1 _ _ _ (hs.same s1)⟩
end
end Pv

end
section
namespace Pv
open PySem PySem.Spec PyProof.Rows L2

/-! ### raise X() -/
section
variable {X : Cx}
theorem pmk_0 {C : Addr} {bmB : List Value} {B newId initId : String} {x : Str} {p pos : Pos} (F : ExcBaseFacts B newId initId bmB) (q : PySem.W.excIn X.K C bmB newId = true) (gC : X.mg x = some (.ref C)) (kC : PySem.W.keepIn X.K (.ref C) = true) (r : Raises X (.ref C)) (hg : Gl X x) (hdb : (x == ("__debug__" : Str)) = false) :
    PMk X (.Call (.Name x p) [] [] pos) (fun _ H Q => Q (.ref C) none H) := by
  intro pins s σ H Q I h
  refine wpAny_Call_Name_kw (ld_glob I hg gC (PySem.W.callWith_K0 I.kIn kC ?_) hdb)
  obtain ⟨bm, N, nm, qn, bs, hdct, sn, sub, ab, col, dd, k0, k1, k2, k3, k5, mN, hC, hN, hni, T⟩ := exc_obj I.kIn q
  show wpAny _ _ (call (.ref C) []) _ _ _
  exact wpAny_call_exc_subT F T hC hN hni (fun h' e hm => mk_of I hm r h (I.hok.gone hm.new)) (by show 0 ≤ sizeLine; omega)
end
section
variable {c : Ctx} {x : Str} {p pos pos' : Pos}
theorem s_raise (hx : x ∈ c.exc) (hk : c.sc.names.lookup x = some .globalImplicit) (hd : (x == ("__debug__" : Str)) = false) : SS c (.Raise (some (.Call (.Name x p) [] [] pos')) none pos) (fun _ ρ => .ex x ρ) := fun X Φ W ok tk hp => by
  obtain ⟨C, bmB, B, newId, initId, h1, h2, h3, h4, h5, h6⟩ := ok.exc x hx
  exact psI (ps_raise ok.calm tk (pmk_0 h5 h6 h1 h2 (raises_own h3 h4) (gl_of ok hk) hd)) fun Dn σ H ⟨F, O, ρ, hF, hs, q⟩ => q C σ H O hs h1
end
end Pv

end
section
namespace Pv
open PySem PySem.Spec PyProof.Rows L2

/-! ### what a handler says of its exception -/
def rIsET (K : PySem.W.Frag) (D a : Addr) : List V → Hp → VK → Prop := fun xs H Q => ∃ (tp : Addr) (cs : List V) (us : List Value) (b : Bool), xs = [.ref a, .ref tp] ∧ H tp = some (.tup cs) ∧ Paired ClsV cs us ∧ PySem.W.kitAny K (.ref D) us = some b ∧ Q (.bl b) H
theorem call_isET {X : Cx} {a D : Addr} {oe : Obj} {pn : List (Addr × Obj)} (C : ExcC X.K D) (hz : Zc (.ref D) none oe) (hf : ∃ vs, oe.data = .fields vs) : CallR (X.suite a ((a, oe) :: pn)) (.builtin "isinstance") (rIsET X.K D a) := by
  intro pins s σ H xs us Q I r h
  obtain ⟨tp, cs, ws, b, rfl, hT, k, e, q⟩ := h
  cases r with
  | cons rx rr =>
    cases rr with
    | cons rt rr =>
      cases rr
      cases rx
      cases rt
      obtain ⟨hget, _⟩ := I.pin (a, oe) (List.mem_append.mpr (.inl List.mem_cons_self))
      obtain ⟨vs, hv⟩ := hf
      have J : PySem.W.InstAt s.heap a oe D none := by
        obtain ⟨oc, od, oda, osl⟩ := oe
        obtain ⟨h1, h2⟩ := hz
        dsimp only at h1 h2 hv
        subst h1 h2 hv
        exact ⟨hget, rfl, rfl, trivial⟩
      obtain ⟨_, its, rv, o, h1, h2, n, h3⟩ := (show ObjOk (X.suite a ((a, oe) :: pn)).prog (X.suite a ((a, oe) :: pn)).w H s.heap tp (.tup cs) from I.hok tp _ hT)
      have e3 := ClsV.all k rv
      subst e3
      obtain ⟨oc, od, dt, sl⟩ := o
      simp only at h2 h3
      subst h2 h3
      exact PySem.W.kia_tup (PySem.W.handS_kitx_exc C.hg C.hk C.hs C.hd C.ha C.hn C.ht C.hm) I.kIn J h1 e (fun z => nomatch z) fun tk => ⟨.bl b, H, I.kept (t' := tk) fun _ _ z => z, rfl, q⟩
/-- handler expressions: their value is known -/
def HE (X : Cx) (e : Expr) (Γ : L2.St → Prop) (v : V) : Prop := PE X e (fun σ H Q => Γ σ ∧ ∀ H', Same H H' → Q v H')
section
variable {X : Cx} {Γ : L2.St → Prop} {e e1 e2 : Expr} {pos p p2 p3 : Pos}
theorem he_not {b : Bool} (h : HE X e Γ (.bl b)) : HE X (.UnaryOp .Not e pos) Γ (.bl !b) :=
  peI (pe_not h) fun σ H Q ⟨g, q⟩ => ⟨g, fun H' s => ⟨b, rfl, q H' s⟩⟩
theorem he_int {i : Int} {j : Nat} : HE X (.Constant (.int i) j pos) Γ (.int i) := peI pe_int fun σ H Q ⟨g, q⟩ => q H (Same.refl _)
theorem he_sub {i j : Int} (h1 : HE X e1 Γ (.int i)) (h2 : HE X e2 Γ (.int j)) : HE X (.BinOp e1 .Sub e2 pos) Γ (.int (i - j)) :=
  peI (pe_op op_sub h1 h2) fun σ H Q ⟨g, q⟩ => ⟨g, fun H1 s1 => ⟨g, fun H2 s2 => ⟨i, j, rfl, rfl, q H2 (s1.trans s2)⟩⟩⟩
theorem he_bool (h : HE X e1 Γ (.bl true)) : HE X (.BoolOp .Or (e1 :: e :: []) pos) Γ (.bl true) :=
  peI (pe_or (b := e) (rest := []) h (⟨fun _ _ _ _ _ _ z => z.elim⟩ : PE X (.BoolOp .Or [e] pos) fun _ _ _ => False)) fun σ H Q ⟨g, q⟩ => ⟨g, fun H1 s1 => ⟨true, rfl, by rw [if_pos rfl]; exact q H1 s1⟩⟩
theorem he_or {b : Bool} {rest : List Expr} (h1 : HE X e1 Γ (.bl false)) (h2 : HE X (.BoolOp .Or (e2 :: rest) pos) Γ (.bl b)) : HE X (.BoolOp .Or (e1 :: e2 :: rest) pos) Γ (.bl b) :=
  peI (pe_or h1 h2) fun σ H Q ⟨g, q⟩ => ⟨g, fun H1 s1 => ⟨false, rfl, by rw [if_neg (by decide)]; exact ⟨g, fun H2 s2 => q H2 (s1.trans s2)⟩⟩⟩
theorem he_one {op : BoolOp} {v : V} (h : HE X e Γ v) : HE X (.BoolOp op [e] pos) Γ v := pe_one h
theorem he_var {i : Nat} {x : Str} {v : V} (hN : X.N[i]? = some x) (hv : Vis X.env.scope x) (hd : (x == ("__debug__" : Str)) = false) (hcd : (x == ("__classdict__" : Str)) = false) (hg : ∀ σ, Γ σ → σ[i]? = some (some v)) : HE X (.Name x pos) Γ v :=
  peI (pe_var hN hv hd hcd) fun σ H Q ⟨g, q⟩ => ⟨v, hg σ g, q H (Same.refl _)⟩
/-- classes by name -/
def PAc (X : Cx) (es : List Expr) (vs : List V) : Prop := PA X es (fun _ H Q => Q vs H)
theorem pac_nil : PAc X [] [] := pa_nil
theorem pac_cons {c : Expr} {es : List Expr} {v : V} {vs : List V} (h : PE X c (tC v)) (hs : PAc X es vs) (st : starEach (c :: es) X.env = (false, eval c X.env) :: starEach es X.env) : PAc X (c :: es) (v :: vs) := pa_cons h hs st
theorem he_intb {b : Bool} (hg : Gl X "int") (hm : X.mg "int" = none) (h : HE X e Γ (.bl b)) (st : starEach [e] X.env = (false, eval e X.env) :: starEach [] X.env) : HE X (.Call (.Name "int" p) [e] [] pos) Γ (.int (if b then 1 else 0)) :=
  peI (pe_callTy call_int1 hg hm (by decide +kernel) (pa_cons h pa_nil st) (by decide) (by decide) st (by rfl)) fun σ H Q ⟨g, q⟩ => ⟨g, fun H1 s1 => .inr ⟨b, rfl, q H1 s1⟩⟩
end
section
variable {X : Cx} {a D : Addr} {oe : Obj} {pn : List (Addr × Obj)} {Γ : L2.St → Prop} {e c : Expr} {cs : List Expr} {pos p p2 : Pos} {kk : Nat}
theorem he_isi {cv : V} {u : Value} {b : Bool} (C : ExcC X.K D) (hz : Zc (.ref D) none oe) (hf : ∃ vs, oe.data = .fields vs) (hg : Gl X "isinstance") (hm : X.mg "isinstance" = none) (h : HE (X.suite a ((a, oe) :: pn)) e Γ (.ref a)) (hc : PE (X.suite a ((a, oe) :: pn)) c (tC cv)) (k : ClsV cv u) (hk : PySem.W.kitOne X.K (.ref D) u = some b)
    (s1 : starEach [e, c] X.env = (false, eval e X.env) :: starEach [c] X.env) (s2 : starEach [c] X.env = (false, eval c X.env) :: starEach [] X.env) (s3 : (backTo pos (starEach [c] X.env)).any (·.1) = false) :
    HE (X.suite a ((a, oe) :: pn)) (.Call (.Name "isinstance" p) [e, c] [] pos) Γ (.bl b) :=
  peI (pe_callB (call_isE C hz hf) hg hm (by decide +kernel) (pa_cons h (pa_cons hc pa_nil s2) s1) (by decide) (by decide) s1 s3) fun σ H Q ⟨g, q⟩ => ⟨g, fun H1 s1 => ⟨cv, u, b, rfl, fun w hw => k.eq hw, hk, q H1 s1⟩⟩
theorem he_isiT {vs : List V} {us : List Value} {b : Bool} (C : ExcC X.K D) (hz : Zc (.ref D) none oe) (hf : ∃ vs, oe.data = .fields vs) (hg : Gl X "isinstance") (hm : X.mg "isinstance" = none) (h : HE (X.suite a ((a, oe) :: pn)) e Γ (.ref a)) (hc : PAc (X.suite a ((a, oe) :: pn)) cs vs) (k : Paired ClsV vs us) (hl : vs.length ≤ sizeLine) (hk : PySem.W.kitAny X.K (.ref D) us = some b)
    (s1 : starEach [e, .Tuple cs kk p2] X.env = (false, eval e X.env) :: starEach [.Tuple cs kk p2] X.env) (s2 : starEach [.Tuple cs kk p2] X.env = (false, eval (.Tuple cs kk p2) X.env) :: starEach [] X.env) (s3 : (backTo pos (starEach [.Tuple cs kk p2] X.env)).any (·.1) = false) :
    HE (X.suite a ((a, oe) :: pn)) (.Call (.Name "isinstance" p) [e, .Tuple cs kk p2] [] pos) Γ (.bl b) :=
  peI (pe_callB (call_isET C hz hf) hg hm (by decide +kernel) (pa_cons h (pa_cons (pe_tup hc) pa_nil s2) s1) (by decide) (by decide) s1 s3) fun σ H Q ⟨g, q⟩ => ⟨g, fun H1 s1 => ⟨hl, fun T nT => ⟨T, vs, us, b, rfl, upd_same, k, hk, q _ (s1.trans (same_upd nT))⟩⟩⟩
end
end Pv

end
section
namespace Pv
open PySem PySem.Spec PyProof.Rows L2

/-! ### expressions that make a new list -/
def tF (K : PySem.W.Frag) (mg : Str → Option Value) (W : WX) (f : Env → Res D) : TE := fun σ H Q => ∃ A O ρ, AOk H A ∧ EnvOk K H A O σ ρ ∧ RtF K mg W A H σ Q (f ρ)
def SF (c : Ctx) (e : Expr) (f : EvE) : Prop := ∀ X Φ W, Ok c X Φ → Takes X W → PE X e (tF X.K X.mg W (f Φ))
section
variable {K : PySem.W.Frag} {mg : Str → Option Value} {W : WX} {A : List Addr} {H H1 : Hp} {σ : L2.St} {Q Q1 : VK}
theorem RtF.same {r : Res D} (h : RtF K mg W A H σ Q r) (s : Same H H1) : RtF K mg W A H1 σ Q r := by
  cases r with
  | st => exact h
  | ok d => cases d <;> first | exact h | exact fun p xs H' s' np e r => h p xs H' (s.trans s') (s.free np) e r
  | ex c => exact fun C H' s' p => h C H' (s.trans s') p
theorem RtF.bind {P1 : Hp → V → D → Prop} {m : Res D} {g : D → Res D} (h : RtF K mg W A H σ Q (m >>= g)) (k : ∀ d v H1, Same H H1 → P1 H1 v d → RtF K mg W A H1 σ Q (g d) → Q1 v H1) : Rt mg W P1 H σ Q1 m := by
  cases m with
  | st => exact h
  | ok d => exact fun v H1 s p => k d v H1 s p (RtF.same h s)
  | ex c => exact h
theorem RtF.bindL {PL1 : Hp → List V → List D → Prop} {QL1 : List V → Hp → Prop} {m : Res (List D)} {g : List D → Res D} (h : RtF K mg W A H σ Q (m >>= g)) (k : ∀ d v H1, Same H H1 → PL1 H1 v d → RtF K mg W A H1 σ Q (g d) → QL1 v H1) : RtL mg W PL1 H σ QL1 m := by
  cases m with
  | st => exact h
  | ok d => exact fun v H1 s p => k d v H1 s p (RtF.same h s)
  | ex c => exact h
theorem RtF.upd {ds : List D} {p : Addr} {xs : List V} (h : RtF K mg W A H σ Q (.ok (.list ds))) (np : H p = none) (r : RpL K H A xs ds) : Q (.ref p) (upd H p (.lst xs)) :=
  h p xs _ (same_upd np) np upd_same ((r.new np).same (same_upd np))
end
section
variable {c : Ctx} {a b e iter tg : Expr} {es : List Expr} {fa fb fc fe : EvE} {fi fs : EvL} {pos pos' : Pos}
theorem sf_lst (hs : SXs pEs c es fs) : SF c (.List es pos) (fun Φ ρ => do let r ← fs Φ ρ; smL r .list) := fun X Φ W ok tk =>
  peI (pe_lst (hs X Φ W ok tk)) fun σ H Q ⟨A, O, ρ, hA, hρ, q⟩ => ⟨A, O, ρ, hA, hρ, q.bindL fun xs vs H1 s1 p1 q1 => by
    unfold smL at q1
    by_cases hz : sm xs.length = true
    · rw [if_pos hz] at q1
      exact ⟨by rw [p1.length]; exact sm_le hz, fun p np => q1.upd np p1⟩
    · rw [if_neg hz] at q1; exact q1.elim⟩
theorem sf_bin {op : Operator} (ha : SB c a fa) (hb : SB c b fb) : SF c (.BinOp a op b pos) (fun Φ ρ => do let x ← fa Φ ρ; let y ← fb Φ ρ; Res.ofO (binop op x y)) := fun X Φ W ok tk => by
  have rule : OpR X (binaryOp op) (fun x y H Q => ∃ A d e r, RpB X.K H A x d ∧ RpB X.K H A y e ∧ binop op d e = some (.list r) ∧ ∀ p xs, H p = none → RpL X.K H A xs r → Q (.ref p) (upd H p (.lst xs))) := by
    intro pins s σ H x y v u Q I rx ry h
    obtain ⟨A, d, e, r, hd, he, hf, q⟩ := h
    cases d with
    | list ds =>
      obtain ⟨a, xs, rfl, hx, lx⟩ := hd
      cases op <;> cases e <;> first
        | (simp [binop] at hf; done)
        | skip
      case Add.list es =>
        obtain ⟨b, ys, rfl, hy, ly⟩ := he
        obtain ⟨h1, h2⟩ := ite_some (c := sm (ds.length + es.length) = true) hf
        cases h2
        refine op_catL pins s σ H _ _ v u Q I rx ry ⟨a, b, xs, ys, rfl, rfl, hx, hy, ?_, fun p np => ?_⟩
        · rw [lx.length, ly.length]; exact sm_le h1
        · exact q p _ np (lx.append ly)
      case Mult.int k =>
        have hk := he.int
        subst hk
        obtain ⟨h1, h2⟩ := ite_some (c := (decide (0 ≤ k) && decide (k ≤ 1000) && decide (ds.length ≤ 1000)) = true) hf
        cases h2
        obtain ⟨h1, h2, h3⟩ := and3 h1
        refine op_repL pins s σ H _ _ v u Q I rx ry ⟨a, k, xs, rfl, rfl, hx, of_decide_eq_true h1, of_decide_eq_true h2, ?_, fun p np => ?_⟩
        · rw [lx.length]; exact of_decide_eq_true h3
        · exact q p _ np (lx.rep _)
    | _ => exact absurd hf (by cases op <;> cases e <;> simp [binop])
  refine peI (pe_op rule (ha X Φ W ok tk) (hb X Φ W ok tk)) fun σ H Q ⟨A, O, ρ, hA, hρ, q⟩ =>
    ⟨A, O, ρ, hA, hρ, q.bind fun x v H1 s1 p1 q1 => ⟨A, O, ρ, hA.same s1, hρ.same s1, q1.bind fun y u H2 s2 p2 q2 => ?_⟩⟩
  cases hr : binop op x y with
  | none => rw [hr] at q2; exact q2.elim
  | some r =>
    rw [hr] at q2
    cases r with
    | list r => exact ⟨A, x, y, r, p1.same s2, p2, hr, fun p xs np l => RtF.upd q2 np l⟩
    | _ => exact q2.elim
/-- list(e), of a list or a tuple; sorted(e) -/
theorem sf_list {p : Pos} (hb : ("list" : Str) ∈ c.blts) (hk : c.sc.names.lookup ("list" : Str) = some .globalImplicit) (hs : SXs pBs c (a :: es) fs) (hn : notStar a = true) (hns : es.all notStar = true) :
    SF c (.Call (.Name "list" p) (a :: es) [] pos) (fun Φ ρ => do let r ← fs Φ ρ; Res.ofO (bltop .list r)) := fun X Φ W ok tk => by
  refine peI (pe_callTy call_list_of (gl_of ok hk) (ok.blt _ hb) (by decide +kernel) (hs X Φ W ok tk) (by decide) (by decide) (star_of hn _ _) (stars_of hns)) fun σ H Q ⟨A, O, ρ, hA, hρ, q⟩ => ⟨A, O, ρ, hA, hρ, q.bindL fun xs vs H1 s1 p1 q1 => ?_⟩
  unfold bltop at q1
  match xs, p1, q1 with
  | [.list ds], p1, q1 =>
    obtain ⟨v, rfl, x⟩ := p1.one
    obtain ⟨a, xs, rfl, hx, hr⟩ := x
    exact ⟨a, xs, rfl, .inl hx, fun p np => RtF.upd q1 np hr⟩
  | [.tuple ds], p1, q1 =>
    obtain ⟨v, rfl, x⟩ := p1.one
    obtain ⟨a, xs, rfl, hx, hr⟩ := x.tuple
    exact ⟨a, xs, rfl, .inr hx.t, fun p np => RtF.upd q1 np hr⟩
  | [], _, q1 => exact q1.elim
  | x :: _ :: _, _, q1 => cases x <;> exact q1.elim
  | [.none], _, q1 => exact q1.elim
  | [.bool _], _, q1 => exact q1.elim
  | [.int _], _, q1 => exact q1.elim
  | [.str _], _, q1 => exact q1.elim
  | [.dict _], _, q1 => exact q1.elim
/-- a comprehension -/
theorem sf_lc {scope : Scope} {own : List (Str × Nat)} {ifs : List Expr} {t : Tg} (bor : Bool) (hi : SI bor c tg iter fi) (bo : BlkOk c.N c.sc scope own) (hg : SG (c.blk scope) tg t) (ht : ∀ i ∈ t.slots, i ∈ own.map (·.2)) (hc : STs (c.blk scope) ifs fc) (he : SE (c.blk scope) e fe)
    (hs : ∀ env x, foldedSetIterable iter env x = pure x) : SF c (.ListComp e [⟨tg, iter, ifs, 0⟩] scope pos) (lcE (own.map (·.2)) t fi fc fe) := fun X Φ W ok tk =>
  peI (pe_lc ok.calm (by rw [ok.hN]; exact ok.nd) (hi X Φ W ok tk) (by rw [ok.hN, ok.sc]; exact bo)
    (fun s H C cl fp => hg _ Φ (ok_blk ok bo s H C cl fp)) (fun s H C cl fp => hc _ Φ W0 (ok_blk ok bo s H C cl fp) takes0) (fun s H C cl fp => he _ Φ W0 (ok_blk ok bo s H C cl fp) takes0) (hs _))
    fun σ H Q ⟨A, O, ρ, hA, hρ, q⟩ => lc_readF ht hA hρ q

end

/-! ### further statements -/
section
variable {K : PySem.W.Frag} {mg : Str → Option Value} {W : WX} {F : Fm} {O : List (List Addr)} {σ : L2.St} {H : Hp} {ρ : Env} {Dn : Ends}
theorem rtf_onE {A : List Addr} {Q : VK} {m : Res D} {k : D → SR} (h : RtS K mg W F Dn (onE m ρ k)) (s : StO K F O σ H ρ) (hl : ∀ d, m = .ok d → ∃ ds, d = .list ds)
    (kk : ∀ ds p xs H1, m = .ok (.list ds) → Same H H1 → H p = none → H1 p = some (.lst xs) → RpL K H1 (p :: A) xs ds → RtS K mg W F Dn (k (.list ds)) → Q (.ref p) H1) : RtF K mg W A H σ Q m := by
  cases m with
  | st => exact h
  | ok d =>
    obtain ⟨ds, rfl⟩ := hl d rfl
    exact fun p xs H1 s1 np e r => kk ds p xs H1 rfl s1 np e r h
  | ex c => exact fun C H' s' hm => h C σ H' O (s.same s') hm
/-- a new list stored, owned from then on -/
def stF (i : Nat) (m : Res D) (ρ : Env) : SR := onE m ρ fun d => match d with | .list ds => if i < ρ.length then .nx (ρ.set i (some (true, .list ds))) else .st | _ => .st
theorem rtf_stF {i : Nat} {m : Res D} (h : RtS K mg W F Dn (stF i m ρ)) (hF : F.Ok) (s : StO K F O σ H ρ) : RtF K mg W (F.A0 ++ rts O) H σ (fun x H1 => gName i x σ H1 Dn.nx) m := by
  unfold stF at h
  cases m with
  | st => exact h
  | ex c => exact fun C H' s' hm => h C σ H' O (s.same s') hm
  | ok d =>
    cases d with
    | list ds =>
      intro p xs H1 s1 np e r
      have h : RtS K mg W F Dn (if i < ρ.length then .nx (ρ.set i (some (true, .list ds))) else .st) := h
      have hi : i < ρ.length := by
        by_cases hi : i < ρ.length
        · exact hi
        · rw [if_neg hi] at h; exact h.elim
      rw [if_pos hi] at h
      refine h _ _ _ (s.put i hF s1 np (.ownL (List.mem_append_right _ ?_) e (r.sub fun a ha => ?_)))
      · have hO : i < O.length := by rw [s.env.sl.len.2]; exact hi
        exact mem_at (i := i) (r := [p]) (by rw [List.getElem?_set_self hO]) (by simp)
      · rcases List.mem_append.mp ha with ha | ha
        · exact List.mem_cons_of_mem _ (List.mem_append_left _ ha)
        · rcases mem_set (ha) with ha | ha
          · exact List.mem_cons_of_mem _ (List.mem_append_right _ (ha))
          · rw [List.mem_singleton.mp ha]; simp
    | _ => exact h
end
section
variable {c : Ctx} {e a b iter tg : Expr} {st : Stmt} {sts body : List Stmt} {fe fa fb fc : EvE} {fi : EvL} {fs gs : EvS} {pos pos' : Pos}
theorem s_setF {i : Nat} {x : Str} (is : List Nat) (hi : c.N[i]? = some x) (hx : LocC c x) (he : SF c e fe) (hs : ∀ env, env.scope = c.sc → swapsWith e (some (.Name x pos')) pos.line env = pure false) :
    SS c (.Assign [.Name x pos'] e pos) (fun Φ ρ => stF i (fe Φ (dis is ρ)) (dis is ρ)) := fun X Φ W ok tk hp =>
  psI (ps_set (i := i) (by rw [ok.hN]; exact ok.nd) (by rw [ok.hN]; exact hi) (hx.loc ok).1 (he X Φ W ok tk) (hs _ ok.sc) (hx.loc ok).2) fun Dn σ H ⟨F, O, ρ, hF, hs, q⟩ => by
    obtain ⟨O', hs'⟩ := hs.dis hF is
    exact ⟨_, O', _, hs'.aok hF, hs'.env, rtf_stF q hF hs'⟩
/-- x = [.. for ..] on one line -/
theorem s_setLc {i : Nat} {x : Str} {spos : Pos} {scope : Scope} {own : List (Str × Nat)} {ifs : List Expr} {t : Tg} (bor : Bool) (is : List Nat) (hi' : c.N[i]? = some x) (hx : c.sc.names.lookup x = some .local)
    (hsw : ∀ env, env.scope = c.sc → swapsWith (.ListComp e [⟨tg, iter, ifs, 0⟩] scope pos) (some (.Name x pos')) spos.line env = pure true)
    (hi : SI bor c tg iter fi) (bo : BlkOk c.N c.sc scope own) (hg : SG (c.blk scope) tg t) (ht : ∀ i ∈ t.slots, i ∈ own.map (·.2)) (hc : STs (c.blk scope) ifs fc) (he : SE (c.blk scope) e fe)
    (hs : ∀ env x, foldedSetIterable iter env x = pure x) : SS c (.Assign [.Name x pos'] (.ListComp e [⟨tg, iter, ifs, 0⟩] scope pos) spos) (fun Φ ρ => stF i (lcE (own.map (·.2)) t fi fc fe Φ (dis is ρ)) (dis is ρ)) := fun X Φ W ok tk hp =>
  psI (ps_setLc (i := i) ok.calm (by rw [ok.hN]; exact ok.nd) (by rw [ok.hN]; exact hi') (by rw [ok.sc]; exact hx) (hsw _ ok.sc) (hi X Φ W ok tk) (by rw [ok.hN, ok.sc]; exact bo)
    (fun s H C cl fp => hg _ Φ (ok_blk ok bo s H C cl fp)) (fun s H C cl fp => hc _ Φ W0 (ok_blk ok bo s H C cl fp) takes0) (fun s H C cl fp => he _ Φ W0 (ok_blk ok bo s H C cl fp) takes0) (hs _))
    fun Dn σ H ⟨F, O, ρ, hF, hs, q⟩ => by
      obtain ⟨O', hs'⟩ := hs.dis hF is
      exact lc_readF ht (hs'.aok hF) hs'.env (rtf_stF q hF hs')
/-- a target of another form = e -/
def asgS (t : Tg) (d : D) (ρ : Env) (k : Env → SR) : SR := match asgT t d ρ with
  | .ok ρ' => k ρ'
  | _ => .st
theorem asgS_read {K : PySem.W.Frag} {mg : Str → Option Value} {W : WX} {F : Fm} {O : List (List Addr)} {σ : L2.St} {H : Hp} {ρ : Env} {Dn : Ends} {t : Tg} {d : D} {v : V} {k : Env → SR} {Q : L2.St → Hp → Prop} (hF : F.Ok) (hs : StO K F O σ H ρ) (p : Rp K H (F.A0 ++ rts O) v d) (q : RtS K mg W F Dn (asgS t d ρ k))
    (kk : ∀ ρ' σ' O', StO K F O' σ' H ρ' → RtS K mg W F Dn (k ρ') → Q σ' H) : tG K t v σ H Q := by
  refine ⟨_, O, ρ, d, hs.aok hF, hs.env, p, ?_⟩
  unfold asgS at q
  cases hr : asgT t d ρ with
  | st => rw [hr] at q; exact q
  | ex z => rw [hr] at q; exact q
  | ok ρ' =>
    rw [hr] at q
    intro σ' O2 e1 e2 _
    refine kk ρ' σ' O2 ⟨e1.subTo (fun a ha => ?_) fun a ha => List.mem_append_right _ (ha), hs.but, fun a ha => hs.own a (e2 a ha)⟩ q
    rcases List.mem_append.mp ha with ha | ha
    · exact List.mem_append_left _ ha
    · exact List.mem_append_right _ (e2 a ha)
theorem s_asg {t : Tg} (is : List Nat) (hg : SG c tg t) (he : SE c e fe) (hs : ∀ env, env.scope = c.sc → swapsWithSole [tg] e pos.line env = pure false) (hw : ∀ env, env.scope = c.sc → swappedStores [tg] e env = pure none) (hn : notStar tg = true) :
    SS c (.Assign [tg] e pos) (fun Φ ρ => onE (fe Φ (dis is ρ)) (dis is ρ) fun d => asgS t d (dis is ρ) .nx) := fun X Φ W ok tk hp =>
  psI (ps_asg (he X Φ W ok tk) (hg X Φ ok) (hs _ ok.sc) (hw _ ok.sc) (by cases tg <;> first | rfl | cases hn)) fun Dn σ H ⟨F, O, ρ, hF, hs, q⟩ => by
    obtain ⟨O', hs'⟩ := hs.dis hF is
    exact ⟨_, O', _, hs'.aok hF, hs'.env, rt_onE q hs' fun d v H1 s1 p q1 => asgS_read hF (hs'.same s1) p q1 fun ρ' σ' O2 s2 q2 => q2 _ _ _ s2⟩
/-- for -/
def forL (t : Tg) (body : Env → SR) : List D → Env → SR
  | [], ρ => .nx ρ
  | d :: ds, ρ => asgS t d ρ fun ρ' => match body ρ' with
    | .nx ρ2 => forL t body ds ρ2
    | .ct ρ2 => forL t body ds ρ2
    | .bk ρ2 => .nx ρ2
    | r => r
theorem for_core {K : PySem.W.Frag} {mg : Str → Option Value} {W : WX} {F : Fm} {O1 : List (List Addr)} {σ : L2.St} {H1 : Hp} {ρ1 : Env} {Dn : Ends} {t : Tg} {fs : EvS} {Φ : Calls} {J : L2.It} {ds : List D} (hF : F.Ok) (hs2 : StO K F O1 σ H1 ρ1) (wk : Wk K (F.A0 ++ rts O1) (F.A0 ++ rts O1) J H1 ds) (q : RtS K mg W F Dn (forL t (fs Φ) ds ρ1)) :
    ∃ Wf : Nat → Nat → L2.St → Hp → Prop, (∃ m, Wf 0 m σ H1) ∧ ∀ i m σ H, Wf i m σ H → (J.stop i H ∧ Dn.nx σ H) ∨ (J.go i H ∧ ∃ N : L2.St → Hp → Prop, (∀ σ' H', N σ' H' → ∃ m', m' < m ∧ Wf (i + 1) m' σ' H') ∧ ∀ x H', J.yld i H x H' → tG K t x σ H' fun σ2 H2 => tS K mg W (fs Φ) { Dn with nx := N, ct := N, bk := Dn.nx } σ2 H2) := by
  have hF1 := hs2.startOk hF
  refine ⟨fun i m σ2 H2 => m = ds.length - i ∧ i ≤ ds.length ∧ ∃ O2 ρ2, StO K ⟨F.A0, rts O1, H1⟩ O2 σ2 H2 ρ2 ∧ RtS K mg W F Dn (forL t (fs Φ) (ds.drop i) ρ2), ⟨ds.length, by simp, Nat.zero_le _, O1, ρ1, hs2.start, by simpa using q⟩, ?_⟩
  rintro i m σ2 H2 ⟨rfl, hi, O2, ρ2, hs3, q3⟩
  have aok1 := hs2.aok hF
  have bt : But (F.A0 ++ rts O1) H1 H2 := fun b o n e => hs3.but b o (fun z => n (List.mem_append_right _ z)) e
  obtain ⟨wgo, wst⟩ := wk i H2 (F.A0 ++ rts O2) bt fun p hp => by
    rcases List.mem_append.mp hp with hp | hp
    · exact .inl (List.mem_append_left _ hp)
    · rcases hs3.own p (hp) with z | z
      · exact .inl (List.mem_append_right _ z)
      · exact .inr z
  by_cases hlt : i < ds.length
  · obtain ⟨go, yl⟩ := wgo _ (List.getElem?_eq_getElem hlt)
    rw [List.drop_eq_getElem_cons hlt] at q3
    have q3 : RtS K mg W F Dn (asgS t ds[i] ρ2 fun ρ' => match fs Φ ρ' with
      | .nx ρ2 => forL t (fs Φ) (ds.drop (i + 1)) ρ2
      | .ct ρ2 => forL t (fs Φ) (ds.drop (i + 1)) ρ2
      | .bk ρ2 => .nx ρ2
      | r => r) := q3
    refine .inr ⟨go, fun σ' H' => ∃ O' ρ', StO K ⟨F.A0, rts O1, H1⟩ O' σ' H' ρ' ∧ RtS K mg W F Dn (forL t (fs Φ) (ds.drop (i + 1)) ρ'), fun σ' H' ⟨O', ρ', a1, a2⟩ => ⟨ds.length - (i + 1), by omega, rfl, hlt, O', ρ', a1, a2⟩, fun x H' hy => ?_⟩
    obtain ⟨s3, hx⟩ := yl x H' hy
    -- the assignment, in the frame of the loop
    have hs4 := hs3.same s3
    unfold asgS at q3
    refine ⟨_, O2, ρ2, ds[i], hs4.aok hF1, hs4.env, hx, ?_⟩
    cases hr2 : asgT t ds[i] ρ2 with
    | st => rw [hr2] at q3; exact q3
    | ex z => rw [hr2] at q3; exact q3
    | ok ρ' =>
      rw [hr2] at q3
      intro σ' O' e1 e2 _
      have hs5 : StO K ⟨F.A0, rts O1, H1⟩ O' σ' H' ρ' := ⟨e1.subTo (fun a ha => by
        rcases List.mem_append.mp ha with ha | ha
        · exact List.mem_append_left _ ha
        · exact List.mem_append_right _ (e2 a ha)) fun a ha => List.mem_append_right _ (ha), hs4.but, fun a ha => hs4.own a (e2 a ha)⟩
      refine ⟨⟨F.A0, rts O1, H1⟩, O', ρ', hF1, hs5, ?_⟩
      have q3 : RtS K mg W F Dn (match fs Φ ρ' with
        | .nx ρ2 => forL t (fs Φ) (ds.drop (i + 1)) ρ2
        | .ct ρ2 => forL t (fs Φ) (ds.drop (i + 1)) ρ2
        | .bk ρ2 => .nx ρ2
        | r => r) := q3
      cases hr3 : fs Φ ρ' with
      | st => rw [hr3] at q3; exact q3
      | nx ρ3 => rw [hr3] at q3; exact fun σ3 H3 O3 s => ⟨O3, ρ3, s, q3⟩
      | ct ρ3 => rw [hr3] at q3; exact fun σ3 H3 O3 s => ⟨O3, ρ3, s, q3⟩
      | bk ρ3 => rw [hr3] at q3; exact fun σ3 H3 O3 s => q3 σ3 H3 O3 (hs2.back hF s)
      | rt d => rw [hr3] at q3; exact fun v H3 b r => q3 v H3 (hs2.butBack hF b) r
      | ex z ρ3 => rw [hr3] at q3; exact fun C σ3 H3 O3 s hm => q3 C σ3 H3 O3 (hs2.back hF s) hm
  · have e : i = ds.length := by omega
    subst e
    rw [List.drop_length] at q3
    exact .inl ⟨wst (Nat.le_refl _), q3 σ2 H2 O2 (hs2.back hF hs3)⟩
theorem s_for {t : Tg} (is : List Nat) (hi : SI false c tg iter fi) (hg : SG c tg t) (hb : SSs c body fs) (hf : ∀ env x, foldedSetIterable iter env x = pure x) :
    SS c (.For tg iter body [] pos) (fun Φ ρ => onE (fi Φ (dis is ρ)) (dis is ρ) fun ds => forL t (fs Φ) ds (dis is ρ)) := fun X Φ W ok tk hp =>
  psI (ps_for hp ok.calm (hi X Φ W ok tk) (hg X Φ ok) (hb X Φ W ok tk hp) (hf _)) fun Dn σ H ⟨F, O, ρ, hF, hs, q⟩ => by
    obtain ⟨O1, hs1⟩ := hs.dis hF is
    refine ⟨_, O1, _, hs1.aok hF, hs1.env, ?_⟩
    have q : RtS X.K X.mg W F Dn (onE (fi Φ (dis is ρ)) (dis is ρ) fun ds => forL t (fs Φ) ds (dis is ρ)) := q
    cases hr : fi Φ (dis is ρ) with
    | st => rw [hr] at q; exact q
    | ex z => rw [hr] at q; exact fun C H' s' hm => q C σ H' O1 (hs1.same s') hm
    | ok ds =>
      rw [hr] at q
      intro J H1 s1 wk
      exact for_core hF (hs1.same s1) wk q
/-- while -/
def whileN (test : Env → Res D) (body : Env → SR) : Nat → Env → SR
  | 0, _ => .st
  | n + 1, ρ => onE (test ρ) ρ fun d => match d with
    | .bool b => if b then (match body ρ with
      | .nx ρ2 => whileN test body n ρ2
      | .ct ρ2 => whileN test body n ρ2
      | .bk ρ2 => .nx ρ2
      | r => r) else .nx ρ
    | _ => .st
def FUEL : Nat := 1000000
theorem s_while (hc : ST c e fe) (hb : SSs c body fs) : SS c (.While e body [] pos) (fun Φ ρ => whileN (fe Φ) (fs Φ) FUEL ρ) := fun X Φ W ok tk hp =>
  psI (ps_while hp (hc X Φ W ok tk) (hb X Φ W ok tk hp)) fun Dn σ H ⟨F, O, ρ, hF, hs, q⟩ => by
    refine ⟨fun m σ2 H2 => ∃ O2 ρ2, StO X.K F O2 σ2 H2 ρ2 ∧ RtS X.K X.mg W F Dn (whileN (fe Φ) (fs Φ) m ρ2), ⟨FUEL, O, ρ, hs, q⟩, ?_⟩
    rintro m σ2 H2 ⟨O2, ρ2, hs2, q2⟩
    cases m with
    | zero => exact q2.elim
    | succ n =>
      refine ⟨_, O2, ρ2, hs2.aok hF, hs2.env, rtb_onE (k := fun b => if b then (match fs Φ ρ2 with
        | .nx ρ2 => whileN (fe Φ) (fs Φ) n ρ2
        | .ct ρ2 => whileN (fe Φ) (fs Φ) n ρ2
        | .bk ρ2 => .nx ρ2
        | r => r) else .nx ρ2) q2 hs2 fun b H1 s1 q3 => ?_⟩
      cases b with
      | false => exact iteF (q3 _ _ _ (hs2.same s1))
      | true =>
        refine iteT ⟨fun σ' H' => ∃ O' ρ', StO X.K F O' σ' H' ρ' ∧ RtS X.K X.mg W F Dn (whileN (fe Φ) (fs Φ) n ρ'), fun σ' H' ⟨O', ρ', a1, a2⟩ => ⟨n, Nat.lt_succ_self _, O', ρ', a1, a2⟩, F, O2, ρ2, hF, hs2.same s1, ?_⟩
        have q3 : RtS X.K X.mg W F Dn (match fs Φ ρ2 with
            | .nx ρ2 => whileN (fe Φ) (fs Φ) n ρ2
            | .ct ρ2 => whileN (fe Φ) (fs Φ) n ρ2
            | .bk ρ2 => .nx ρ2
            | r => r) := q3
        cases hr3 : fs Φ ρ2 with
        | st => rw [hr3] at q3; exact q3
        | nx ρ3 => rw [hr3] at q3; exact fun σ3 H3 O3 s => ⟨O3, ρ3, s, q3⟩
        | ct ρ3 => rw [hr3] at q3; exact fun σ3 H3 O3 s => ⟨O3, ρ3, s, q3⟩
        | bk ρ3 => rw [hr3] at q3; exact fun σ3 H3 O3 s => q3 σ3 H3 O3 s
        | rt d => rw [hr3] at q3; exact q3
        | ex z ρ3 => rw [hr3] at q3; exact q3
/-! lists that are owned, changed -/
def ownL (i : Nat) (ρ : Env) (k : List D → SR) : SR := match ρ[i]? with
  | some (some (true, .list ds)) => k ds
  | _ => .st
theorem ownL_get {K : PySem.W.Frag} {mg : Str → Option Value} {W : WX} {F : Fm} {O : List (List Addr)} {σ : L2.St} {H : Hp} {ρ : Env} {Dn : Ends} {i : Nat} {k : List D → SR} (hs : StO K F O σ H ρ) (q : RtS K mg W F Dn (ownL i ρ k)) :
    ∃ ds a xs, ρ[i]? = some (some (true, .list ds)) ∧ σ[i]? = some (some (.ref a)) ∧ O[i]? = some [a] ∧ H a = some (.lst xs) ∧ RpL K H (F.A0 ++ rts O) xs ds ∧ RtS K mg W F Dn (k ds) := by
  unfold ownL at q
  split at q
  · rename_i ds e
    obtain ⟨x, r, e1, e2, sl⟩ := hs.env.sl.get e
    cases sl with
    | ownL m h r => exact ⟨ds, _, _, e, e1, e2, h, r, q⟩
  · exact q.elim
/-- the list in slot i is now ys -/
theorem mutL {K : PySem.W.Frag} {F : Fm} {O : List (List Addr)} {σ : L2.St} {H : Hp} {ρ : Env} {i : Nat} {a : Addr} {xs ys : List V} {es : List D} (hF : F.Ok) (hs : StO K F O σ H ρ) (e1 : σ[i]? = some (some (.ref a))) (e2 : O[i]? = some [a]) (ha : H a = some (.lst xs)) (r : RpL K H (F.A0 ++ rts O) ys es) :
    StO K F O σ (upd H a (.lst ys)) (ρ.set i (some (true, .list es))) := by
  have inA : a ∈ F.A0 ++ rts O := List.mem_append_right _ (mem_at e2 (by simp))
  refine hs.mut (x := none) i hF e1 e2 (.ownL inA upd_same (r.but (B := [a]) (But.upd (by simp)) (fun p hp => ?_) (fun p hp => ?_)))
  · have : p = a := by simpa using hp
    subst this; exact ⟨_, ha, trivial⟩
  · have : p = a := by simpa using hp
    subst this; exact inA
/-- xs.append(e) -/
def apS (i : Nat) (ρ : Env) (m : Res D) : SR := ownL i ρ fun ds => onE m ρ fun d => if sm ds.length then .nx (ρ.set i (some (true, .list (ds ++ [d])))) else .st
theorem sm_lt {n : Nat} (h : sm n = true) : n < sizeLine := by
  have h' : n ≤ 1000000 := of_decide_eq_true h
  rw [sizeLine_eq]; omega
theorem few1 {env : PySem.Env} {e : Expr} {pos : Pos} (hn : notStar e = true) : ((backTo pos (starEach [e] env)).all (fun x => !x.1) && (backToKw pos (keywordEach [] env)).all (fun x => x.1.isSome)
      && decide (([e] : List Expr).length + ([] : List Keyword).length + (if ([] : List Keyword).isEmpty then 0 else 1) < 30)) = true := by
  rw [star_of hn]; rfl
theorem few2 {env : PySem.Env} {e e2 : Expr} {pos : Pos} (hn : notStar e = true) (hn2 : notStar e2 = true) : ((backTo pos (starEach [e, e2] env)).all (fun x => !x.1) && (backToKw pos (keywordEach [] env)).all (fun x => x.1.isSome)
      && decide (([e, e2] : List Expr).length + ([] : List Keyword).length + (if ([] : List Keyword).isEmpty then 0 else 1) < 30)) = true := by
  rw [star_of hn, star_of hn2]; rfl
theorem s_append {i : Nat} {x : Str} {p apos cpos : Pos} (is : List Nat) (hi : c.N[i]? = some x) (hv : Vis c.sc x) (hd : (x == ("__debug__" : Str)) = false) (hcd : (x == ("__classdict__" : Str)) = false) (he : SE c e fe) (hn : notStar e = true) (hline : (apos.endLine == cpos.line) = true) :
    SS c (.Expr (.Call (.Attribute (.Name x p) "append" apos) [e] [] cpos) pos) (fun Φ ρ => apS i (dis is ρ) (fe Φ (dis is ρ))) := fun X Φ W ok tk hp =>
  psI (ps_expr (pe_bm PySem.F.plainAttrs_list PySem.F.slot_list_append PySem.F.type_list_append mt_append (pe_var (i := i) (by rw [ok.hN]; exact hi) (by rw [ok.sc]; exact hv) hd hcd) (pa_cons (he X Φ W ok tk) pa_nil (star_of hn _ _)) rfl (few1 hn) hline (star_of hn _ _) rfl)) fun Dn σ H ⟨F, O, ρ, hF, hs, q⟩ => by
    obtain ⟨O1, hs1⟩ := hs.dis hF is
    obtain ⟨ds, a, xs, e0, e1, e2, ha, r, q1⟩ := ownL_get hs1 q
    refine ⟨.ref a, e1, .inl ⟨rfl, xs, .inl (.inl ha)⟩, _, O1, _, hs1.aok hF, hs1.env, rt_onE q1 hs1 fun d v H1 s1 p q2 => ?_⟩
    by_cases hz : sm ds.length = true
    · rw [if_pos hz] at q2
      refine ⟨a, xs, v, rfl, rfl, s1 _ _ ha, by rw [r.length]; exact sm_lt hz, ?_⟩
      exact q2 _ _ _ (mutL hF (hs1.same s1) e1 e2 (s1 _ _ ha) ((r.same s1).append (.cons p .nil)))
    · rw [if_neg hz] at q2; exact q2.elim
/-- xs.extend(e): e a list -/
def exS (i : Nat) (ρ : Env) (m : Res D) : SR := ownL i ρ fun ds => onE m ρ fun d => match d with
  | .list es => if sm (ds.length + es.length) then .nx (ρ.set i (some (true, .list (ds ++ es)))) else .st
  | _ => .st
theorem list_extend_any (l : Addr) (items : Array Value) (n : Nat) (b : Addr) (items2 : Array Value) (n2 : Nat) (sl2 : Array (Option Value)) (hc0 : ¬(!items.isEmpty && Builtin.List.listTooLong (items.size + items2.size)) = true) (hc1 : items.size ≤ sizeLine) (hs2 : items.size + items2.size ≤ sizeLine + 1) :
    Meets (Builtin.«list.extend» ⟨[.ref l, .ref b], []⟩) (fun _ R s => s.heap.get? l = some { cls := .type "list", dict := none, data := .seq items n, slots := #[] } ∧ s.heap.get? b = some { cls := .type "list", dict := none, data := .seq items2 n2, slots := sl2 } ∧ R (.ok (.ret Value.none)) { s with heap := s.heap.update l (Obj.mapSeq fun x => x ++ items2), toks := s.toks }) :=
  .of_wp fun prog w A R s h => by
    obtain ⟨hp, g, d, tk, os⟩ := s; obtain ⟨hl, hb, h⟩ := h; have f1 := AutoSeq1.idx_int; have f2 := AutoSeq1.sub_tuple_tuple; have f3 := AutoSeq1.sub_list_list; have f4 := AutoSeq1.sub_tuple_list; have f5 := AutoSeq1.sub_list_tuple;
    have hz' : (items ++ items2).size ≤ sizeLine + 1 := by rw [Array.size_append]; exact hs2
    wp_walk using (wpAny_updateSeq hl rfl (hz := hc1) (_hz' := hz')), AutoSeq1.wpAny_loadPart' hl, AutoSeq1.wpAny_loadPart' hb; exact ⟨_, rfl, h⟩
theorem mt_extendA {X : Cx} : MtR X "list.extend" (fun x vs H Q => ∃ l b xs zs, x = .ref l ∧ vs = [.ref b] ∧ H l = some (.lst xs) ∧ SqL X.K H b zs ∧ xs.length + zs.length ≤ sizeLine ∧ Q .non (upd H l (.lst (xs ++ zs)))) := by
  intro pins s σ H x vs v us Q I rx rv h
  obtain ⟨l, b, xs, zs, rfl, rfl, hH, hB, hz, q⟩ := h
  cases rx
  obtain ⟨u, rfl, ru⟩ := rv.one
  cases ru
  obtain ⟨z, its, n, r, hl, e⟩ := I.lstM hH
  obtain ⟨its2, r2, ⟨⟨c1, d1, t1, sl1⟩, n2, e2, hc, hd, hs⟩, hl2'⟩ := I.list hB
  simp only at hc hd hs
  subst hc hd hs
  have hl2 := r2.length
  have hsz : its.toArray.size + its2.toArray.size ≤ sizeLine := by rw [List.size_toArray, List.size_toArray]; omega
  have hlong : ¬ (!its.toArray.isEmpty && Builtin.List.listTooLong (its.toArray.size + its2.toArray.size)) = true := by
    rw [notLongL hsz, Bool.and_false]
    exact Bool.false_ne_true
  refine call_meets F.slot_list_extend ⟨_, e, rfl⟩ F.entry_list_extend (F.args_list_extend_2 _ _)
    (list_extend_any l its.toArray n b its2.toArray n2 sl1 hlong (by rw [List.size_toArray]; omega) (by omega)) ⟨e, e2, ?_⟩
  refine ⟨.non, _, I.lset (its' := its ++ its2) hH e (by simp) (r.append r2) ?_, rfl, q⟩
  rw [List.length_append]
  omega
theorem s_extend {i : Nat} {x : Str} {p apos cpos : Pos} (is : List Nat) (hi : c.N[i]? = some x) (hv : Vis c.sc x) (hd : (x == ("__debug__" : Str)) = false) (hcd : (x == ("__classdict__" : Str)) = false) (he : SE c e fe) (hn : notStar e = true) (hline : (apos.endLine == cpos.line) = true) :
    SS c (.Expr (.Call (.Attribute (.Name x p) "extend" apos) [e] [] cpos) pos) (fun Φ ρ => exS i (dis is ρ) (fe Φ (dis is ρ))) := fun X Φ W ok tk hp =>
  psI (ps_expr (pe_bm PySem.F.plainAttrs_list PySem.F.slot_list_extend PySem.F.type_list_extend mt_extendA (pe_var (i := i) (by rw [ok.hN]; exact hi) (by rw [ok.sc]; exact hv) hd hcd) (pa_cons (he X Φ W ok tk) pa_nil (star_of hn _ _)) rfl (few1 hn) hline (star_of hn _ _) rfl)) fun Dn σ H ⟨F, O, ρ, hF, hs, q⟩ => by
    obtain ⟨O1, hs1⟩ := hs.dis hF is
    obtain ⟨ds, a, xs, e0, e1, e2, ha, r, q1⟩ := ownL_get hs1 q
    refine ⟨.ref a, e1, .inl ⟨rfl, xs, .inl (.inl ha)⟩, _, O1, _, hs1.aok hF, hs1.env, rt_onE q1 hs1 fun d v H1 s1 p q2 => ?_⟩
    cases d with
    | list es =>
      have q2 : RtS X.K X.mg W F Dn (if sm (ds.length + es.length) then .nx ((dis is ρ).set i (some (true, .list (ds ++ es)))) else .st) := q2
      by_cases hz : sm (ds.length + es.length) = true
      · rw [if_pos hz] at q2
        cases p with
        | @lst b ys _ hb rb =>
          refine ⟨a, b, xs, ys, rfl, rfl, s1 _ _ ha, hb.sq, by rw [r.length, rb.length]; exact sm_le hz, ?_⟩
          exact q2 _ _ _ (mutL hF (hs1.same s1) e1 e2 (s1 _ _ ha) ((r.same s1).append rb))
      · rw [if_neg hz] at q2; exact q2.elim
    | _ => exact q2.elim
/-- xs.remove(e): whole numbers -/
def remS (i : Nat) (ρ : Env) (m : Res D) : SR := ownL i ρ fun ds => onE m ρ fun d => match intsOf ds, d with
  | some ns, .int k => if k ∈ ns then .nx (ρ.set i (some (true, .list ((ns.erase k).map PyData.int)))) else .st
  | _, _ => .st
theorem rpl_int {K : PySem.W.Frag} {H : Hp} {A : List Addr} : ∀ ns : List Int, RpL K H A (ns.map V.int) (ns.map PyData.int)
  | [] => .nil
  | n :: ns => .cons (.int n) (rpl_int ns)
theorem s_remove {i : Nat} {x : Str} {p apos cpos : Pos} (is : List Nat) (hi : c.N[i]? = some x) (hv : Vis c.sc x) (hd : (x == ("__debug__" : Str)) = false) (hcd : (x == ("__classdict__" : Str)) = false) (he : SE c e fe) (hn : notStar e = true) (hline : (apos.endLine == cpos.line) = true) :
    SS c (.Expr (.Call (.Attribute (.Name x p) "remove" apos) [e] [] cpos) pos) (fun Φ ρ => remS i (dis is ρ) (fe Φ (dis is ρ))) := fun X Φ W ok tk hp =>
  psI (ps_expr (pe_bm PySem.F.plainAttrs_list PySem.F.slot_list_remove PySem.F.type_list_remove mt_remove (pe_var (i := i) (by rw [ok.hN]; exact hi) (by rw [ok.sc]; exact hv) hd hcd) (pa_cons (he X Φ W ok tk) pa_nil (star_of hn _ _)) rfl (few1 hn) hline (star_of hn _ _) rfl)) fun Dn σ H ⟨F, O, ρ, hF, hs, q⟩ => by
    obtain ⟨O1, hs1⟩ := hs.dis hF is
    obtain ⟨ds, a, xs, e0, e1, e2, ha, r, q1⟩ := ownL_get hs1 q
    refine ⟨.ref a, e1, .inl ⟨rfl, xs, .inl (.inl ha)⟩, _, O1, _, hs1.aok hF, hs1.env, rt_onE q1 hs1 fun d v H1 s1 p q2 => ?_⟩
    cases hz : intsOf ds with
    | none => rw [hz] at q2; exact q2.elim
    | some ns =>
      rw [hz] at q2
      cases d with
      | int k =>
        have q2 : RtS X.K X.mg W F Dn (if k ∈ ns then .nx ((dis is ρ).set i (some (true, .list ((ns.erase k).map PyData.int)))) else .st) := q2
        by_cases hk : k ∈ ns
        · rw [if_pos hk] at q2
          have e3 := intsOf_eq hz
          subst e3
          have e4 := r.ints
          subst e4
          cases p
          have hlt : ns.idxOf k < ns.length := List.idxOf_lt_length_iff.mpr hk
          refine ⟨a, ns, k, ns.idxOf k, rfl, rfl, s1 _ _ ha, ?_, fun m hm e => ?_, ?_⟩
          · rw [List.getElem?_eq_getElem hlt, List.getElem_idxOf hlt]
          · have hml : m < ns.length := by omega
            rw [List.getElem?_eq_getElem hml] at e
            have := List.not_of_lt_findIdx (p := (· == k)) (xs := ns) (i := m) hm
            have e5 : ns[m] = k := Option.some.inj e
            rw [e5] at this
            simp at this
          · have e5 : ns.eraseIdx (ns.idxOf k) = ns.erase k := (List.erase_eq_eraseIdx_of_idxOf rfl).symm
            rw [e5]
            exact q2 _ _ _ (mutL hF (hs1.same s1) e1 e2 (s1 _ _ ha) (rpl_int _))
        · rw [if_neg hk] at q2; exact q2.elim
      | _ => exact q2.elim
/-- xs[k] = e -/
def setS (i : Nat) (ρ : Env) (m : Res D) (mk : Res D) : SR := ownL i ρ fun ds => onE m ρ fun d => onE mk ρ fun k => match k with
  | .int k => match ixN ds.length k with
    | some j => .nx (ρ.set i (some (true, .list (ds.set j d))))
    | none => .st
  | _ => .st
theorem s_store {i : Nat} {x : Str} {p : Pos} (is : List Nat) (hi : c.N[i]? = some x) (hv : Vis c.sc x) (hd : (x == ("__debug__" : Str)) = false) (hcd : (x == ("__classdict__" : Str)) = false) (he : SE c e fe) (hk : SE c a fa)
    (hw : ∀ env, swapsWithSole [.Subscript (.Name x p) a pos'] e pos.line env = pure false)
    (ha : ∀ env v, assign (.Subscript (.Name x p) a pos') env v = (do
      let ov ← holding [v] (eval (.Name x p) env)
      let iv ← holding [v, ov] (eval a env)
      standAt pos'
      holding [v, ov, iv] (setItem ov iv v)
      release [v, ov, iv] [])) :
    SS c (.Assign [.Subscript (.Name x p) a pos'] e pos) (fun Φ ρ => setS i (dis is ρ) (fe Φ (dis is ρ)) (fa Φ (dis is ρ))) := fun X Φ W ok tk hp =>
  psI (ps_asg (he X Φ W ok tk) (pg_sub (pe_var (i := i) (by rw [ok.hN]; exact hi) (by rw [ok.sc]; exact hv) hd hcd) (hk X Φ W ok tk) set_list (ha _)) (hw _) rfl rfl) fun Dn σ H ⟨F, O, ρ, hF, hs, q⟩ => by
    obtain ⟨O1, hs1⟩ := hs.dis hF is
    have q : RtS X.K X.mg W F Dn (setS i (dis is ρ) (fe Φ (dis is ρ)) (fa Φ (dis is ρ))) := q
    obtain ⟨ds, a, xs, e0, e1, e2, hl, r, q1⟩ := ownL_get hs1 q
    refine ⟨_, O1, _, hs1.aok hF, hs1.env, rt_onE q1 hs1 fun d v H1 s1 p1 q2 => ?_⟩
    have hs2 := hs1.same s1
    refine ⟨.ref a, e1, _, O1, _, hs2.aok hF, hs2.env, rt_onE q2 hs2 fun k vk H2 s2 p2 q3 => ?_⟩
    have hs3 := hs2.same s2
    cases k with
    | int k =>
      cases p2
      cases hj : ixN ds.length k with
      | none => simp only [hj] at q3; exact q3.elim
      | some j =>
        simp only [hj] at q3
        have hl3 := s2 _ _ (s1 _ _ hl)
        have r3 := (r.same s1).same s2
        exact ⟨a, xs, k, j, rfl, rfl, hl3, by rw [r3.length]; exact hj, q3 _ _ _ (mutL hF hs3 e1 e2 hl3 (r3.set j (p1.same s2)))⟩
    | _ => exact q3.elim
end
end Pv

end
section
namespace Pv
open PySem PySem.Spec PyProof.Rows L2

/-! ### tuple(reversed(a tuple)) -/
theorem slot_rv_hint : PySem.Slot "reversed" "__length_hint__" "reversed.__length_hint__" := by
  refine .of (owner := "reversed") (n := "__length_hint__") ?_ (by decide +kernel) (by decide +kernel) (by decide +kernel) ?_ ?_
  · rw [typeLookup_type, builtinLookup_eq_fast]; kernel_rfl
  · exact .inr (by decide +kernel)
  · rw [isSubtype_type]; kernel_rfl
theorem entry_rv_hint : entryFor table "reversed.__length_hint__" = some Builtin.«reversed.__length_hint__» := entryFor_of_tree (by kernel_rfl)
theorem args_rv_hint (a : Value) : argsOk "reversed.__length_hint__" ⟨[a], []⟩ := by
  unfold argsOk
  rw [signature?_of (id := "reversed.__length_hint__") (n := ['_', '_', 't', 'n', 'i', 'h', '_', 'h', 't', 'g', 'n', 'e', 'l', '_', '_']) (o := ['d', 'e', 's', 'r', 'e', 'v', 'e', 'r']) (by kernel_rfl) RT.owner_rt]
  kernel_rfl
theorem nolen_rv : typeLookup (.type "reversed") "__len__" = pure none := by
  rw [typeLookup_type, builtinLookup_eq_fast]; kernel_rfl
section
variable {prog : Program} {w : World} {A : Around} {E : Value → Shared → Prop} {s : Shared}
theorem walks_rv (hh : A.handled = none) (I t : Addr) (hne : t ≠ I) (items : Array Value) (hz : items.size ≤ sizeLine) :
    Walks prog w A I [I, t] [I] items.size (fun i v => items[items.size - 1 - i]? = some v) (fun i h => i ≤ items.size ∧ RT.IsRt h I t ((items.size : Int) - 1 - (i : Int)) ∧ IsTup h t items) where
  sub := fun b hb => by rw [List.mem_singleton.mp hb]; simp
  frame := fun i h h' x hk => ⟨x.1, x.2.1.at fun o e => hk I (by simp) o e, by
    obtain ⟨o, ho, r⟩ := x.2.2
    exact ⟨o, hk t (by simp) o ho, r⟩⟩
  item := fun i s Q E hi x hQ => by
    obtain ⟨_, hit, ht⟩ := x
    rw [show (items.size : Int) - 1 - (i : Int) = ((items.size - 1 - i : Nat) : Int) by omega] at hit
    have hx : items[items.size - 1 - i]? = some (items[items.size - 1 - i]'(by omega)) := Array.getElem?_eq_getElem (by omega)
    refine RT.next_rt_item hit ht hx hz fun h' r sb => ?_
    rw [show ((items.size - 1 - i : Nat) : Int) - 1 = (items.size : Int) - 1 - ((i + 1 : Nat) : Int) by omega] at r
    refine hQ _ h' (s.toks + 1) hx ⟨hi, r, ?_⟩ fun b o hb e => (sb.2 b (fun z => hb (by simp [z]))).trans e
    obtain ⟨o, ho, q⟩ := ht
    exact ⟨o, (sb.2 t hne).trans ho, q⟩
  done := fun s Q E x hQ => by
    obtain ⟨_, hit, ht⟩ := x
    rw [show (items.size : Int) - 1 - (items.size : Int) = -1 by omega] at hit
    exact RT.next_rt_end hh hit fun h' eb => hQ h' s.toks fun b o hb e => eb b o (fun z => hb (by simp [z])) e
  self := fun i s Q E x h => RT.iter_rt x.2.1 h
theorem hint_rv {I t : Addr} {items : Array Value} {Q : Bool → Shared → Prop} (hit : RT.IsRt s.heap I t ((items.size : Int) - 1)) (ht : IsTup s.heap t items) (hz : items.size ≤ sizeLine)
    (hQ : ∀ b tk, Q b { s with toks := tk }) : wpAny (model prog w) A (Builtin.List.listLengthHint (.ref I)) Q E s := by
  obtain ⟨o, ho, hc, hd⟩ := id hit
  have hn := line63
  unfold Builtin.List.listLengthHint
  refine wpAny_bind (wpAny_specialOf hit.typeIs nolen_rv ?_)
  refine wpAny_bind (wpAny_specialOf hit.typeIs slot_rv_hint.lookup ?_)
  generalize hid : ("reversed.__length_hint__" : String) = id0
  wp_delta
  rw [show splitId id0 = some ("reversed", "__length_hint__") from by subst hid; decide +kernel]
  subst hid
  refine wpAny_bind (wpAny_isInstance (b := true) hit.typeIs PySem.F.sub_reversed_self ?_)
  rw [if_neg (by decide)]
  try dsimp only
  rw [if_neg (by decide +kernel)]
  refine wpAny_bind (wpAny_rule ?_)
  rw [slot_rv_hint.bind]
  refine wpAny_bind (wpAny_pure ?_)
  refine wpAny_bind (wpAny_attempt (wpAny_call_entry slot_rv_hint hit.typeIs entry_rv_hint ?_ (args_rv_hint _)))
  unfold Builtin.«reversed.__length_hint__»
  refine wpAny_bind (wpAny_of_eq (a := Value.ref I) rfl ?_)
  try dsimp only
  refine wpAny_bind (wpAny_field ho hd (x := .ref t) rfl ?_)
  try dsimp only
  rw [if_neg (by simp)]
  have hsz : (items.size : Int) < 2 ^ 63 := by omega
  refine wpAny_bind (len_tuple ht hsz ?_)
  refine wpAny_bind (wpAny_of_eq (a := some ((items.size : Nat) : Int)) rfl ?_)
  try dsimp only
  refine wpAny_bind (wpAny_field (s := { s with toks := s.toks + 1 + 1 }) ho hd (x := rawInt ((items.size : Int) - 1)) rfl ?_)
  show wpAny _ _ (if (items.size : Int) < (items.size : Int) - 1 + 1 then _ else _) _ _ _
  rw [if_neg (by omega)]
  unfold retInt
  refine wpAny_bind (wpAny_mkInt ?_)
  refine wpAny_pure ⟨_, rfl, ?_⟩
  try dsimp only
  refine wpAny_bind (wpAny_of_eq (a := some ((items.size : Int) - 1 + 1)) rfl ?_)
  try dsimp only
  rw [if_neg (by unfold Builtin.List.listFitsIndex; simp; omega), if_neg (by omega), if_neg (by unfold Builtin.List.listTooLong; simp; omega)]
  exact wpAny_pure (hQ _ _)
abbrev revIt (items : Array Value) : Nat → Value → Prop := fun i v => items[items.size - 1 - i]? = some v
abbrev RvOut (s : Shared) (it : Addr) (items : Array Value) (h' : Heap) (acc : Array Value) : Prop := (∀ b o, b ≠ it → s.heap.get? b = some o → h'.get? b = some o) ∧ ItemsOf (revIt items) acc items.size
theorem collect_rv {it t : Addr} {items : Array Value} {Q : List Value → Shared → Prop} (hh : A.handled = none) (hit : RT.IsRt s.heap it t ((items.size : Int) - 1)) (ht : IsTup s.heap t items) (hne : t ≠ it) (hn : items.size ≤ sizeLine)
    (hQ : ∀ (h' : Heap) (tk : Nat) (acc : Array Value), RvOut s it items h' acc → Q acc.toList { s with heap := h', toks := tk }) : wpAny (model prog w) A (collect (.ref it)) Q E s := by
  have W := (walks_rv (prog := prog) (w := w) (A := A.in1) hh it t hne items hn).toS
  obtain ⟨oi, hoi, _⟩ := id hit
  obtain ⟨ot, hot, _⟩ := id ht
  have hSi := Nat.ne_of_gt (Heap.lt_size hoi)
  have hSt := Nat.ne_of_gt (Heap.lt_size hot)
  have hSf : s.heap.objs.size ∉ [it, t] := fun z => (List.mem_cons.mp z).elim hSi fun z => hSt (List.mem_singleton.mp z)
  unfold collect
  refine wpAny_bind (wpAny_runValue (codeAny_builtin F.entry_proto_collect ?_))
  rw [Around.under_plainId F.plain_proto_collect _]
  show wpAny _ A.in1 (newList [] >>= fun l' => again (.builtin "list.__iadd__" ⟨[l', .ref it], []⟩)) _ _ s
  refine wpAny_bind (wpAny_newObj_type (wpAny_pure ⟨plainId_quiet F.plain_list_iadd _, codeAny_builtin F.entry_list_iadd ?_⟩))
  rw [Around.under_plainId F.plain_list_iadd _]
  obtain ⟨s1, hs1⟩ : ∃ s1 : Shared, s1 = { s with heap := s.heap.push { cls := .type "list", data := .seq ([] : List Value).toArray } } := ⟨_, rfl⟩
  have k0 : ∀ b o, s.heap.get? b = some o → s1.heap.get? b = some o := fun b o e => by rw [hs1]; exact Heap.get?_push_of_some _ e
  have hS1 : s1.heap.get? s.heap.objs.size = some { cls := .type "list", data := .seq ([] : List Value).toArray } := by rw [hs1]; exact Heap.get?_push_size _ rfl
  have hit1 : RT.IsRt s1.heap it t ((items.size : Int) - 1) := hit.at fun o e => k0 _ o e
  have ht1 : IsTup s1.heap t items := by
    obtain ⟨o, ho, r⟩ := ht
    exact ⟨o, k0 _ o ho, r⟩
  rw [← hs1]
  show wpAny _ A.in1 (Builtin.List.listExtendWith (.ref s.heap.objs.size) (.ref it) (.ref s.heap.objs.size)) _ _ s1
  unfold Builtin.List.listExtendWith
  refine wpAny_bind (wpAny_typeOf hit1.typeIs ?_)
  have h1 : Builtin.List.listSameRef (.ref s.heap.objs.size) (.ref it) = false := by simp [Builtin.List.listSameRef, hSi]
  rw [if_neg (by rw [h1]; decide)]
  refine wpAny_bind (RT.iter_rt hit1 ?_)
  refine wpAny_bind (wpAny_holding (hint_rv hit1 ht1 hn fun b tk => ?_))
  have fin : ∀ (h2 : Heap) (tk : Nat) (c : Nat), h2.get? s.heap.objs.size = some { cls := .type "list", dict := none, data := .seq #[] c, slots := #[] } → (∀ b o, b ≠ s.heap.objs.size → s1.heap.get? b = some o → h2.get? b = some o) →
      ∀ (R : Except Value Flow → Shared → Prop), (∀ (h' : Heap) (tk : Nat) (acc : Array Value) (c' : Nat), RvOut s it items h' acc → h'.get? s.heap.objs.size = some { cls := .type "list", dict := none, data := .seq acc c', slots := #[] } → R (.ok (.ret (.ref s.heap.objs.size))) { s with heap := h', toks := tk }) →
      codeAny (model prog w) A (.builtin "list.extend.loop" ⟨[.ref s.heap.objs.size, .ref it, .ref s.heap.objs.size], []⟩) R { s with heap := h2, toks := tk } := fun h2 tk c hS2 k2 R hR => by
    have hit2 : RT.IsRt h2 it t ((items.size : Int) - 1) := hit1.at fun o e => k2 _ o hSi.symm e
    have ht2 : IsTup h2 t items := by
      obtain ⟨o, ho, r⟩ := ht1
      exact ⟨o, k2 _ o hSt.symm ho, r⟩
    refine codeAny_extend_loopS W hn _ hSf _ items.size 0 _ _ c rfl (Nat.zero_le _) ⟨Nat.zero_le _, by rw [show (items.size : Int) - 1 - ((0 : Nat) : Int) = (items.size : Int) - 1 by omega]; exact hit2, ht2⟩ hS2 (ItemsOf.nil _) fun s' acc c' hm hS' hacc => ?_
    have e := Moved.eq_with hm
    rw [e]
    refine hR s'.heap s'.toks acc c' ⟨fun b o hb z => ?_, hacc⟩ hS'
    have hbS : b ≠ s.heap.objs.size := fun q => absurd (Heap.lt_size z) (by rw [q]; exact Nat.lt_irrefl _)
    exact hm.heap b o (fun q => (List.mem_cons.mp q).elim hbS fun q => hb (List.mem_singleton.mp q)) (k2 b o hbS (k0 b o z))
  have load : ∀ (h' : Heap) (tk : Nat) (acc : Array Value) (c' : Nat), RvOut s it items h' acc → h'.get? s.heap.objs.size = some { cls := .type "list", dict := none, data := .seq acc c', slots := #[] } → wpAny (model prog w) A (load s.heap.objs.size >>= fun o => match o.data with | .seq xs epoch => pure xs.toList | x => unsupported "internal:collect") Q E { s with heap := h', toks := tk } := fun h' tk acc c' r hS' => by
    refine wpAny_bind (wpAny_load hS' ?_)
    exact wpAny_pure (hQ h' tk acc r)
  have es1 : s1 = { s with heap := s1.heap, toks := s.toks } := by rw [hs1]
  cases b with
  | true =>
    rw [if_pos (by decide +kernel)]
    refine wpAny_bind (wpAny_rule (wpAny_bind ?_))
    show wpAny _ A.in1 (updateSeq s.heap.objs.size (·.push .none) >>= fun _ => updateSeq s.heap.objs.size (·.pop)) _ _ _
    refine wpAny_bind (wpAny_updateSeq (s := { s1 with toks := tk }) hS1 rfl ?_)
    have hS2 := Heap.get?_update_self (Obj.mapSeq (·.push Value.none)) hS1 rfl
    refine wpAny_updateSeq (s := { s1 with heap := s1.heap.update s.heap.objs.size (Obj.mapSeq (·.push Value.none)), toks := tk }) hS2 rfl ?_
    have hS3 := Heap.get?_update_self (Obj.mapSeq (·.pop)) hS2 rfl
    refine wpAny_pure ⟨plainId_quiet F.plain_extend_loop _, ?_⟩
    have e1 : ({ s1 with heap := (s1.heap.update s.heap.objs.size (Obj.mapSeq (·.push Value.none))).update s.heap.objs.size (Obj.mapSeq (·.pop)), toks := tk } : Shared) = { s with heap := (s1.heap.update s.heap.objs.size (Obj.mapSeq (·.push Value.none))).update s.heap.objs.size (Obj.mapSeq (·.pop)), toks := tk } := by rw [es1]
    refine e1 ▸ fin _ tk _ hS3 (fun b o hb e => (Heap.get?_update_other _ _ (Ne.symm hb)).trans ((Heap.get?_update_other _ _ (Ne.symm hb)).trans e)) _ fun h' tk acc c' r hS' => ?_
    exact load h' tk acc c' r hS'
  | false =>
    rw [if_neg (by decide +kernel)]
    refine wpAny_pure ⟨plainId_quiet F.plain_extend_loop _, ?_⟩
    have e1 : ({ s1 with toks := tk } : Shared) = { s with heap := s1.heap, toks := tk } := by rw [es1]
    refine e1 ▸ fin _ tk _ hS1 (fun b o hb e => e) _ fun h' tk acc c' r hS' => ?_
    exact load h' tk acc c' r hS'
theorem tuple_new_rv {it t : Addr} {items : Array Value} {Q₁ : Value → Shared → Prop} (hh : A.handled = none) (hit : RT.IsRt s.heap it t ((items.size : Int) - 1)) (ht : IsTup s.heap t items) (hne : t ≠ it) (hn : items.size ≤ sizeLine)
    (h : ∀ (h' : Heap) (tk : Nat) (acc : Array Value), RvOut s it items h' acc → Q₁ (.ref h'.objs.size) { s with heap := h'.push { cls := .type "tuple", data := .seq acc }, toks := tk }) :
    codeAny (model prog w) A (.call (.builtin "tuple.__new__") ⟨[.type "tuple", .ref it], []⟩) (wants Q₁ E) s := by
  refine codeAny_of_tree ?_
  show wpAny _ A.in1 (do checkBuiltinCall "tuple.__new__" ⟨[.type "tuple", .ref it], []⟩; again (.builtin "tuple.__new__" ⟨[.type "tuple", .ref it], []⟩)) _ _ s
  refine wpAny_bind (wpAny_of_eq (F.newCall_tuple_1 _) (wpAny_pure ⟨plainId_quiet F.plain_tuple_new _, codeAny_builtin F.entry_tuple_new ?_⟩))
  rw [Around.under_plainId F.plain_tuple_new _]
  have f1 := sub_tuple_self
  have f2 := init_tuple_lookup
  have f3 := madeHere_tuple
  have f4 : s.TypeIs (.ref it) "reversed" := hit.typeIs
  have f5 : A.in1.handled = none := hh
  wp_walk using wpAny_typeOf f4, collect_rv (A := A.in1) f5 hit ht hne hn
  intro h' tk acc hk
  show wpAny _ _ (Builtin.Tuple.tupleExact acc.toList.toArray >>= fun v => ret v) _ _ _
  unfold Builtin.Tuple.tupleExact
  have hsz : acc.toList.toArray.size ≤ sizeLine := by
    rw [Array.toArray_toList, hk.2.1]; exact hn
  refine wpAny_bind (wpAny_newObj_type (wpAny_pure ?_) hsz)
  rw [Array.toArray_toList]
  exact h h' tk acc hk
theorem call_tuple_rv {it t : Addr} {items : Array Value} {Q : Value → Shared → Prop} (hh : A.handled = none) (hit : RT.IsRt s.heap it t ((items.size : Int) - 1)) (ht : IsTup s.heap t items) (hne : t ≠ it) (hn : items.size ≤ sizeLine)
    (hQ : ∀ (h' : Heap) (tk : Nat) (acc : Array Value), RvOut s it items h' acc → Q (.ref h'.objs.size) { s with heap := h'.push { cls := .type "tuple", data := .seq acc }, toks := tk }) : wpAny (model prog w) A (call (.type "tuple") [.ref it]) Q E s := by
  refine callType_codes (Q₁ := fun obj s₁ => s₁.TypeIs obj "tuple" ∧ Q obj s₁) F.called_tuple (F.typeCall_tuple_1 _) F.entry_object_init ?_ fun obj s₁ h₁ => ?_
  · exact tuple_new_rv (A := A.in1) hh hit ht hne hn fun h' tk acc hk => ⟨⟨_, Heap.get?_push_size _ rfl, rfl⟩, hQ h' tk acc hk⟩
  · refine ⟨h₁.1, F.args_object_init_2 obj _, ?_⟩
    exact object_init_meets F.called_tuple.init.lookup F.called_tuple.made (by decide) prog w A.in1 _ s₁ ⟨h₁.1, rfl, h₁.2⟩
end
/-- tuple(reversed(x)), x a list or a tuple -/
def tRevA (K : PySem.W.Frag) (te : TE) : TE := fun σ H Q => te σ H fun v H1 => ∃ (a : Addr) (xs : List V), v = .ref a ∧ (SqL K H1 a xs ∨ SqT K H1 a xs) ∧ ∀ q, H1 q = none → Q (.ref q) (upd H1 q (.tup xs.reverse))
section
variable {X : Cx}
theorem pe_revA {e : Expr} {te : TE} {p p2 pos pos2 : Pos} (hc : X.calm = true) (hg : Gl X "tuple") (hm : X.mg "tuple" = none) (hg2 : Gl X "reversed") (hm2 : X.mg "reversed" = none) (he : PE X e te) (hs : starEach [e] X.env = (false, eval e X.env) :: starEach [] X.env) (hs2 : starEach [.Call (.Name "reversed" p2) [e] [] pos2] X.env = (false, eval (.Call (.Name "reversed" p2) [e] [] pos2) X.env) :: starEach [] X.env) :
    PE X (.Call (.Name "tuple" p) [.Call (.Name "reversed" p2) [e] [] pos2] [] pos) (tRevA X.K te) := by
  refine ⟨fun pins s σ H Q I h => Call_ (ld_blt I hg hm boot_tuple (PyProof.Rows.callWith_type1 (args_cons (Call_ (ld_blt I hg2 hm2 PyProof.Rows.boot_reversed (PyProof.Rows.callWith_type1 (args_cons (thn (he.run pins s σ H _ I h) ?_) hs) hs rfl))) hs2) hs2 rfl))⟩
  rintro u s1 ⟨v, H1, I1, r1, a, xs, ev, hq, q⟩
  refine args_nil ?_
  subst ev
  obtain rfl : u = Value.ref a := r1
  rcases hq with hq | hq
  · obtain ⟨its, rv, p', hz⟩ := I1.list hq
    obtain ⟨f0, f1, f2, f3, f4, f5⟩ := I1.fpOk (H' := H1) (b := s1.heap.objs.size) (Nat.le_refl _) (I1.hok.fresh (Nat.le_refl _))
    have hl := p'.isList
    have hne : a ≠ s1.heap.objs.size := by
      obtain ⟨ol, hol, _⟩ := id hl
      exact Nat.ne_of_lt (Heap.lt_size hol)
    have hn : its.toArray.size ≤ sizeLine := by rw [List.size_toArray, ← rv.length]; exact hz
    refine call_reversed_list p'.isList (args_nil ?_)
    refine RT.call_tuple_rev (s := { s1 with heap := s1.heap.push (revObj a ((its.toArray.size : Int) - 1)) }) (I1.ok.hd hc) ⟨_, Heap.get?_push_size _ rfl, rfl, rfl⟩ (hl.push _) hne hn fun h' tk acc hk hi => ?_
    have I2 : Inv X pins σ H1 { s1 with heap := s1.heap.push (revObj a ((its.toArray.size : Int) - 1)) } := I1.kept (t' := s1.toks) fun b o e => Heap.get?_push_of_some _ e
    have I3 : Inv X pins σ H1 { s1 with heap := h', toks := tk } := I2.turned (t' := tk) (fun b o hb e => hk b o hb e) f0 f1 f3 f4 f5
    have new : ObjOk X.prog X.w (upd H1 h'.objs.size (.tup xs.reverse)) (h'.push { cls := .type "tuple", data := .seq acc }) h'.objs.size (.tup xs.reverse) := ⟨by rw [List.length_reverse]; exact hz, acc.toList, RT.vals_rev rv hi, by rw [Array.toArray_toList]; exact IsTup.new _ _⟩
    exact ⟨.ref h'.objs.size, _, I3.laid (t' := tk) (fun c o e => Heap.get?_push_of_some _ e) (Nat.le_refl _) new, rfl, q _ (I3.hok.fresh (Nat.le_refl _))⟩
  · obtain ⟨its, rv, p', hz⟩ := I1.tuple hq
    have hn := line63
    have hl := rv.length
    obtain ⟨f0, f1, f2, f3, f4, f5⟩ := I1.fpOk (H' := H1) (b := s1.heap.objs.size) (Nat.le_refl _) (I1.hok.fresh (Nat.le_refl _))
    have hne : a ≠ s1.heap.objs.size := by
      obtain ⟨ol, hol, _⟩ := id p'
      exact Nat.ne_of_lt (Heap.lt_size hol)
    have hn2 : its.toArray.size ≤ sizeLine := by rw [List.size_toArray, ← rv.length]; exact hz
    have hfit : (its.toArray.size : Int) < 2 ^ 63 := by omega
    refine RT.call_reversed_tup p' (fun A E Q k => len_tuple p' hfit k) ?_
    refine args_nil ?_
    have ht2 : IsTup (s1.heap.push (RT.rtObj a ((its.toArray.size : Int) - 1))) a its.toArray := by
      obtain ⟨o, ho, r⟩ := p'
      exact ⟨o, Heap.get?_push_of_some _ ho, r⟩
    refine call_tuple_rv (s := { s1 with heap := s1.heap.push (RT.rtObj a ((its.toArray.size : Int) - 1)), toks := s1.toks + 1 + 1 }) (I1.ok.hd hc) ⟨_, Heap.get?_push_size _ rfl, rfl, rfl⟩ ht2 hne hn2 fun h' tk acc hk => ?_
    have I2 : Inv X pins σ H1 { s1 with heap := s1.heap.push (RT.rtObj a ((its.toArray.size : Int) - 1)), toks := s1.toks + 1 + 1 } := I1.kept (t' := s1.toks + 1 + 1) fun b o e => Heap.get?_push_of_some _ e
    have I3 : Inv X pins σ H1 { s1 with heap := h', toks := tk } := I2.turned (t' := tk) (fun b o hb e => hk.1 b o hb e) f0 f1 f3 f4 f5
    have new : ObjOk X.prog X.w (upd H1 h'.objs.size (.tup xs.reverse)) (h'.push { cls := .type "tuple", data := .seq acc }) h'.objs.size (.tup xs.reverse) := ⟨by rw [List.length_reverse]; exact hz, acc.toList, RT.vals_rev rv hk.2, by rw [Array.toArray_toList]; exact IsTup.new _ _⟩
    exact ⟨.ref h'.objs.size, _, I3.laid (t' := tk) (fun c o e => Heap.get?_push_of_some _ e) (Nat.le_refl _) new, rfl, q _ (I3.hok.fresh (Nat.le_refl _))⟩
end
end Pv

end
section
namespace Pv
open PySem PySem.Spec PyProof.Rows L2

/-- tuple(reversed(x)), x a list or a tuple -/
def tRevE (K : PySem.W.Frag) (te : TE) : TE := fun σ H Q => te σ H fun v H1 => ∃ (a : Addr) (xs : List V), v = .ref a ∧ (SqL K H1 a xs ∨ SqT K H1 a xs) ∧ Kt Q H1 xs.reverse
section
variable {X : Cx}
theorem pe_revE {e : Expr} {te : TE} {p p2 pos pos2 : Pos} (hc : X.calm = true) (hg : Gl X "tuple") (hm : X.mg "tuple" = none) (hg2 : Gl X "reversed") (hm2 : X.mg "reversed" = none) (he : PE X e te) (hs : starEach [e] X.env = (false, eval e X.env) :: starEach [] X.env) (hs2 : starEach [.Call (.Name "reversed" p2) [e] [] pos2] X.env = (false, eval (.Call (.Name "reversed" p2) [e] [] pos2) X.env) :: starEach [] X.env) :
    PE X (.Call (.Name "tuple" p) [.Call (.Name "reversed" p2) [e] [] pos2] [] pos) (tRevE X.K te) := by
  refine ⟨fun pins s σ H Q I h => Call_ (ld_blt I hg hm boot_tuple (PyProof.Rows.callWith_type1 (args_cons (Call_ (ld_blt I hg2 hm2 PyProof.Rows.boot_reversed (PyProof.Rows.callWith_type1 (args_cons (thn (he.run pins s σ H _ I h) ?_) hs) hs rfl))) hs2) hs2 rfl))⟩
  rintro u s1 ⟨v, H1, I1, r1, a, xs, ev, hq, q⟩
  refine args_nil ?_
  subst ev
  obtain rfl : u = Value.ref a := r1
  rcases hq with hq | hq
  · obtain ⟨its, rv, p', hz⟩ := I1.list hq
    obtain ⟨f0, f1, f2, f3, f4, f5⟩ := I1.fpOk (H' := H1) (b := s1.heap.objs.size) (Nat.le_refl _) (I1.hok.fresh (Nat.le_refl _))
    have hl := p'.isList
    have hne : a ≠ s1.heap.objs.size := by
      obtain ⟨ol, hol, _⟩ := id hl
      exact Nat.ne_of_lt (Heap.lt_size hol)
    have hn : its.toArray.size ≤ sizeLine := by rw [List.size_toArray, ← rv.length]; exact hz
    refine call_reversed_list p'.isList (args_nil ?_)
    refine RT.call_tuple_rev (s := { s1 with heap := s1.heap.push (revObj a ((its.toArray.size : Int) - 1)) }) (I1.ok.hd hc) ⟨_, Heap.get?_push_size _ rfl, rfl, rfl⟩ (hl.push _) hne hn fun h' tk acc hk hi => ?_
    have I2 : Inv X pins σ H1 { s1 with heap := s1.heap.push (revObj a ((its.toArray.size : Int) - 1)) } := I1.kept (t' := s1.toks) fun b o e => Heap.get?_push_of_some _ e
    have I3 : Inv X pins σ H1 { s1 with heap := h', toks := tk } := I2.turned (t' := tk) (fun b o hb e => hk b o hb e) f0 f1 f3 f4 f5
    exact fin_tup (s := { s1 with heap := h', toks := tk }) (tk := tk) I3 (Nat.le_refl _) (fun c o e => Heap.get?_push_of_some _ e) (Heap.get?_push_size _ rfl) (by rw [List.length_reverse]; exact hz) (RT.vals_rev rv hi) q
  · obtain ⟨its, rv, p', hz⟩ := I1.tuple hq
    have hn := line63
    have hl := rv.length
    obtain ⟨f0, f1, f2, f3, f4, f5⟩ := I1.fpOk (H' := H1) (b := s1.heap.objs.size) (Nat.le_refl _) (I1.hok.fresh (Nat.le_refl _))
    have hne : a ≠ s1.heap.objs.size := by
      obtain ⟨ol, hol, _⟩ := id p'
      exact Nat.ne_of_lt (Heap.lt_size hol)
    have hn2 : its.toArray.size ≤ sizeLine := by rw [List.size_toArray, ← rv.length]; exact hz
    have hfit : (its.toArray.size : Int) < 2 ^ 63 := by omega
    refine RT.call_reversed_tup p' (fun A E Q k => len_tuple p' hfit k) ?_
    refine args_nil ?_
    have ht2 : IsTup (s1.heap.push (RT.rtObj a ((its.toArray.size : Int) - 1))) a its.toArray := by
      obtain ⟨o, ho, r⟩ := p'
      exact ⟨o, Heap.get?_push_of_some _ ho, r⟩
    refine call_tuple_rv (s := { s1 with heap := s1.heap.push (RT.rtObj a ((its.toArray.size : Int) - 1)), toks := s1.toks + 1 + 1 }) (I1.ok.hd hc) ⟨_, Heap.get?_push_size _ rfl, rfl, rfl⟩ ht2 hne hn2 fun h' tk acc hk => ?_
    have I2 : Inv X pins σ H1 { s1 with heap := s1.heap.push (RT.rtObj a ((its.toArray.size : Int) - 1)), toks := s1.toks + 1 + 1 } := I1.kept (t' := s1.toks + 1 + 1) fun b o e => Heap.get?_push_of_some _ e
    have I3 : Inv X pins σ H1 { s1 with heap := h', toks := tk } := I2.turned (t' := tk) (fun b o hb e => hk.1 b o hb e) f0 f1 f3 f4 f5
    exact fin_tup (s := { s1 with heap := h', toks := tk }) (tk := tk) I3 (Nat.le_refl _) (fun c o e => Heap.get?_push_of_some _ e) (Heap.get?_push_size _ rfl) (by rw [List.length_reverse]; exact hz) (RT.vals_rev rv hk.2) q
end
end Pv

end
section
namespace Pv
open PySem PySem.Spec PyProof.Rows L2

/-! ### isinstance -/
inductive Cl where
  | bool | int | str | list | tuple
  deriving DecidableEq
def Cl.nm : Cl → String
  | .bool => "bool" | .int => "int" | .str => "str" | .list => "list" | .tuple => "tuple"
def Cl.sn : Cl → Str
  | .bool => "bool" | .int => "int" | .str => "str" | .list => "list" | .tuple => "tuple"
def tyN : D → String
  | .none => "NoneType" | .bool _ => "bool" | .int _ => "int" | .str _ => "str" | .list _ => "list" | .tuple _ => "tuple" | .dict _ => "dict"
def isiop (k : Cl) : D → Bool
  | .none => false
  | .bool _ => match k with | .bool => true | .int => true | _ => false
  | .int _ => match k with | .int => true | _ => false
  | .str _ => match k with | .str => true | _ => false
  | .list _ => match k with | .list => true | _ => false
  | .tuple _ => match k with | .tuple => true | _ => false
  | .dict _ => false
theorem kit_isi (k : Cl) (d : D) : kitB (tyN d) k.nm = some (isiop k d) := by
  cases d <;> cases k <;> first
    | exact (by decide +kernel : kitB "NoneType" "bool" = some false)
    | exact (by decide +kernel : kitB "NoneType" "int" = some false)
    | exact (by decide +kernel : kitB "NoneType" "str" = some false)
    | exact (by decide +kernel : kitB "NoneType" "list" = some false)
    | exact (by decide +kernel : kitB "NoneType" "tuple" = some false)
    | exact (by decide +kernel : kitB "bool" "bool" = some true)
    | exact (by decide +kernel : kitB "bool" "int" = some true)
    | exact (by decide +kernel : kitB "bool" "str" = some false)
    | exact (by decide +kernel : kitB "bool" "list" = some false)
    | exact (by decide +kernel : kitB "bool" "tuple" = some false)
    | exact (by decide +kernel : kitB "int" "bool" = some false)
    | exact (by decide +kernel : kitB "int" "int" = some true)
    | exact (by decide +kernel : kitB "int" "str" = some false)
    | exact (by decide +kernel : kitB "int" "list" = some false)
    | exact (by decide +kernel : kitB "int" "tuple" = some false)
    | exact (by decide +kernel : kitB "str" "bool" = some false)
    | exact (by decide +kernel : kitB "str" "int" = some false)
    | exact (by decide +kernel : kitB "str" "str" = some true)
    | exact (by decide +kernel : kitB "str" "list" = some false)
    | exact (by decide +kernel : kitB "str" "tuple" = some false)
    | exact (by decide +kernel : kitB "list" "bool" = some false)
    | exact (by decide +kernel : kitB "list" "int" = some false)
    | exact (by decide +kernel : kitB "list" "str" = some false)
    | exact (by decide +kernel : kitB "list" "list" = some true)
    | exact (by decide +kernel : kitB "list" "tuple" = some false)
    | exact (by decide +kernel : kitB "tuple" "bool" = some false)
    | exact (by decide +kernel : kitB "tuple" "int" = some false)
    | exact (by decide +kernel : kitB "tuple" "str" = some false)
    | exact (by decide +kernel : kitB "tuple" "list" = some false)
    | exact (by decide +kernel : kitB "tuple" "tuple" = some true)
    | exact (by decide +kernel : kitB "dict" "bool" = some false)
    | exact (by decide +kernel : kitB "dict" "int" = some false)
    | exact (by decide +kernel : kitB "dict" "str" = some false)
    | exact (by decide +kernel : kitB "dict" "list" = some false)
    | exact (by decide +kernel : kitB "dict" "tuple" = some false)
theorem ty_of {K : PySem.W.Frag} {H : Hp} {A : List Addr} {v : V} {d : D} (nd : ∀ es, d ≠ .dict es) (h : RpB K H A v d) : TyX K H v (.type (tyN d)) := by
  cases d with
  | none => cases (show Rp K H A v .none from h); exact .base .non
  | bool b => cases (show Rp K H A v (.bool b) from h); exact .base (.bl _)
  | int i => cases (show Rp K H A v (.int i) from h); exact .base (.int _)
  | str i => cases (show Rp K H A v (.str i) from h); exact .base (.str _)
  | list ds =>
    obtain ⟨a, xs, rfl, h, _⟩ := h
    rcases h with (h | ⟨o, h⟩) | ⟨o, its, n, e, c, _⟩
    · exact .base (.lst h)
    · exact .base (.frz h)
    · exact .kList e c
  | tuple ds =>
    obtain ⟨a, xs, rfl, h, _⟩ := h.tuple
    rcases h with ⟨o, h, _⟩ | ⟨o, its, n, e, c, _⟩
    · exact .fTuple h
    · exact .kTuple e c
  | dict es => exact absurd rfl (nd es)
def isiR (k : Cl) : D → Res D
  | .dict _ => .st
  | d => .ok (.bool (isiop k d))
@[simp] theorem isiR_int (k : Cl) (i : Int) : isiR k (.int i) = .ok (.bool (isiop k (.int i))) := id rfl
@[simp] theorem isiR_bool (k : Cl) (i : Bool) : isiR k (.bool i) = .ok (.bool (isiop k (.bool i))) := id rfl
@[simp] theorem isiR_str (k : Cl) (i : Str) : isiR k (.str i) = .ok (.bool (isiop k (.str i))) := id rfl
@[simp] theorem isiR_none (k : Cl) : isiR k .none = .ok (.bool (isiop k .none)) := id rfl
@[simp] theorem isiR_tuple (k : Cl) (i : List D) : isiR k (.tuple i) = .ok (.bool (isiop k (.tuple i))) := id rfl
@[simp] theorem isiR_list (k : Cl) (i : List D) : isiR k (.list i) = .ok (.bool (isiop k (.list i))) := id rfl
section
variable {c : Ctx} {a : Expr} {fa : EvE} {pos p p2 : Pos}
theorem sb_cls (k : Cl) {X : Cx} {Φ : Calls} (ok : Ok c X Φ) (hb : k.sn ∈ c.blts) (hk : c.sc.names.lookup k.sn = some .globalImplicit) : PE X (.Name k.sn p) (tC (.ty k.nm)) := by
  have hg := gl_of ok hk
  have hm := ok.blt _ hb
  cases k
  · exact pe_bltn hg hm (by decide +kernel : bootBuiltins "bool" = some (.type "bool")) rfl
  · exact pe_bltn hg hm (by decide +kernel : bootBuiltins "int" = some (.type "int")) rfl
  · exact pe_bltn hg hm (by decide +kernel : bootBuiltins "str" = some (.type "str")) rfl
  · exact pe_bltn hg hm (by decide +kernel : bootBuiltins "list" = some (.type "list")) rfl
  · exact pe_bltn hg hm (by decide +kernel : bootBuiltins "tuple" = some (.type "tuple")) rfl
theorem se_isi (k : Cl) (hb0 : ("isinstance" : Str) ∈ c.blts) (hk0 : c.sc.names.lookup ("isinstance" : Str) = some .globalImplicit) (hb : k.sn ∈ c.blts) (hk : c.sc.names.lookup k.sn = some .globalImplicit) (ha : SB c a fa) (hn : notStar a = true) :
    SE c (.Call (.Name "isinstance" p) [a, .Name k.sn p2] [] pos) (fun Φ ρ => do let x ← fa Φ ρ; isiR k x) := fun X Φ W ok tk =>
  peI (pe_callB call_isi (gl_of ok hk0) (ok.blt _ hb0) (by decide +kernel) (pa_cons (ha X Φ W ok tk) (pa_cons (sb_cls k ok hb hk) pa_nil (star_of rfl _ _)) (star_of hn _ _)) (by decide) (by decide) (star_of hn _ _) (stars_of rfl)) fun σ H Q ⟨A, O, ρ, hA, hρ, q⟩ =>
    ⟨A, O, ρ, hA, hρ, q.bind fun x v H1 s1 p1 q1 => by
      have nd : ∀ es, x ≠ .dict es := fun es z => by subst z; exact q1.elim
      have q1 : Rt X.mg W (pE X.K A) H1 σ Q (.ok (.bool (isiop k x))) := by cases x <;> first | exact q1 | exact absurd rfl (nd _)
      exact ⟨v, .ty k.nm, .type (tyN x), .type k.nm, isiop k x, rfl, .ty _, ty_of nd p1, kit_ty (kit_isi k x), q1 _ _ (Same.refl _) (.bl _)⟩⟩
/-- x.bit_length() -/
def bitR : D → Res D
  | .int i => .ok (.int (Builtin.Int.intBits i : Nat))
  | _ => .st
theorem se_bits {x : Str} {pn apos : Pos} (ha : SB c (.Name x pn) fa) (hline : (apos.endLine == pos.line) = true) : SE c (.Call (.Attribute (.Name x pn) "bit_length" apos) [] [] pos) (fun Φ ρ => do let x ← fa Φ ρ; bitR x) := fun X Φ W ok tk =>
  peI (pe_bits (ha X Φ W ok tk) rfl hline) fun σ H Q ⟨A, O, ρ, hA, hρ, q⟩ => ⟨A, O, ρ, hA, hρ, q.bind fun d v H1 s1 p1 q1 => by
    cases d with
    | int i => exact ⟨i, p1.int, q1 _ _ (Same.refl _) (.int _)⟩
    | _ => exact q1.elim⟩
end
end Pv

end
section
namespace Pv
open PySem PySem.Spec PyProof.Rows L2

/-! ### list(range(..)), tuple(range(..)), tuple(reversed(..)) -/
def rgB (i j : Int) : Bool := i62 i && i62 j && decide ((j - i).toNat ≤ 1000000)
def rgop (k : List D → D) : List D → Option D
  | [.int j] => if rgB 0 j then some (k (rngL 0 j.toNat)) else none
  | [.int i, .int j] => if rgB i j then some (k (rngL i (j - i).toNat)) else none
  | _ => none
theorem rgB_ok {i j : Int} (h : rgB i j = true) : RgOk i j := by
  obtain ⟨h1, h2, h3⟩ := and3 h
  have h3 := of_decide_eq_true h3
  exact ⟨(i62_lt h1).1, (i62_lt h1).2, (i62_lt h2).1, (i62_lt h2).2, by omega⟩
theorem rpl_rg {K : PySem.W.Frag} {H : Hp} {A : List Addr} (i : Int) (n : Nat) : RpL K H A ((List.range n).map fun k => V.int (i + (k : Nat))) (rngL i n) := by
  unfold rngL
  induction (List.range n) with
  | nil => exact .nil
  | cons a l ih => exact .cons (.int _) ih
section
variable {c : Ctx} {a b : Expr} {fa fb : EvE} {fs : EvL} {pos p p2 pos2 : Pos}
theorem se_lrg1 (hb : ("range" : Str) ∈ c.blts) (hk : c.sc.names.lookup ("range" : Str) = some .globalImplicit) (hb2 : ("list" : Str) ∈ c.blts) (hk2 : c.sc.names.lookup ("list" : Str) = some .globalImplicit) (ha : SE c a fa) (hn : notStar a = true) :
    SE c (.Call (.Name "list" p2) [.Call (.Name "range" p) [a] [] pos] [] pos2) (fun Φ ρ => do let x ← fa Φ ρ; Res.ofO (rgop .list [x])) := fun X Φ W ok tk =>
  peI (pe_listRg ok.calm (gl_of ok hk2) (ok.blt _ hb2) (prg_1 (gl_of ok hk) (ok.blt _ hb) (ha X Φ W ok tk) (star_of hn _ _)) (star_of rfl _ _)) fun σ H Q ⟨A, O, ρ, hA, hρ, q⟩ => ⟨A, O, ρ, hA, hρ, q.bind fun d v H1 s1 p1 q1 => by
    obtain ⟨r, e1, e2⟩ := q1.ofO
    cases d with
    | int j =>
      obtain ⟨h1, rfl⟩ := ite_some (c := rgB 0 j = true) e1
      refine ⟨j, (by cases p1; rfl), rgB_ok h1, fun q nq => e2 _ _ (same_upd nq) (.lst (.inl ⟨.inl upd_same, (hA.same s1).fresh nq⟩) ?_)⟩
      have : rgV 0 j = (List.range j.toNat).map fun k => V.int (0 + (k : Nat)) := by unfold rgV; rw [Int.sub_zero]
      rw [this]
      exact rpl_rg 0 _
    | _ => cases e1⟩
theorem se_trg1 (hb : ("range" : Str) ∈ c.blts) (hk : c.sc.names.lookup ("range" : Str) = some .globalImplicit) (hb2 : ("tuple" : Str) ∈ c.blts) (hk2 : c.sc.names.lookup ("tuple" : Str) = some .globalImplicit) (ha : SE c a fa) (hn : notStar a = true) :
    SE c (.Call (.Name "tuple" p2) [.Call (.Name "range" p) [a] [] pos] [] pos2) (fun Φ ρ => do let x ← fa Φ ρ; Res.ofO (rgop .tuple [x])) := fun X Φ W ok tk =>
  peI (pe_tupRgE ok.calm (gl_of ok hk2) (ok.blt _ hb2) (prg_1 (gl_of ok hk) (ok.blt _ hb) (ha X Φ W ok tk) (star_of hn _ _)) (star_of rfl _ _)) fun σ H Q ⟨A, O, ρ, hA, hρ, q⟩ => ⟨A, O, ρ, hA, hρ, q.bind fun d v H1 s1 p1 q1 => by
    obtain ⟨r, e1, e2⟩ := q1.ofO
    cases d with
    | int j =>
      obtain ⟨h1, rfl⟩ := ite_some (c := rgB 0 j = true) e1
      refine ⟨j, (by cases p1; rfl), rgB_ok h1, fun q o nq on => e2 _ _ (same_upd nq) (.tup (.inl ⟨o, upd_same, on⟩) ?_)⟩
      have : rgV 0 j = (List.range j.toNat).map fun k => V.int (0 + (k : Nat)) := by unfold rgV; rw [Int.sub_zero]
      rw [this]
      exact rpl_rg 0 _
    | _ => cases e1⟩
theorem se_lrg2 (hb : ("range" : Str) ∈ c.blts) (hk : c.sc.names.lookup ("range" : Str) = some .globalImplicit) (hb2 : ("list" : Str) ∈ c.blts) (hk2 : c.sc.names.lookup ("list" : Str) = some .globalImplicit) (ha : SE c a fa) (hbb : SE c b fb) (hn : notStar a = true) (hn2 : notStar b = true) :
    SE c (.Call (.Name "list" p2) [.Call (.Name "range" p) [a, b] [] pos] [] pos2) (fun Φ ρ => do let x ← fa Φ ρ; let y ← fb Φ ρ; Res.ofO (rgop .list [x, y])) := fun X Φ W ok tk =>
  peI (pe_listRg ok.calm (gl_of ok hk2) (ok.blt _ hb2) (prg_2 (gl_of ok hk) (ok.blt _ hb) (ha X Φ W ok tk) (hbb X Φ W ok tk) (star_of hn _ _) (star_of hn2 _ _) (stars_of (by simp [hn2]))) (star_of rfl _ _)) fun σ H Q ⟨A, O, ρ, hA, hρ, q⟩ => ⟨A, O, ρ, hA, hρ, q.bind fun d v H1 s1 p1 q1 => ⟨A, O, ρ, hA.same s1, hρ.same s1, q1.bind fun e u H2 s2 p3 q2 => by
    obtain ⟨r, e1, e2⟩ := q2.ofO
    cases d with
    | int i =>
      cases e with
      | int j =>
        obtain ⟨h1, rfl⟩ := ite_some (c := rgB i j = true) e1
        refine ⟨i, j, (by cases p1; rfl), (by cases p3; rfl), rgB_ok h1, fun q nq => e2 _ _ (same_upd nq) (.lst (.inl ⟨.inl upd_same, ((hA.same s1).same s2).fresh nq⟩) ?_)⟩
        exact rpl_rg i _
      | _ => cases e1
    | _ => cases e1⟩⟩
theorem se_trg2 (hb : ("range" : Str) ∈ c.blts) (hk : c.sc.names.lookup ("range" : Str) = some .globalImplicit) (hb2 : ("tuple" : Str) ∈ c.blts) (hk2 : c.sc.names.lookup ("tuple" : Str) = some .globalImplicit) (ha : SE c a fa) (hbb : SE c b fb) (hn : notStar a = true) (hn2 : notStar b = true) :
    SE c (.Call (.Name "tuple" p2) [.Call (.Name "range" p) [a, b] [] pos] [] pos2) (fun Φ ρ => do let x ← fa Φ ρ; let y ← fb Φ ρ; Res.ofO (rgop .tuple [x, y])) := fun X Φ W ok tk =>
  peI (pe_tupRgE ok.calm (gl_of ok hk2) (ok.blt _ hb2) (prg_2 (gl_of ok hk) (ok.blt _ hb) (ha X Φ W ok tk) (hbb X Φ W ok tk) (star_of hn _ _) (star_of hn2 _ _) (stars_of (by simp [hn2]))) (star_of rfl _ _)) fun σ H Q ⟨A, O, ρ, hA, hρ, q⟩ => ⟨A, O, ρ, hA, hρ, q.bind fun d v H1 s1 p1 q1 => ⟨A, O, ρ, hA.same s1, hρ.same s1, q1.bind fun e u H2 s2 p3 q2 => by
    obtain ⟨r, e1, e2⟩ := q2.ofO
    cases d with
    | int i =>
      cases e with
      | int j =>
        obtain ⟨h1, rfl⟩ := ite_some (c := rgB i j = true) e1
        refine ⟨i, j, (by cases p1; rfl), (by cases p3; rfl), rgB_ok h1, fun q o nq on => e2 _ _ (same_upd nq) (.tup (.inl ⟨o, upd_same, on⟩) ?_)⟩
        exact rpl_rg i _
      | _ => cases e1
    | _ => cases e1⟩⟩
def trev : D → Res D
  | .list ds => .ok (.tuple ds.reverse)
  | .tuple ds => .ok (.tuple ds.reverse)
  | _ => .st
theorem se_trev (hb : ("reversed" : Str) ∈ c.blts) (hk : c.sc.names.lookup ("reversed" : Str) = some .globalImplicit) (hb2 : ("tuple" : Str) ∈ c.blts) (hk2 : c.sc.names.lookup ("tuple" : Str) = some .globalImplicit) (ha : SB c a fa) (hn : notStar a = true) :
    SE c (.Call (.Name "tuple" p2) [.Call (.Name "reversed" p) [a] [] pos] [] pos2) (fun Φ ρ => do let x ← fa Φ ρ; trev x) := fun X Φ W ok tk =>
  peI (pe_revE ok.calm (gl_of ok hk2) (ok.blt _ hb2) (gl_of ok hk) (ok.blt _ hb) (ha X Φ W ok tk) (star_of hn _ _) (star_of rfl _ _)) fun σ H Q ⟨A, O, ρ, hA, hρ, q⟩ => ⟨A, O, ρ, hA, hρ, q.bind fun d v H1 s1 p1 q1 => by
    cases d with
    | list ds =>
      obtain ⟨a, xs, rfl, h, r⟩ := p1
      exact ⟨a, xs, rfl, .inl h, fun p o np on => q1 _ _ (same_upd np) (.tup (.inl ⟨o, upd_same, on⟩) ((r.reverse).same (same_upd np)))⟩
    | tuple ds =>
      cases p1 with
      | @tup a xs ds h r => exact ⟨a, xs, rfl, .inr h.t, fun p o np on => q1 _ _ (same_upd np) (.tup (.inl ⟨o, upd_same, on⟩) ((r.reverse).same (same_upd np)))⟩
    | _ => exact q1.elim⟩
end
/-! ### a op b op c .. -/
def JC (c : Ctx) (ops : List CmpOp) (es : List Expr) (g : Calls → Env → D → Res D) : Prop := ∀ X Φ W, Ok c X Φ → Takes X W → ∀ (pos : Pos) (pins : List (Addr × Obj)) (s : Shared) (σ : L2.St) (H : Hp) (A : List Addr) (O : List (List Addr)) (ρ : Env) (x : V) (v : Value) (d : D), Inv X pins σ H s → RelV x v → RpB X.K H A x d → AOk H A → EnvOk X.K H A O σ ρ →
  (∀ Q, Rt X.mg W (pE X.K A) H σ Q (g Φ ρ d) → wpAny (model X.prog X.w) X.A (compareChain pos v ops (evalEach es X.env)) (EP X pins σ Q) X.xe s)
  ∧ (∀ Q, RtB X.mg W H σ Q (g Φ ρ d) → wpAny (model X.prog X.w) X.A (testChain pos v ops (evalEach es X.env)) (TP X pins σ Q) X.xe s)
section
variable {c : Ctx} {a b : Expr} {fa fb : EvE} {op op' : CmpOp} {ops : List CmpOp} {es : List Expr} {g : Calls → Env → D → Res D} {pos : Pos}
def lastC (op : CmpOp) (fb : EvE) : Calls → Env → D → Res D := fun Φ ρ x => do let y ← fb Φ ρ; cmpR op x y
def linkC (op : CmpOp) (fb : EvE) (g : Calls → Env → D → Res D) : Calls → Env → D → Res D := fun Φ ρ x => do let y ← fb Φ ρ; tst (cmpR op x y) fun k => if k then g Φ ρ y else .ok (.bool false)
theorem jc_last (hb : SB c b fb) : JC c [op] [b] (lastC op fb) := fun X Φ W ok tk pos pins s σ H A O ρ x v d I rx px hA hρ => by
  refine ⟨fun Q q => chain_last (thn ((hb X Φ W ok tk).run pins s σ H (fun y H2 => ∃ dy, Same H H2 ∧ RpB X.K H2 A y dy ∧ Rt X.mg W (pE X.K A) H2 σ Q (cmpR op d dy)) I ⟨A, O, ρ, hA, hρ, q.bind fun y u H2 s2 p2 q2 => ⟨y, s2, p2, q2⟩⟩) fun u s2 ⟨y, H2, I2, r2, dy, sm2, p2, q2⟩ => ?_),
    fun Q q => test_last (thn ((hb X Φ W ok tk).run pins s σ H (fun y H2 => ∃ dy, Same H H2 ∧ RpB X.K H2 A y dy ∧ RtB X.mg W H2 σ Q (cmpR op d dy)) I ⟨A, O, ρ, hA, hρ, q.bind fun y u H2 s2 p2 q2 => ⟨y, s2, p2, q2⟩⟩) fun u s2 ⟨y, H2, I2, r2, dy, sm2, p2, q2⟩ => ?_)⟩
  · obtain ⟨k, e1, e2⟩ := cmpR_some q2
    exact opr_cmp ok.hu op pins s2 σ H2 x y v u Q I2 rx r2 ⟨[], d, dy, k, rpb_rp (px.same sm2), rpb_rp p2, e1, e2 _ _ (Same.refl _) (.bl _)⟩
  · obtain ⟨k, e1, e2⟩ := cmpR_someB q2
    refine thn (opr_cmp ok.hu op pins s2 σ H2 x y v u (fun z H3 => z = .bl k ∧ Q k H3) I2 rx r2 ⟨[], d, dy, k, rpb_rp (px.same sm2), rpb_rp p2, e1, rfl, e2 _ (Same.refl _)⟩) fun z s3 ⟨w, H3, I3, r3, ew, q3⟩ => ?_
    subst ew
    cases r3
    exact wpAny_truthy_bool ⟨H3, I3, q3⟩
theorem jc_link {b2 : Expr} (hb : SB c b fb) (hg : JC c (op' :: ops) (b2 :: es) g) : JC c (op :: op' :: ops) (b :: b2 :: es) (linkC op fb g) := fun X Φ W ok tk pos pins s σ H A O ρ x v d I rx px hA hρ => by
  refine ⟨fun Q q => chain_link (thn ((hb X Φ W ok tk).run pins s σ H (fun y H2 => ∃ dy, Same H H2 ∧ RpB X.K H2 A y dy ∧ Rt X.mg W (pE X.K A) H2 σ Q (tst (cmpR op d dy) fun k => if k then g Φ ρ dy else .ok (.bool false))) I ⟨A, O, ρ, hA, hρ, q.bind fun y u H2 s2 p2 q2 => ⟨y, s2, p2, q2⟩⟩) fun u s2 ⟨y, H2, I2, r2, dy, sm2, p2, q2⟩ => ?_),
    fun Q q => test_link (thn ((hb X Φ W ok tk).run pins s σ H (fun y H2 => ∃ dy, Same H H2 ∧ RpB X.K H2 A y dy ∧ RtB X.mg W H2 σ Q (tst (cmpR op d dy) fun k => if k then g Φ ρ dy else .ok (.bool false))) I ⟨A, O, ρ, hA, hρ, q.bind fun y u H2 s2 p2 q2 => ⟨y, s2, p2, q2⟩⟩) fun u s2 ⟨y, H2, I2, r2, dy, sm2, p2, q2⟩ => ?_)⟩
  · cases hc : cmpop op d dy with
    | none =>
      unfold cmpR at q2
      rw [hc] at q2
      exact q2.elim
    | some k =>
      have q2 : Rt X.mg W (pE X.K A) H2 σ Q (if k then g Φ ρ dy else .ok (.bool false)) := by
        unfold cmpR at q2
        rw [hc] at q2
        exact q2
      refine thn (opr_cmp ok.hu op pins s2 σ H2 x y v u (fun z H3 => z = .bl k ∧ H3 = H2) I2 rx r2 ⟨[], d, dy, k, rpb_rp (px.same sm2), rpb_rp p2, hc, rfl, rfl⟩) fun z s3 ⟨w, H3, I3, r3, ew, eH⟩ => ?_
      subst ew
      subst eH
      cases r3
      refine wpAny_truthy_bool ?_
      cases k with
      | false => exact ite_ff ⟨.bl false, _, I3, rfl, q2 _ _ (Same.refl _) (.bl _)⟩
      | true => exact ite_tt ((hg X Φ W ok tk pos pins s3 σ _ A O ρ y u dy I3 r2 p2 (hA.same sm2) (hρ.same sm2)).1 Q q2)
  · cases hc : cmpop op d dy with
    | none =>
      unfold cmpR at q2
      rw [hc] at q2
      exact q2.elim
    | some k =>
      have q2 : RtB X.mg W H2 σ Q (if k then g Φ ρ dy else .ok (.bool false)) := by
        unfold cmpR at q2
        rw [hc] at q2
        exact q2
      refine thn (opr_cmp ok.hu op pins s2 σ H2 x y v u (fun z H3 => z = .bl k ∧ H3 = H2) I2 rx r2 ⟨[], d, dy, k, rpb_rp (px.same sm2), rpb_rp p2, hc, rfl, rfl⟩) fun z s3 ⟨w, H3, I3, r3, ew, eH⟩ => ?_
      subst ew
      subst eH
      cases r3
      refine wpAny_truthy_bool ?_
      cases k with
      | false => exact ite_ff ⟨_, I3, q2 _ (Same.refl _)⟩
      | true => exact ite_tt ((hg X Φ W ok tk pos pins s3 σ _ A O ρ y u dy I3 r2 p2 (hA.same sm2) (hρ.same sm2)).2 Q q2)
theorem se_chain {b2 : Expr} (ha : SB c a fa) (hg : JC c (op :: op' :: ops) (b :: b2 :: es) g) (hm : lastMarks (op :: op' :: ops) (b :: b2 :: es) = false) : SE c (.Compare a (op :: op' :: ops) (b :: b2 :: es) pos) (fun Φ ρ => do let x ← fa Φ ρ; g Φ ρ x) := fun X Φ W ok tk => ⟨fun pins s σ H Q I ⟨A, O, ρ, hA, hρ, q⟩ =>
  Compare_chain (thn ((ha X Φ W ok tk).run pins s σ H (fun y H2 => ∃ dy, Same H H2 ∧ RpB X.K H2 A y dy ∧ Rt X.mg W (pE X.K A) H2 σ Q (g Φ ρ dy)) I ⟨A, O, ρ, hA, hρ, q.bind fun y u H2 s2 p2 q2 => ⟨y, s2, p2, q2⟩⟩) fun u s2 ⟨y, H2, I2, r2, dy, sm2, p2, q2⟩ =>
    (hg X Φ W ok tk pos pins s2 σ H2 A O ρ y u dy I2 r2 p2 (hA.same sm2) (hρ.same sm2)).1 Q q2) hm⟩
theorem st_chain {b2 : Expr} (ha : SB c a fa) (hg : JC c (op :: op' :: ops) (b :: b2 :: es) g) (hm : lastMarks (op :: op' :: ops) (b :: b2 :: es) = false) : ST c (.Compare a (op :: op' :: ops) (b :: b2 :: es) pos) (fun Φ ρ => do let x ← fa Φ ρ; g Φ ρ x) := fun X Φ W ok tk => ⟨fun pins s σ H Q I ⟨A, O, ρ, hA, hρ, q⟩ =>
  isTrue_chain (thn ((ha X Φ W ok tk).run pins s σ H (fun y H2 => ∃ dy, Same H H2 ∧ RpB X.K H2 A y dy ∧ RtB X.mg W H2 σ Q (g Φ ρ dy)) I ⟨A, O, ρ, hA, hρ, q.bind fun y u H2 s2 p2 q2 => ⟨y, s2, p2, q2⟩⟩) fun u s2 ⟨y, H2, I2, r2, dy, sm2, p2, q2⟩ =>
    (hg X Φ W ok tk pos pins s2 σ H2 A O ρ y u dy I2 r2 p2 (hA.same sm2) (hρ.same sm2)).2 Q q2) hm⟩
end
end Pv

end
section
namespace Pv
open PySem PySem.Spec PyProof.Rows L2

/-! ### len(set(numbers)) -/
def ddI (ns : List Int) : List Int := PyProof.Rows.firstMet (fun i => ns.getD i 0) ns.length
def tLenSetD (K : PySem.W.Frag) (ta : TE) : TE := fun σ H Q => ta σ H fun x H1 => ∃ (l : Addr) (ns : List Int), x = .ref l ∧ SqL K H1 l (ns.map V.int) ∧ ns.length ≤ 4000 ∧ Q (.int ((ddI ns).length : Nat)) H1
theorem pe_lenSetD {X : Cx} {a : Expr} {ta : TE} {p p2 q pos : Pos} (hg : Gl X "len") (hm : X.mg "len" = none) (hg2 : Gl X "set") (hm2 : X.mg "set" = none) (ha : PE X a ta) (hc : X.calm = true)
    (na : starEach [a] X.env = (false, eval a X.env) :: starEach [] X.env) : PE X (.Call (.Name "len" p) [.Call (.Name "set" p2) [a] [] q] [] pos) (tLenSetD X.K ta) := by
  refine ⟨fun pins s σ H Q I h => ?_⟩
  refine Call_ (ld_blt I hg hm boot_len ?_)
  refine PyProof.Rows.callWith_builtin1 (PyProof.Rows.args_cons ?_ rfl) rfl rfl
  refine Call_ (ld_blt I hg2 hm2 boot_set ?_)
  refine PyProof.Rows.callWith_type1 (PyProof.Rows.args_cons (thn (ha.run pins s σ H _ I h) fun v s1 ⟨x, H1, I1, r1, q1⟩ => PyProof.Rows.args_nil ?_) na) na rfl
  obtain ⟨l, ns, rfl, hq, hl, q1⟩ := q1
  cases r1
  obtain ⟨its, r, pl, hz⟩ := I1.list hq
  have hlen : its.toArray.size = ns.length := by rw [List.size_toArray, ← r.length, List.length_map]
  refine call_set_list (I1.ok.hd hc) pl.isList (by simpa using RZ.intsAre_vals r) (by rw [hlen]; unfold scanBound; omega) fun h' tk hS hk => ?_
  refine PyProof.Rows.args_nil ?_
  rw [hlen] at hS
  have hle := PyProof.Rows.firstMet_length_le (fun i => ns.getD i 0) ns.length
  obtain ⟨o, es, ep, t, ho, hex, hd, _, _, _, hf, hn⟩ := hS
  have I2 : Inv X pins σ H1 { s1 with heap := h', toks := tk } := I1.kept fun b o e => hk b o (Heap.lt_size e) e
  exact call_len_set ho hex hd hf (by rw [hn] <;> omega) ⟨.int (ddI ns).length, H1, I2.tok _, ⟨_, by rw [hn]; rfl⟩, q1⟩
def lsI : Option (List Int) → Res D
  | some ns => if ns.length ≤ 4000 then .ok (.int ((ddI ns).length : Nat)) else .st
  | none => .st
def lsR : D → Res D
  | .list ds => lsI (intsOf ds)
  | _ => .st
section
variable {c : Ctx} {a : Expr} {fa : EvE} {pos p p2 q : Pos}
theorem se_lenset (hb : ("len" : Str) ∈ c.blts) (hk : c.sc.names.lookup ("len" : Str) = some .globalImplicit) (hb2 : ("set" : Str) ∈ c.blts) (hk2 : c.sc.names.lookup ("set" : Str) = some .globalImplicit) (ha : SB c a fa) (hn : notStar a = true) :
    SE c (.Call (.Name "len" p) [.Call (.Name "set" p2) [a] [] q] [] pos) (fun Φ ρ => do let x ← fa Φ ρ; lsR x) := fun X Φ W ok tk =>
  peI (pe_lenSetD (gl_of ok hk) (ok.blt _ hb) (gl_of ok hk2) (ok.blt _ hb2) (ha X Φ W ok tk) ok.calm (star_of hn _ _)) fun σ H Q ⟨A, O, ρ, hA, hρ, q⟩ => ⟨A, O, ρ, hA, hρ, q.bind fun d v H1 s1 p1 q1 => by
    cases d with
    | list ds =>
      obtain ⟨a, xs, rfl, h, r⟩ := p1
      have q1 : Rt X.mg W (pE X.K A) H1 σ Q (lsI (intsOf ds)) := q1
      cases hz : intsOf ds with
      | none => rw [hz] at q1; exact q1.elim
      | some ns =>
        rw [hz] at q1
        have q9 : Rt X.mg W (pE X.K A) H1 σ Q (if ns.length ≤ 4000 then .ok (.int ((ddI ns).length : Nat)) else .st) := q1
        by_cases hl : ns.length ≤ 4000
        · rw [if_pos hl] at q9
          have e := intsOf_eq hz
          subst e
          have e2 := r.ints
          subst e2
          exact ⟨a, ns, rfl, h, hl, q9 _ _ (Same.refl _) (.int _)⟩
        · rw [if_neg hl] at q9; exact q9.elim
    | _ => exact q1.elim⟩
end
end Pv

end
section
namespace Pv
open PySem PySem.Spec PyProof.Rows L2

/-! ### set(xs), whatever its items: J i is what holds of the new set behind i items -/
section
variable {P : Program} {w : World} {A : Around} {E : Value → Shared → Prop} {s : Shared}
theorem setUp {I : Addr} {fp wr : List Addr} {G : Array GenState → Array GenState → Prop} {n : Nat} {Pv : Nat → Value → Prop} {St : Nat → Shared → Prop} {R : Result → Shared → Prop}
    (W : WalksS P w A.in1 I fp wr G n Pv St) (S : Addr) (hSf : S ∉ fp) (J : Nat → Heap → Prop)
    (hF : ∀ i h h', J i h → (∀ b o, b ∉ wr → h.get? b = some o → h'.get? b = some o) → J i h')
    (hA : ∀ (E : Value → Shared → Prop) i v (s : Shared) (Q : Bool → Shared → Prop), i < n → Pv i v → J i s.heap → (∀ h' tk b, Heap.SameBut S s.heap h' → s.toks ≤ tk → J (i + 1) h' → Q b { s with heap := h', toks := tk }) → wpAny (model P w) A.in1 (setAdd S v) Q E s) :
    ∀ (k i : Nat) (s : Shared), n - i = k → i ≤ n → St i s → J i s.heap →
      (∀ s', Moved (S :: wr) G s s' → J n s'.heap → R (.ok (.ret .none)) s') →
      codeAny (model P w) A (.builtin "set.update.loop" ⟨[.ref S, .ref I], []⟩) R s := by
  have hSw : S ∉ wr := fun h => hSf (W.sub _ h)
  have up : ∀ b ∈ wr, b ∈ S :: wr := fun b hb => List.mem_cons_of_mem _ hb
  intro k
  induction k with
  | zero =>
    intro i s hk hi hst hJ hR
    obtain rfl : i = n := by omega
    refine codeAny_builtin F.entry_set_update_loop ?_
    rw [Around.under_plainId F.plain_set_update_loop _]
    show wpAny _ A.in1 (pyNext (.ref I) >>= _) _ _ s
    refine wpAny_bind (W.done s _ _ hst fun s' hm => ?_)
    show wpAny _ A.in1 (ret Value.none) _ _ s'
    exact wpAny_pure (hR s' (hm.mono up) (hF _ _ _ hJ fun b o hb e => hm.heap b o hb e))
  | succ k ih =>
    intro i s hk hi hst hJ hR
    have hlt : i < n := by omega
    refine codeAny_builtin F.entry_set_update_loop ?_
    rw [Around.under_plainId F.plain_set_update_loop _]
    show wpAny _ A.in1 (pyNext (.ref I) >>= _) _ _ s
    refine wpAny_bind (W.item i s _ _ hlt hst fun v s' hP hst' hm => ?_)
    show wpAny _ A.in1 (holding [v] (setAdd S v) >>= _) _ _ s'
    refine wpAny_bind (wpAny_holding ?_)
    refine hA _ i v s' _ hlt hP (hF _ _ _ hJ fun b o hb e => hm.heap b o hb e) fun h' tk b hsb htk hJ2 => ?_
    refine wpAny_pure ⟨plainId_quiet F.plain_set_update_loop _, ih (i + 1) _ (by omega) hlt (W.frame _ s' _ _ hst' htk fun b hb o e => ?_) hJ2 fun s'' hm'' hJ'' => ?_⟩
    · rw [hsb.2 b (fun h : b = S => hSf (by rw [← h]; exact hb))]; exact e
    · refine hR s'' (Moved.trans W.gtrans ((hm.mono up).then_heap htk fun b o hb e => ?_) hm'') hJ''
      rw [hsb.2 b (fun h : b = S => hb (by rw [h]; exact List.mem_cons_self))]; exact e
/-- the new set, before it has anything -/
def emO (w : World) : Obj := { cls := .type "set", dict := none, data := .set #[] 0 (.fresh 0 0 (!w.params.followText "set-order")) }
set_option maxRecDepth 100000 in
set_option maxHeartbeats 3200000 in
theorem call_setJ {k : Bool} {l : Addr} {items : Array Value} {Q : Value → Shared → Prop} (hh : A.handled = none) (hl : if k then s.heap.IsTuple l items else s.heap.IsList l items) (J : Nat → Heap → Prop)
    (h0 : ∀ h' : Heap, h'.get? s.heap.objs.size = some (emO w) → (∀ b o, s.heap.get? b = some o → h'.get? b = some o) → J 0 h')
    (hF : ∀ i h h', J i h → (∀ b o, b ≠ s.heap.objs.size + 1 → h.get? b = some o → h'.get? b = some o) → J i h')
    (hA : ∀ (A' : Around) (E : Value → Shared → Prop) i v (s1 : Shared) (Q : Bool → Shared → Prop), A'.units ≤ A.units + 64 → items[i]? = some v → J i s1.heap → (∀ h' tk b, Heap.SameBut s.heap.objs.size s1.heap h' → s1.toks ≤ tk → J (i + 1) h' → Q b { s1 with heap := h', toks := tk }) → wpAny (model P w) A' (setAdd s.heap.objs.size v) Q E s1)
    (h : ∀ (h' : Heap) (tk : Nat), J items.size h' → (∀ b o, s.heap.get? b = some o → h'.get? b = some o) → Q (.ref s.heap.objs.size) { s with heap := h', toks := tk }) :
    wpAny (model P w) A (call (.type "set") [.ref l]) Q E s := by
  obtain ⟨c, tl, hmro⟩ := F.called_set.mro
  have hmade := F.called_set.made
  have hsub := F.called_set.sub
  refine wpAny_call (codeAny_of_tree ?_)
  show wpAny _ _ (callAny (.type "set") _) _ _ _
  refine wpAny_pure ⟨Code.quiet_builtin _ (by decide +kernel), codeAny_builtin F.entry_type_call ?_⟩
  rw [Around.under_plain (weight_type_call_type "set" [.ref l] []) rfl]
  have h1 := F.called_set.notType
  have h2 := F.called_set.canCreate
  have hct := F.typeCall_set_1 (.ref l)
  repeat (any_goals (first | assumption | wp_step))
  refine codeAny_mono (code_set_led1 (.ref l) (E := E) (Q₁ := fun obj s₁ => obj = .ref s.heap.objs.size ∧ s₁ = { s with heap := s.heap.push (emO w) }) ⟨rfl, rfl⟩) fun r s₁ hr => ?_
  cases r with
  | error e => exact hr
  | ok fl =>
    cases fl with
    | ret obj =>
      obtain ⟨rfl, rfl⟩ := hr
      have hS : (s.heap.push (emO w)).get? s.heap.objs.size = some (emO w) := Heap.get?_push_size _ rfl
      have hT : Shared.TypeIs { s with heap := s.heap.push (emO w) } (.ref s.heap.objs.size) "set" := ⟨_, hS, rfl⟩
      have hli := F.called_set.init.lookup
      have hbi := F.called_set.init.bind (.ref s.heap.objs.size)
      repeat (any_goals (first | assumption | wp_step))
      refine codeAny_mono (codeAny_call_builtin (R := wants (fun r s₂ => r = .none ∧ ∃ h' tk, s₂ = { s with heap := h', toks := tk } ∧ J items.size h' ∧
          (∀ b o, s.heap.get? b = some o → h'.get? b = some o)) E) F.called_set.init.plain F.entry_set_init (check_set_init_1 hT ?_)) fun r₂ s₂ hr₂ => ?_
      · cases k with
        | false =>
         have hl : s.heap.IsList l items := hl
         obtain ⟨ol, hol, hcl, nl, hdl⟩ := hl
         obtain ⟨ocls, odict, odata, oslots⟩ := ol
         simp only at hcl hdl
         subst hcl; subst hdl
         have hol' : (s.heap.push (emO w)).get? l = some { cls := .type "list", dict := odict, data := .seq items nl, slots := oslots } := Heap.get?_push_of_some _ hol
         have hsls := F.sub_list_set
         have hslf := F.sub_list_frozenset
         have hne : (Value.type "list" == Value.type "dict") = false := by decide
         have hl1 : (s.heap.push (emO w)).IsList l items := ⟨_, hol', rfl, nl, rfl⟩
         unfold Builtin.«set.__init__» noKeywords Builtin.Frozenset.updateFrom
         generalize hPI : pyIter = PI
         wp_walk
         subst hPI
         refine wpAny_pyIter_list hl1 ?_
         refine wpAny_bind (wpAny_runValue ?_)
         have hlS : l < s.heap.objs.size := Heap.lt_size hol
         have hh3 : A.in1.in1.in1.handled = none := by simp [hh]
         have hz1 : (s.heap.push (emO w)).objs.size = s.heap.objs.size + 1 := Heap.size_push ..
         have hneI : l ≠ (s.heap.push (emO w)).objs.size := by rw [hz1]; exact Nat.ne_of_lt (Nat.lt_succ_of_lt hlS)
         have hSf : s.heap.objs.size ∉ [(s.heap.push (emO w)).objs.size, l] := by
           rw [hz1]; simp only [List.mem_cons, List.not_mem_nil, or_false, not_or]
           exact ⟨Nat.ne_of_lt (Nat.lt_succ_self _), Nat.ne_of_gt hlS⟩
         have hold : ∀ (u : Obj) b o, s.heap.get? b = some o → ((s.heap.push (emO w)).push u).get? b = some o := fun u b o e => Heap.get?_push_of_some _ (Heap.get?_push_of_some _ e)
         refine setUp ((Walks.list hh3 _ l hneI items).toS) s.heap.objs.size hSf J (fun i h h' a b => hF i h h' a fun c o hc e => b c o (fun z => hc (by
           rw [List.mem_singleton] at z; rw [z, hz1])) e) (fun E' i v s1 Q' hi hP hJ hq => hA _ E' i v s1 Q' ?hU hP hJ hq) (items.size - 0) 0 _ (by omega) (Nat.zero_le _) ⟨⟨_, Heap.get?_push_size _ rfl, rfl, rfl⟩, (hl1.push _)⟩ (h0 _ (Heap.get?_push_of_some _ hS) (hold _)) fun s' hm hJ' => ?_
         case hU => simp
         obtain ⟨h', g2, d', tk', os'⟩ := s'
         have eg : g2 = s.gens := hm.gens
         have ed : d' = s.drawn := hm.drawn
         have eo : os' = s.os := hm.os
         subst eg; subst ed; subst eo
         show wpAny _ _ _ _ _ _
         refine wpAny_pure ?_
         show wpAny _ _ (ret Value.none) _ _ _
         refine wpAny_pure ⟨rfl, h', tk', rfl, hJ', fun b o e => ?_⟩
         have hb0 : b < s.heap.objs.size := Heap.lt_size e
         exact hm.heap b o (by rw [hz1]; simp only [List.mem_cons, List.not_mem_nil, or_false, not_or]; exact ⟨Nat.ne_of_lt hb0, Nat.ne_of_lt (Nat.lt_succ_of_lt hb0)⟩) (hold _ b o e)
        | true =>
         have hl : s.heap.IsTuple l items := hl
         obtain ⟨ol, hol, hcl, nl, hdl⟩ := hl
         obtain ⟨ocls, odict, odata, oslots⟩ := ol
         simp only at hcl hdl
         subst hcl; subst hdl
         have hol' : (s.heap.push (emO w)).get? l = some { cls := .type "tuple", dict := odict, data := .seq items nl, slots := oslots } := Heap.get?_push_of_some _ hol
         have hsls := F.sub_tuple_set
         have hslf := F.sub_tuple_frozenset
         have hne : (Value.type "tuple" == Value.type "dict") = false := by decide
         have hl1 : (s.heap.push (emO w)).IsTuple l items := ⟨_, hol', rfl, nl, rfl⟩
         unfold Builtin.«set.__init__» noKeywords Builtin.Frozenset.updateFrom
         generalize hPI : pyIter = PI
         wp_walk
         subst hPI
         refine wpAny_pyIter_tuple hl1 ?_
         refine wpAny_bind (wpAny_runValue ?_)
         have hlS : l < s.heap.objs.size := Heap.lt_size hol
         have hh3 : A.in1.in1.in1.handled = none := by simp [hh]
         have hz1 : (s.heap.push (emO w)).objs.size = s.heap.objs.size + 1 := Heap.size_push ..
         have hneI : l ≠ (s.heap.push (emO w)).objs.size := by rw [hz1]; exact Nat.ne_of_lt (Nat.lt_succ_of_lt hlS)
         have hSf : s.heap.objs.size ∉ [(s.heap.push (emO w)).objs.size, l] := by
           rw [hz1]; simp only [List.mem_cons, List.not_mem_nil, or_false, not_or]
           exact ⟨Nat.ne_of_lt (Nat.lt_succ_self _), Nat.ne_of_gt hlS⟩
         have hold : ∀ (u : Obj) b o, s.heap.get? b = some o → ((s.heap.push (emO w)).push u).get? b = some o := fun u b o e => Heap.get?_push_of_some _ (Heap.get?_push_of_some _ e)
         refine setUp ((Walks.tuple hh3 _ l hneI items).toS) s.heap.objs.size hSf J (fun i h h' a b => hF i h h' a fun c o hc e => b c o (fun z => hc (by
           rw [List.mem_singleton] at z; rw [z, hz1])) e) (fun E' i v s1 Q' hi hP hJ hq => hA _ E' i v s1 Q' ?hU hP hJ hq) (items.size - 0) 0 _ (by omega) (Nat.zero_le _) ⟨⟨_, Heap.get?_push_size _ rfl, rfl, rfl⟩, (hl1.push _)⟩ (h0 _ (Heap.get?_push_of_some _ hS) (hold _)) fun s' hm hJ' => ?_
         case hU => simp
         obtain ⟨h', g2, d', tk', os'⟩ := s'
         have eg : g2 = s.gens := hm.gens
         have ed : d' = s.drawn := hm.drawn
         have eo : os' = s.os := hm.os
         subst eg; subst ed; subst eo
         show wpAny _ _ _ _ _ _
         refine wpAny_pure ?_
         show wpAny _ _ (ret Value.none) _ _ _
         refine wpAny_pure ⟨rfl, h', tk', rfl, hJ', fun b o e => ?_⟩
         have hb0 : b < s.heap.objs.size := Heap.lt_size e
         exact hm.heap b o (by rw [hz1]; simp only [List.mem_cons, List.not_mem_nil, or_false, not_or]; exact ⟨Nat.ne_of_lt hb0, Nat.ne_of_lt (Nat.lt_succ_of_lt hb0)⟩) (hold _ b o e)
      · cases r₂ with
        | error e => exact hr₂
        | ok fl₂ =>
          cases fl₂ with
          | ret r =>
            obtain ⟨rfl, h', tk, rfl, hJ', hk'⟩ := hr₂
            repeat (any_goals (first | assumption | wp_step))
            exact h _ _ hJ' hk'
          | _ => exact hr₂.elim
    | _ => exact hr.elim
end
end Pv

end
section
namespace Pv
open PySem PySem.Spec PyProof.Rows L2

/-! ### a set of texts -/
def keyT (e : Int × Value) : Str := match e.2 with
  | .str k _ => k
  | _ => ""
def GoodT (w : World) (e : Int × Value) : Prop := ∃ k tk, e.2 = Value.str k tk ∧ e.1 = hashStr w k
/-- the set at a has the texts of l, m of them at most -/
def SetTx (w : World) (h : Heap) (a : Addr) (l : List Str) (m : Nat) : Prop :=
  ∃ o es ep t, h.get? a = some o ∧ o.ExactSet ∧ o.data = .set es ep t ∧ (∀ e ∈ es.toList, GoodT w e) ∧ (es.toList.map keyT).Nodup ∧ (∀ k, k ∈ l ↔ k ∈ es.toList.map keyT) ∧
    es.size < scanBound ∧ t.fits es.size = true ∧ es.size ≤ m ∧ Ris t.place.toList ∧ (w.params.followText "set-order" = true ∨ t.led = true)
section
variable {P : Program} {w : World} {A : Around} {E : Value → Shared → Prop} {s : Shared} {h h' : Heap} {a : Addr} {l : List Str} {m : Nat}
theorem SetTx.at (R : SetTx w h a l m) (k : ∀ o, h.get? a = some o → h'.get? a = some o) : SetTx w h' a l m := by
  obtain ⟨o, es, ep, t, ho, r⟩ := R
  exact ⟨o, es, ep, t, k o ho, r⟩
theorem goodT_elems {es : List (Int × Value)} (g : ∀ e ∈ es, GoodT w e) : ElemsOf (strKind P w) es := fun e he => by
  obtain ⟨k, tk, h1, h2⟩ := g e he
  exact ⟨⟨k, by rw [h1]; exact strKind_is P w k tk, h2⟩, by rw [h1] <;> rfl⟩
theorem goodT_is {e : Int × Value} (g : GoodT w e) (k : Str) : (strKind P w).is k e.2 = true ↔ keyT e = k := by
  obtain ⟨k0, tk, h1, _⟩ := g
  unfold keyT
  rw [h1]
  constructor
  · intro z
    exact (strKind P w).inj _ _ _ (strKind_is P w k0 tk) z
  · intro z
    rw [← z]; exact strKind_is P w k0 tk
theorem goodT_mem {es : List (Int × Value)} (g : ∀ e ∈ es, GoodT w e) (k : Str) : k ∈ es.map keyT ↔ ∃ e ∈ es, (strKind P w).is k e.2 = true := by
  rw [List.mem_map]
  exact ⟨fun ⟨e, he, q⟩ => ⟨e, he, (goodT_is (g e he) k).2 q⟩, fun ⟨e, he, q⟩ => ⟨e, he, (goodT_is (g e he) k).1 q⟩⟩
theorem setTx_tail {g : Bool → Sem Unit} (hg : ∀ (b : Bool) (s₁ : Shared) (Q' : Unit → Shared → Prop), Q' () s₁ → wpAny (model P w) A (g b) Q' E s₁)
    {o : Obj} {es : Array (Int × Value)} {ep : Nat} {t : SetTable} (ho : s.heap.get? a = some o) (hex : o.ExactSet) (hd : o.data = .set es ep t)
    {es1 : Array (Int × Value)} {t2 : SetTable} (g1 : ∀ e ∈ es1.toList, GoodT w e) (nd1 : (es1.toList.map keyT).Nodup) (m1 : ∀ k, k ∈ l ↔ k ∈ es1.toList.map keyT)
    (hb1 : es1.size < scanBound) (hf2 : t2.fits es1.size = true) (hm : es1.size ≤ m) (hr : Ris t2.place.toList) (hl : w.params.followText "set-order" = true ∨ t2.led = true) {wasDummy : Bool} {R : Option Bool → Shared → Prop}
    (hR : ∀ h', Heap.SameBut a s.heap h' → SetTx w h' a l m → R (some true) { s with heap := h' }) :
    wpAny (model P w) A (do
        storeSet a es1 t2
        if (!wasDummy && t2.tooFull) = true then do
            g (relayAll t2 es1 (SetTable.grown es1.size)).2.2
            storeSet a (relayAll t2 es1 (SetTable.grown es1.size)).1 (relayAll t2 es1 (SetTable.grown es1.size)).2.1
            pure (some true)
          else pure (some true)) R E s := by
  refine wpAny_bind (wpAny_storeSet_of ho hd ?_ (fits_of_scanBound hb1))
  have ho1 := store_at (es' := es1) (t' := t2) ho hd
  have sb1 := Heap.SameBut.update s.heap a (Obj.putSet es1 t2)
  split
  · have pm := relayAll_perm t2 es1 (SetTable.grown es1.size)
    have hf3 := relayAll_fits t2 es1 (SetTable.grown es1.size)
    have hr3 := relayAll_ris t2 es1 (SetTable.grown es1.size)
    have hl3 := relayAll_led t2 es1 (SetTable.grown es1.size)
    generalize relayAll t2 es1 (SetTable.grown es1.size) = Z at pm hf3 hr3 hl3 ⊢
    obtain ⟨es2, t3, gave⟩ := Z
    dsimp only at pm hf3 hr3 hl3 ⊢
    have hsz : es2.size = es1.size := by rw [← Array.length_toList, pm.length_eq, Array.length_toList]
    have hb2 : es2.size < scanBound := by rw [hsz]; exact hb1
    refine wpAny_bind (hg _ _ _ ?_)
    refine wpAny_bind (wpAny_storeSet_of ho1 rfl ?_ (fits_of_scanBound hb2))
    have ho2 := store_at (es' := es2) (t' := t3) ho1 rfl
    refine wpAny_pure (hR _ (sb1.trans (Heap.SameBut.update _ a _)) ?_)
    exact ⟨_, es2, _, t3, ho2, hex, rfl, fun e he => g1 e (pm.mem_iff.mp he), (pm.map keyT).nodup_iff.mpr nd1, fun k => (m1 k).trans (pm.map keyT).mem_iff.symm, hb2, hf3, by omega, hr3,
      hl.imp id fun z => by rw [hl3]; exact z⟩
  · exact wpAny_pure (hR _ sb1 ⟨_, es1, _, t2, ho1, hex, rfl, g1, nd1, m1, hb1, hf2, hm, hr, hl⟩)
theorem setTx_add {k : Str} {tk : Tok} {Q : Bool → Shared → Prop} (R : SetTx w s.heap a l m) (room : m + 1 < scanBound)
    (hQ : ∀ h' b, Heap.SameBut a s.heap h' → SetTx w h' a (l ++ [k]) (m + 1) → Q b { s with heap := h' }) :
    wpAny (model P w) A (setAddHashed a (.str k tk) ((strKind P w).hash k)) Q E s := by
  obtain ⟨o, es, ep, t, ho, hex, hd, g, nd, hm, hb, hf, hn, hr, hl⟩ := R
  have hkey : (strKind P w).is k (.str k tk) = true := strKind_is P w k tk
  have hsc : (Value.str k tk).scannable = true := rfl
  have hel : ElemsOf (strKind P w) es.toList := goodT_elems g
  unfold setAddHashed setAddHashedIn
  refine wpAny_holding (wpAny_bind (wpAny_setState_of ho hd hf ?_))
  dsimp only
  rw [byScan_of hsc hb hel]
  simp only [↓reduceIte]
  unfold setAddByScan
  refine wpAny_bind ?_
  refine wpAny_bind (wpAny_rule ?_)
  refine wpAny_bind (wpAny_setScan_of hkey ho hd hf hel ?_)
  cases hfi : List.findIdx? (fun e => (strKind P w).is k e.2) es.toList with
  | some j =>
    dsimp only
    obtain ⟨hj, pj, _⟩ := List.findIdx?_eq_some_iff_getElem.mp hfi
    have hSk : k ∈ es.toList.map keyT := (goodT_mem (P := P) g k).2 ⟨es.toList[j], List.getElem_mem hj, pj⟩
    refine wpAny_pure (wpAny_pure ?_)
    refine hQ s.heap _ (Heap.SameBut.refl a s.heap) ⟨o, es, ep, t, ho, hex, hd, g, nd, fun i => ?_, hb, hf, by omega, hr, hl⟩
    rw [List.mem_append, hm i, List.mem_singleton]
    exact ⟨fun z => z.elim id fun e => e ▸ hSk, .inl⟩
  | none =>
    dsimp only
    have hnk : k ∉ es.toList.map keyT := fun z => by
      obtain ⟨e, he, q⟩ := (goodT_mem (P := P) g k).1 z
      have c := List.findIdx?_eq_none_iff.mp hfi e he
      rw [q] at c
      cases c
    have hgw : ∀ (b : Bool) {s₁ : Shared} {Q' : Unit → Shared → Prop}, Q' () s₁ → wpAny (model P w) A (match b with | true => rule "set.scan.the-table-gave-way" | false => pure ()) Q' E s₁ :=
      fun b s₁ Q' q => by cases b <;> first | exact wpAny_pure q | exact wpAny_rule q
    have pm := layNew_perm t es ((strKind P w).hash k) (.str k tk)
    have hf1 := layNew_fits t es ((strKind P w).hash k) (.str k tk)
    have hr1 := layNew_ris t es ((strKind P w).hash k) (.str k tk) hr
    have hl1 := layNew_led t es ((strKind P w).hash k) (.str k tk)
    generalize layNew t es ((strKind P w).hash k) (.str k tk) = Z at pm hf1 hr1 hl1 ⊢
    obtain ⟨es1, t1, wasDummy, gave⟩ := Z
    dsimp only at pm hf1 hr1 hl1 ⊢
    rw [Array.toList_push] at pm
    have pc : es1.toList.Perm (((strKind P w).hash k, Value.str k tk) :: es.toList) := pm.trans (List.perm_append_singleton _ _)
    have pk : (es1.toList.map keyT).Perm (k :: es.toList.map keyT) := pc.map keyT
    have g1 : ∀ e ∈ es1.toList, GoodT w e := fun e he => by
      rcases List.mem_cons.mp (pc.mem_iff.mp he) with z | z
      · rw [z]; exact ⟨k, tk, rfl, rfl⟩
      · exact g e z
    have nd1 : (es1.toList.map keyT).Nodup := pk.nodup_iff.mpr (List.nodup_cons.mpr ⟨hnk, nd⟩)
    have m1 : ∀ i, i ∈ l ++ [k] ↔ i ∈ es1.toList.map keyT := fun i => by
      rw [List.mem_append, List.mem_singleton, hm i, pk.mem_iff, List.mem_cons]
      exact Or.comm
    have hsz : es1.size = es.size + 1 := by rw [← Array.length_toList, pc.length_eq, List.length_cons, Array.length_toList]
    have hb1 : es1.size < scanBound := by rw [hsz]; omega
    have hled : w.params.followText "set-order" = true ∨ t1.led = true := hl.imp id fun z => by rw [hl1]; exact z
    refine wpAny_bind (hgw _ ?_)
    split
    · refine wpAny_bind ?_
      rw [hashByValue_scannable 8 hsc]
      refine wpAny_pure ?_
      refine setTx_tail (m := m + 1) ?_ ho hex hd g1 nd1 m1 hb1 ?_ (by omega) ?_ ?_ ?_
      · intro b s₁ Q' q; cases b <;> first | exact wpAny_pure q | exact wpAny_rule q
      · first | (split <;> first | exact hf1 | exact SetTable.fits_plain_off hf1) | exact hf1
      · first | (split <;> exact hr1) | exact hr1
      · first | (split <;> exact hled) | exact hled
      · intro h' sb r; dsimp only; exact wpAny_pure (hQ h' _ sb r)
    · refine wpAny_bind (wpAny_pure ?_)
      simp only [↓reduceIte]
      refine setTx_tail (m := m + 1) ?_ ho hex hd g1 nd1 m1 hb1 hf1 (by omega) hr1 hled ?_
      · intro b s₁ Q' q; cases b <;> first | exact wpAny_pure q | exact wpAny_rule q
      · intro h' sb r; dsimp only; exact wpAny_pure (hQ h' _ sb r)
theorem setTx_new (ho : h.get? a = some (emO w)) : SetTx w h a [] 0 :=
  ⟨_, #[], 0, _, ho, ⟨rfl, rfl, rfl⟩, rfl, (fun e he => by simp at he), (by simp), (fun k => by simp), (by decide), (by rfl), Nat.le_refl _, List.Pairwise.nil, by
    show _ ∨ (!w.params.followText "set-order") = true
    cases w.params.followText "set-order"
    · exact .inr rfl
    · exact .inl rfl⟩
theorem strs_at : ∀ {vs : List Value} {ws : List Str}, StrsAre vs ws → ∀ (i : Nat) (v : Value), vs[i]? = some v → ∃ k t, ws[i]? = some k ∧ v = .str k t
  | _, _, .nil, i, v, h => by simp at h
  | _, _, .cons k t r, 0, v, h => by
    simp at h
    exact ⟨k, t, rfl, h.symm⟩
  | _, _, .cons k t r, i + 1, v, h => strs_at r i v (by simpa using h)
/-- set(texts) -/
theorem call_setTx {k : Bool} {b : Addr} {items : Array Value} {ws : List Str} {Q : Value → Shared → Prop} (hh : A.handled = none) (hl : if k then s.heap.IsTuple b items else s.heap.IsList b items) (hi : StrsAre items.toList ws) (hb : ws.length + 1 < scanBound)
    (hQ : ∀ (h' : Heap) (tk : Nat), SetTx w h' s.heap.objs.size ws ws.length → (∀ b o, s.heap.get? b = some o → h'.get? b = some o) → Q (.ref s.heap.objs.size) { s with heap := h', toks := tk }) :
    wpAny (model P w) A (call (.type "set") [.ref b]) Q E s := by
  have hsz : items.size = ws.length := by
    have : ∀ {vs : List Value} {ys : List Str}, StrsAre vs ys → vs.length = ys.length := fun h => by
      induction h with
      | nil => rfl
      | cons _ _ _ ih => simp [ih]
    have := this hi
    rwa [Array.length_toList] at this
  refine call_setJ hh hl (fun i h => i ≤ ws.length ∧ SetTx w h s.heap.objs.size (ws.take i) i) (fun h' e _ => ⟨Nat.zero_le _, by rw [List.take_zero]; exact setTx_new e⟩)
    (fun i h h' ⟨a, b⟩ e => ⟨a, b.at fun o q => e _ o (Nat.ne_of_lt (Nat.lt_succ_self _)) q⟩) (fun A' E' i v s1 Q' _ hv ⟨hi1, hJ⟩ hq => ?_) fun h' tk ⟨_, hJ⟩ hk => ?_
  · obtain ⟨z, t, hz, rfl⟩ := strs_at hi i v (by rw [Array.getElem?_toList]; exact hv)
    have hlt : i < ws.length := (List.getElem?_eq_some_iff.mp hz).1
    unfold setAdd
    refine wpAny_holding ?_
    refine wpAny_bind ((strKind P w).pyHash (k := z) (strKind_is _ _ _ _) ?_)
    refine setTx_add (s := { s1 with toks := s1.toks + 1 }) hJ (by omega) fun h' b hsb hS2 => ?_
    refine hq h' (s1.toks + 1) b hsb (Nat.le_succ _) ⟨hlt, ?_⟩
    rw [List.take_add_one, hz]
    exact hS2
  · rw [hsz, List.take_of_length_le (Nat.le_refl _)] at hJ
    exact hQ h' tk hJ hk
end
end Pv

end
section
namespace Pv
open PySem PySem.Spec PyProof.Rows L2

/-! ### sorted(a set of texts) -/
def leS (a b : Str) : Bool := decide (a.cps.toList ≤ b.cps.toList)
theorem leS_trans (a b c : Str) (h1 : leS a b = true) (h2 : leS b c = true) : leS a c = true := by
  unfold leS at *
  rw [decide_eq_true_eq] at *
  exact List.le_trans h1 h2
theorem leS_total (a b : Str) : (leS a b || leS b a) = true := by
  unfold leS
  rw [Bool.or_eq_true, decide_eq_true_eq, decide_eq_true_eq]
  exact List.le_total _ _
theorem leS_anti (a b : Str) (h1 : leS a b = true) (h2 : leS b a = true) : a = b := by
  unfold leS at *
  rw [decide_eq_true_eq] at *
  exact PySem.W.str_of_cps (List.le_antisymm h1 h2)
theorem perm_sorted {α : Type} {le : α → α → Bool} (anti : ∀ a b, le a b = true → le b a = true → a = b) : ∀ {l m : List α}, l.Perm m → l.Pairwise (fun a b => le a b = true) → m.Pairwise (fun a b => le a b = true) → l = m
  | [], m, h, _, _ => (List.perm_nil.mp h.symm).symm
  | a :: l, [], h, _, _ => absurd h.length_eq (by simp)
  | a :: l, b :: m, h, h1, h2 => by
    obtain ⟨a1, a2⟩ := List.pairwise_cons.mp h1
    obtain ⟨b1, b2⟩ := List.pairwise_cons.mp h2
    have e : a = b := by
      rcases List.mem_cons.mp (h.mem_iff.mp (List.mem_cons_self (a := a) (l := l))) with z | z
      · exact z
      · rcases List.mem_cons.mp (h.mem_iff.mpr (List.mem_cons_self (a := b) (l := m))) with w | w
        · exact w.symm
        · exact anti _ _ (a1 _ w) (b1 _ z)
    subst e
    rw [perm_sorted anti (List.Perm.cons_inv h) a2 b2]
theorem sort_perm {l m : List Str} (h : l.Perm m) : l.mergeSort leS = m.mergeSort leS :=
  perm_sorted leS_anti (((List.mergeSort_perm l leS).trans h).trans (List.mergeSort_perm m leS).symm) (List.pairwise_mergeSort leS_trans leS_total l) (List.pairwise_mergeSort leS_trans leS_total m)
def ddT (ws : List Str) : List Str := ws.foldl (fun acc x => if x ∈ acc then acc else acc ++ [x]) []
theorem ddT_spec (l : List Str) : (ddT l).Nodup ∧ ∀ x, x ∈ ddT l ↔ x ∈ l := by
  have go : ∀ (l acc : List Str), acc.Nodup → (l.foldl (fun acc x => if x ∈ acc then acc else acc ++ [x]) acc).Nodup ∧ ∀ x, x ∈ l.foldl (fun acc x => if x ∈ acc then acc else acc ++ [x]) acc ↔ x ∈ acc ∨ x ∈ l := by
    intro l
    induction l with
    | nil => intro acc h; exact ⟨h, fun x => by simp⟩
    | cons a l ih =>
      intro acc h
      rw [List.foldl_cons]
      by_cases q : a ∈ acc
      · rw [if_pos q]
        obtain ⟨h1, h2⟩ := ih acc h
        refine ⟨h1, fun x => ?_⟩
        rw [h2, List.mem_cons]
        exact ⟨fun z => z.elim .inl fun w => .inr (.inr w), fun z => z.elim .inl fun w => w.elim (fun e => .inl (e ▸ q)) .inr⟩
      · rw [if_neg q]
        obtain ⟨h1, h2⟩ := ih (acc ++ [a]) (by
          rw [List.nodup_append]
          exact ⟨h, by simp, fun x hx y hy e => q (by rw [List.mem_singleton.mp hy] at e; exact e ▸ hx)⟩)
        refine ⟨h1, fun x => ?_⟩
        rw [h2, List.mem_append, List.mem_singleton, List.mem_cons]
        exact or_assoc
  obtain ⟨h1, h2⟩ := go l [] .nil
  exact ⟨h1, fun x => by unfold ddT; rw [h2]; simp⟩
/-- sorted(set(ws)) -/
def sortT (ws : List Str) : List Str := (ddT ws).mergeSort leS
theorem sortT_len (ws : List Str) : (sortT ws).length ≤ ws.length := by
  unfold sortT
  rw [List.length_mergeSort]
  have go : ∀ (l acc : List Str), (l.foldl (fun acc x => if x ∈ acc then acc else acc ++ [x]) acc).length ≤ acc.length + l.length := by
    intro l
    induction l with
    | nil => intro acc; simp
    | cons a l ih =>
      intro acc
      rw [List.foldl_cons]
      by_cases q : a ∈ acc
      · rw [if_pos q]; have := ih acc; simp; omega
      · rw [if_neg q]; have := ih (acc ++ [a]); simp at this ⊢; omega
  have := go ws []
  unfold ddT
  simpa using this
def strOf : Value → Str
  | .str k _ => k
  | _ => ""
section
variable {P : Program} {w : World} {A : Around} {E : Value → Shared → Prop} {s : Shared} {a : Addr} {ws : List Str} {m : Nat}
theorem sorted_setTx {Q : Value → Shared → Prop} (R : SetTx w s.heap a ws m) (hh : A.handled = none) (hu : A.units + 64 < cLine)
    (hQ : ∀ s' p (out : List Value) (c : Nat), (∀ b o, s.heap.get? b = some o → s'.heap.get? b = some o) → s'.gens = s.gens → s'.os = s.os → s.heap.objs.size ≤ p →
      s'.heap.get? p = some (seqObj "list" out.toArray c) → PySem.W.EachIs (fun v k => ∃ t, v = Value.str k t) out (sortT ws) → Q (.ref p) s') :
    wpAny (model P w) A (call (.builtin "sorted") [.ref a]) Q E s := by
  obtain ⟨o, es, ep, t, ho, hex, hd, g, nd, hm, hb, hf, hn, hr, hl⟩ := R
  refine Calls.call_function_entry kind_sorted plain_sorted entry_sorted (args_sorted1 _) ?_
  unfold Builtin.«sorted»
  refine wpAny_bind (m := checkCount "sorted" 1 1 _) (wpAny_pure ?_)
  refine wpAny_bind (collect_set (A := A.in1) hh ⟨o, ho, hex.1, hd⟩ hf hb hr hl fun s1 vs k1 hz g1 o1 pm => ?_)
  have hvl : vs.length = es.size := by rw [pm.length_eq, List.length_map, Array.length_toList]
  have hst : ∀ v ∈ vs, ∃ k tk, v = Value.str k tk := fun v hv => by
    obtain ⟨e, he, q⟩ := List.mem_map.mp (pm.mem_iff.mp hv)
    obtain ⟨k, tk, h1, _⟩ := g e he
    exact ⟨k, tk, by rw [← q]; exact h1⟩
  have pk : (vs.map strOf).Perm (es.toList.map keyT) := by
    have q := pm.map strOf
    rw [List.map_map] at q
    have e : es.toList.map (strOf ∘ fun e => e.2) = es.toList.map keyT := List.map_congr_left fun e he => by
      obtain ⟨k, tk, h1, _⟩ := g e he
      show strOf e.2 = keyT e
      unfold keyT
      rw [h1]; rfl
    rw [e] at q
    exact q
  have pd : (vs.map strOf).Perm (ddT ws) := pk.trans ((List.perm_ext_iff_of_nodup nd (ddT_spec ws).1).mpr fun k => by rw [(ddT_spec ws).2, hm])
  have each : ∀ vs : List Value, (∀ v ∈ vs, ∃ k tk, v = Value.str k tk) → PySem.W.EachIs (fun v k => ∃ t, v = Value.str k t) vs (vs.map strOf) := by
    intro vs
    induction vs with
    | nil => intro _; exact .nil
    | cons v vs ih =>
      intro h
      obtain ⟨k, tk, rfl⟩ := h v (by simp)
      exact .cons ⟨tk, rfl⟩ (ih fun u hu => h u (by simp [hu]))
  have e1 := each vs hst
  have hbz : es.size ≤ sizeLine := fits_of_scanBound hb
  refine wpAny_bind (wpAny_newList ?_ (by rw [hvl]; exact hbz))
  have hoL : (s1.heap.push (seqObj "list" vs.toArray 0)).get? s1.heap.objs.size = some (seqObj "list" vs.toArray 0) := Heap.get?_push_size _ rfl
  refine wpAny_bind (wpAny_holding (PySem.W.list_sort_data (enc := fun k : Str => PyData.str k) (bs := vs.map strOf) (s := { s1 with heap := s1.heap.push (seqObj "list" vs.toArray 0) }) hoL e1 (e1.mono fun v k ⟨t, e⟩ => ⟨[], by rw [e]; exact .str _ _, by simp⟩) (PySem.W.AllAlike.of fun b b' => rfl) (PySem.W.Sortable.others fun b => ⟨by simp, by simp⟩) (by rw [List.length_map, hvl]; exact hbz) (fun b _ => by
    show A.in1.units + 1 + 0 < cLine
    rw [Around.in1_units]; omega) fun out ho2 eo => ?_))
  obtain ⟨c, hc⟩ := sortedHeap_at (vs := vs) (out := out.toArray) hoL
  have es2 : (vs.map strOf).mergeSort (PySem.W.dataLe false fun k : Str => PyData.str k) = sortT ws := by
    have : (PySem.W.dataLe false fun k : Str => PyData.str k) = leS := PySem.W.dataLe_str (fun k : Str => k)
    rw [this]
    exact sort_perm pd
  rw [es2] at eo
  refine wpAny_pure ⟨_, rfl, hQ _ s1.heap.objs.size out c (fun b u e => ?_) g1 o1 hz hc eo⟩
  have q := k1 b u e
  have hlt := Heap.lt_size q
  show (sortedHeap (s1.heap.push (seqObj "list" vs.toArray 0)) s1.heap.objs.size vs out.toArray).get? b = some u
  rw [sortedHeap_old (Nat.ne_of_lt hlt) (by rw [size_push']; exact Nat.lt_succ_of_lt hlt)]
  exact Heap.get?_push_of_some _ q
end
def SetTxO (w : World) (a : Addr) (ws : List Str) : HO := .ext fun h => SetTx w h a ws ws.length
section
variable {X : Cx}
theorem setTxO_new {w : World} {P : Program} {H : Hp} {h : Heap} {a : Addr} {ws : List Str} (R : SetTx w h a ws ws.length) : ObjOk P w H h a (SetTxO w a ws) := by
  have ⟨o, _, _, _, ho, _⟩ := R
  exact ⟨R, ⟨o, ho⟩, fun h1 h2 p k => SetTx.at p k⟩
def rSetTx (K : PySem.W.Frag) (w : World) : List V → Hp → VK → Prop := fun vs H Q => ∃ (l : Addr) (ws : List Str), vs = [.ref l] ∧ (SqL K H l (ws.map V.str) ∨ SqT K H l (ws.map V.str)) ∧ ws.length ≤ 1000 ∧
  ∀ p, H p = none → Q (.ref p) (upd H p (SetTxO w p ws))
theorem cr_setTx (hc : X.calm = true) : CallR X (.type "set") (rSetTx X.K X.w) := by
  intro pins s σ H vs us Q I r h
  obtain ⟨l, ws, rfl, hl, hz, q⟩ := h
  rw [Vals.ref1 r]
  have hn : H s.heap.objs.size = none := I.hok.fresh (Nat.le_refl _)
  have hb : ws.length + 1 < scanBound := by unfold scanBound; omega
  have fin : ∀ (h' : Heap) (tk : Nat), SetTx X.w h' s.heap.objs.size ws ws.length → (∀ b o, s.heap.get? b = some o → h'.get? b = some o) → EP X pins σ Q (.ref s.heap.objs.size) { s with heap := h', toks := tk } := fun h' tk R k =>
    ⟨.ref s.heap.objs.size, _, I.laid (t' := tk) k (Nat.le_refl _) (setTxO_new R), rfl, q _ hn⟩
  rcases hl with hl | hl
  · obtain ⟨its, rv, pl, _⟩ := I.list hl
    exact call_setTx (k := false) (P := X.prog) (w := X.w) (I.ok.hd hc) (show s.heap.IsList l its.toArray from pl.isList) (by simpa using strsAre_of rv) hb fin
  · obtain ⟨its, rv, pl, _⟩ := I.tuple hl
    exact call_setTx (k := true) (P := X.prog) (w := X.w) (I.ok.hd hc) (show s.heap.IsTuple l its.toArray from pl) (by simpa using strsAre_of rv) hb fin
def rSortedTx (w : World) : List V → Hp → VK → Prop := fun vs H Q => ∃ (a : Addr) (ws : List Str), vs = [V.ref a] ∧ H a = some (SetTxO w a ws) ∧ ws.length ≤ 1000 ∧
  ∀ (p : Addr), H p = none → Q (.ref p) (upd H p (.lst ((sortT ws).map V.str)))
theorem cr_sortedTx (hc : X.calm = true) (hu : X.A.units + 64 < cLine) : CallR X (.builtin "sorted") (rSortedTx X.w) := by
  intro pins s σ H vs us Q I r h
  obtain ⟨a, ws, rfl, ha, hz, q⟩ := h
  have R : SetTx X.w s.heap a ws ws.length := (I.hok a _ ha).1
  rw [Vals.ref1 r]
  refine sorted_setTx (P := X.prog) R (I.ok.hd hc) hu fun s' p out c k g o hp hg hi => ?_
  have hlen : ((sortT ws).map V.str).length ≤ sizeLine := by have := sortT_len ws; rw [List.length_map, sizeLine_eq]; omega
  have hn : H p = none := I.hok.fresh hp
  have hv : ∀ {out : List Value} {ys : List Str}, PySem.W.EachIs (fun v k => ∃ t, v = Value.str k t) out ys → Vals (ys.map V.str) out := fun h => by
    induction h with
    | nil => exact .nil
    | cons h _ ih => obtain ⟨t, e⟩ := h; exact .cons ⟨t, e⟩ ih
  have J : Inv X pins σ (upd H p (.lst ((sortT ws).map V.str))) { s with heap := s'.heap, gens := s'.gens, drawn := s'.drawn, toks := s'.toks } :=
    I.call (ch := []) (Un.laid k hp hn) (I.hok.laid k hp ⟨hlen, out, c, hv hi, hg⟩) (by rw [g]; exact I.bare) (fun _ z => nomatch z)
  have e : s' = { s with heap := s'.heap, gens := s'.gens, drawn := s'.drawn, toks := s'.toks } := by
    cases s'
    cases s
    cases o
    rfl
  rw [e]
  exact ⟨.ref p, _, J, rfl, q p hn⟩
end
end Pv

end
section
namespace Pv
open PySem PySem.Spec PyProof.Rows L2

/-! ### set(list or tuple of tuples of numbers) -/
section
variable {P : Program} {w : World} {A : Around} {E : Value → Shared → Prop} {s : Shared}
theorem call_setTT {k : Bool} {l : Addr} {items : Array Value} (ks : List (Addr × List Int)) {Q : Value → Shared → Prop} (hh : A.handled = none) (hl : if k then s.heap.IsTuple l items else s.heap.IsList l items) (hit : items.toList = ks.map fun p => Value.ref p.1)
    (hk : ∀ p ∈ ks, IsT P w s.heap p.2 p.1) (hfew : ks.length < 64) (hu : A.units + 65 < cLine)
    (h : ∀ (h' : Heap) (tk : Nat) L es ep t, SetTR P w h' s.heap.objs.size L es ep t → Got ks ks.length L → (∀ b o, s.heap.get? b = some o → h'.get? b = some o) → Q (.ref s.heap.objs.size) { s with heap := h', toks := tk }) :
    wpAny (model P w) A (call (.type "set") [.ref l]) Q E s := by
  have hsz : items.size = ks.length := by
    have := congrArg List.length hit
    rwa [Array.length_toList, List.length_map] at this
  have lt : ∀ {b : Addr} {o : Obj}, s.heap.get? b = some o → b < s.heap.objs.size := fun e => Heap.lt_size e
  refine call_setJ hh hl (fun i h => i ≤ ks.length ∧ (∀ b o, s.heap.get? b = some o → h.get? b = some o) ∧ ∃ L es ep t, SetTR P w h s.heap.objs.size L es ep t ∧ Got ks i L) (fun h' e kp => ⟨Nat.zero_le _, kp, [], #[], 0, _, setTR_fresh e, Got.zero ks⟩)
    (fun i h h' ⟨a, kp, L, es, ep, t, R, g⟩ e => ⟨a, fun b o q => e b o (Nat.ne_of_lt (Nat.lt_succ_of_lt (lt q))) (kp b o q), L, es, ep, t, R.keep (fun o q => e _ o (Nat.ne_of_lt (Nat.lt_succ_self _)) q) fun p hp => isT_keep (hk p (List.mem_of_mem_take (g.sub p hp))) fun b o q => e b o (Nat.ne_of_lt (Nat.lt_succ_of_lt (lt q))) (kp b o q), g⟩)
    (fun A' E' i v s1 Q' hA' hv ⟨hi1, kp, L, es, ep, t, R, g⟩ hq => ?_) fun h' tk ⟨_, _, L, es, ep, t, R, g⟩ kp => ?_
  · have hv2 : (ks.map fun p => Value.ref p.1)[i]? = some v := by rw [← hit, Array.getElem?_toList]; exact hv
    rw [List.getElem?_map] at hv2
    cases hp : ks[i]? with
    | none => rw [hp] at hv2; cases hv2
    | some p =>
      rw [hp] at hv2
      obtain rfl : Value.ref p.1 = v := Option.some.inj hv2
      have hlt : i < ks.length := (List.getElem?_eq_some_iff.mp hp).1
      have hx : IsT P w s1.heap p.2 p.1 := isT_keep (hk p (List.mem_of_getElem? hp)) kp
      have hu' : A'.units < cLine := by omega
      unfold setAdd
      refine wpAny_holding ?_
      refine wpAny_bind (wpAny_pyHash_tuple hu' hx ?_)
      refine add_at (s := { s1 with toks := s1.toks + (p.2.length + 1) }) R hx hu' (by have := g.len; omega) fun b h' L' es' ep' t' hsb hS2 c1 c2 => ?_
      have g' : Got ks (i + 1) L' := by
        rcases Classical.em (p.2 ∈ L.map (·.2)) with c | c
        · rw [c1 c]; exact g.same hp c
        · exact g.more hp (c2 c)
      exact hq h' _ b hsb (Nat.le_add_right _ _) ⟨hlt, fun b o q => (hsb.2 b (Nat.ne_of_lt (lt q))).trans (kp b o q), L', es', ep', t', hS2, g'⟩
  · rw [hsz] at g
    exact h h' tk L es ep t R g kp
end
section
variable {X : Cx}
def rSetOfT2 (K : PySem.W.Frag) (P : Program) (w : World) : List V → Hp → VK → Prop := fun xs H Q => ∃ (l : Addr) (ks : List (Addr × List Int)), xs = [V.ref l] ∧ (SqL K H l (ks.map fun p => V.ref p.1) ∨ SqT K H l (ks.map fun p => V.ref p.1)) ∧ (∀ p ∈ ks, SqT K H p.1 (p.2.map V.int)) ∧ ks.length < 64 ∧
  ∀ a L, H a = none → (∀ p ∈ L, p ∈ ks) → (∀ p ∈ ks, p.2 ∈ L.map (·.2)) → Q (.ref a) (upd H a (SetTO P w a L))
theorem cr_setOfT2 (hc : X.calm = true) (hu : X.A.units + 65 < cLine) : CallR X (.type "set") (rSetOfT2 X.K X.prog X.w) := by
  intro pins s σ H xs us Q I r h
  obtain ⟨l, ks, rfl, hl, hk, hf, q⟩ := h
  rw [Vals.ref1 r]
  have hn : H s.heap.objs.size = none := I.hok.fresh (Nat.le_refl _)
  have fin : ∀ (h' : Heap) (tk : Nat) L es ep t, SetTR X.prog X.w h' s.heap.objs.size L es ep t → Got ks ks.length L → (∀ b o, s.heap.get? b = some o → h'.get? b = some o) → EP X pins σ Q (.ref s.heap.objs.size) { s with heap := h', toks := tk } := fun h' tk L es ep t R g k => by
    refine ⟨.ref s.heap.objs.size, upd H s.heap.objs.size (SetTO X.prog X.w s.heap.objs.size L), I.laid (t' := tk) k (Nat.le_refl _) (setTO_new R.t0), rfl, q _ L hn (fun p hp => ?_) fun p hp => ?_⟩
    · exact List.mem_of_mem_take (g.sub p hp)
    · exact g.all p (by rw [List.take_length]; exact hp)
  rcases hl with hl | hl
  · obtain ⟨its, rv, pl, hz⟩ := I.list hl
    exact call_setTT (k := false) (P := X.prog) (w := X.w) ks (I.ok.hd hc) (show s.heap.IsList l its.toArray from pl.isList) (by simpa using refs_of_vals rv) (fun p hp => Inv.isT I (hk p hp)) hf hu fin
  · obtain ⟨its, rv, pl, hz⟩ := I.tuple hl
    exact call_setTT (k := true) (P := X.prog) (w := X.w) ks (I.ok.hd hc) (show s.heap.IsTuple l its.toArray from pl) (by simpa using refs_of_vals rv) (fun p hp => Inv.isT I (hk p hp)) hf hu fin
end
end Pv

end
section

namespace Pv
open PySem PySem.Spec PyProof.Rows L2

/-! ### sorted(set(numbers)) -/
def ddD (ds : List D) : List D := ds.foldl (fun acc x => if acc.any (fun e => PyData.eqv e x) then acc else acc ++ [x]) []
def ssD (ds : List D) : D := .list (sortD (ddD ds))
theorem ddI_spec (ns : List Int) : (ddI ns).Nodup ∧ (∀ k, k ∈ ddI ns ↔ k ∈ ns) ∧ ddD (ns.map PyData.int) = (ddI ns).map PyData.int := by
  have e : (List.range ns.length).map (fun i => ns.getD i 0) = ns := by
    apply List.ext_getElem
    · simp
    · intro i h1 h2
      simp at h1 h2 ⊢
      simp [h1]
  unfold ddI PyProof.Rows.firstMet
  rw [e]
  have go : ∀ (ns acc : List Int), acc.Nodup → (ns.foldl PyProof.Rows.step_dedup acc).Nodup ∧ (∀ k, k ∈ ns.foldl PyProof.Rows.step_dedup acc ↔ k ∈ acc ∨ k ∈ ns) ∧ (ns.map PyData.int).foldl (fun acc x => if acc.any (fun e => PyData.eqv e x) then acc else acc ++ [x]) (acc.map PyData.int) = (ns.foldl PyProof.Rows.step_dedup acc).map PyData.int := by
    intro ns
    induction ns with
    | nil => intro acc h; exact ⟨h, fun k => by simp, rfl⟩
    | cons a ns ih =>
      intro acc h
      have hm : acc.any (· == a) = decide (a ∈ acc) := by
        induction acc with
        | nil => rfl
        | cons b acc ih2 =>
          rw [List.any_cons, ih2 (List.nodup_cons.mp h).2]
          by_cases q : b = a
          · subst q; simp
          · simp [q, Ne.symm q]
      have hq : (acc.map PyData.int).any (fun e => PyData.eqv e (.int a)) = decide (a ∈ acc) := by
        rw [List.any_map, ← hm]
        congr 1
      rw [List.foldl_cons, List.map_cons, List.foldl_cons, hq]
      have hst : PyProof.Rows.step_dedup acc a = if a ∈ acc then acc else acc ++ [a] := by
        unfold PyProof.Rows.step_dedup
        rw [hm]
        by_cases q : a ∈ acc <;> simp [q]
      rw [hst]
      by_cases q : a ∈ acc
      · rw [if_pos q, if_pos (by simpa using q)]
        obtain ⟨i1, i2, i3⟩ := ih acc h
        refine ⟨i1, fun k => ?_, i3⟩
        rw [i2, List.mem_cons]
        constructor
        · rintro (z | z)
          · exact .inl z
          · exact .inr (.inr z)
        · rintro (z | rfl | z)
          · exact .inl z
          · exact .inl q
          · exact .inr z
      · rw [if_neg q, if_neg (by simpa using q)]
        obtain ⟨i1, i2, i3⟩ := ih (acc ++ [a]) (by
          rw [List.nodup_append]
          refine ⟨h, by simp, fun x hx y hy => ?_⟩
          have : y = a := by simpa using hy
          subst this
          exact fun z => q (z ▸ hx))
        refine ⟨i1, fun k => ?_, ?_⟩
        · rw [i2, List.mem_append, List.mem_cons, or_assoc]; simp
        · rw [← i3, List.map_append]; rfl
  obtain ⟨h1, h2, h3⟩ := go ns [] .nil
  exact ⟨h1, fun k => by rw [h2]; simp, h3⟩
theorem sortD_ints (ns : List Int) : sortD (ns.map PyData.int) = (ns.mergeSort fun a b => decide (a ≤ b)).map PyData.int := by
  unfold sortD
  rw [← List.map_mergeSort (r := fun a b => decide (a ≤ b)) (s := fun a b => !PySem.W.dataLt b a)]
  intro a _ b _
  rw [PySem.W.dataLt_int]
  by_cases h : a ≤ b
  · rw [decide_eq_true h, decide_eq_false (by omega)]; rfl
  · rw [decide_eq_false h, decide_eq_true (by omega)]; rfl
theorem asc_uniq : ∀ {l m : List Int}, l.Pairwise (· < ·) → m.Pairwise (· < ·) → (∀ x, x ∈ l ↔ x ∈ m) → l = m
  | [], [], _, _, _ => rfl
  | [], b :: m, _, _, h => absurd ((h b).mpr (by simp)) (by simp)
  | a :: l, [], _, _, h => absurd ((h a).mp (by simp)) (by simp)
  | a :: l, b :: m, h1, h2, h => by
    obtain ⟨a1, a2⟩ := List.pairwise_cons.mp h1
    obtain ⟨b1, b2⟩ := List.pairwise_cons.mp h2
    have hab : a = b := by
      rcases List.mem_cons.mp ((h a).mp (by simp)) with e | e
      · exact e
      · rcases List.mem_cons.mp ((h b).mpr (by simp)) with e2 | e2
        · exact e2.symm
        · have := b1 a e; have := a1 b e2; omega
    subst hab
    congr 1
    refine asc_uniq a2 b2 fun x => ⟨fun hx => ?_, fun hx => ?_⟩
    · rcases List.mem_cons.mp ((h x).mp (by simp [hx])) with e | e
      · have := a1 x hx; omega
      · exact e
    · rcases List.mem_cons.mp ((h x).mpr (by simp [hx])) with e | e
      · have := b1 x hx; omega
      · exact e
theorem ssD_ints {ns ns' : List Int} (h1 : ns'.Pairwise (· < ·)) (h2 : ∀ k, k ∈ ns' ↔ k ∈ ns) : ssD (ns.map PyData.int) = .list (ns'.map PyData.int) := by
  obtain ⟨d1, d2, d3⟩ := ddI_spec ns
  unfold ssD
  rw [d3, sortD_ints]
  congr 2
  have hs : ((ddI ns).mergeSort fun a b => decide (a ≤ b)).Pairwise fun a b => decide (a ≤ b) = true := List.pairwise_mergeSort (fun a b d h1 h2 => by simp only [decide_eq_true_eq] at *; omega) (fun a b => by simp only [Bool.or_eq_true, decide_eq_true_eq]; omega) _
  have hn : ((ddI ns).mergeSort fun a b => decide (a ≤ b)).Nodup := (List.mergeSort_perm _ _).nodup_iff.mpr d1
  refine asc_uniq ?_ h1 fun x => ?_
  · refine List.Pairwise.imp ?_ (List.Pairwise.and hs hn)
    intro a b ⟨q1, q2⟩
    simp only [decide_eq_true_eq] at q1
    have : a ≠ b := q2
    omega
  · rw [List.mem_mergeSort, d2, h2]
section
variable {X : Cx}
/-- set(numbers), a list or a tuple -/
def rSetI (K : PySem.W.Frag) (w : World) : List V → Hp → VK → Prop := fun vs H Q => ∃ (l : Addr) (ns : List Int), vs = [.ref l] ∧ (SqL K H l (ns.map V.int) ∨ SqT K H l (ns.map V.int)) ∧ ns.length ≤ 4000 ∧
  ∀ p, H p = none → Q (.ref p) (upd H p (SetO w p (fun j => decide (j ∈ ns)) (ddI ns).length))
theorem setR_count {w : World} {h : Heap} {a : Addr} {ns : List Int} {c : Nat} (R : SetR w h a (fun j => decide (j ∈ ns)) c) : c = (ddI ns).length := by
  obtain ⟨o, es, ep, t, _, _, _, _, n1, m1, _, _, hc, _⟩ := R
  obtain ⟨d1, d2, _⟩ := ddI_spec ns
  have e : (es.toList.map keyOf).length = (ddI ns).length := ((List.perm_ext_iff_of_nodup n1 d1).mpr fun k => by rw [d2, ← m1]; simp).length_eq
  rw [List.length_map, Array.length_toList, hc] at e
  exact e
theorem cr_setI (hc : X.calm = true) : CallR X (.type "set") (rSetI X.K X.w) := by
  intro pins s σ H vs us Q I r h
  obtain ⟨l, ns, rfl, hl, hz, q⟩ := h
  rw [Vals.ref1 r]
  have hn : H s.heap.objs.size = none := I.hok.fresh (Nat.le_refl _)
  have hb : ns.length + 1 < scanBound := by unfold scanBound; omega
  have fin : ∀ (h' : Heap) (tk c : Nat), SetR X.w h' s.heap.objs.size (fun j => decide (j ∈ ns)) c → c ≤ ns.length → (∀ b o, s.heap.get? b = some o → h'.get? b = some o) → EP X pins σ Q (.ref s.heap.objs.size) { s with heap := h', toks := tk } := fun h' tk c R _ k => by
    rw [setR_count R] at R
    exact ⟨.ref s.heap.objs.size, _, I.laid (t' := tk) k (Nat.le_refl _) (setO_new R), rfl, q _ hn⟩
  rcases hl with hl | hl
  · obtain ⟨its, rv, pl, _⟩ := I.list hl
    exact set_of_list (P := X.prog) (w := X.w) ns (I.ok.hd hc) pl.isList (by simpa using RZ.intsAre_vals rv) hb fin
  · obtain ⟨its, rv, pl, _⟩ := I.tuple hl
    exact call_set_tupI (P := X.prog) (w := X.w) ns (I.ok.hd hc) (show s.heap.IsTuple l its.toArray from pl) (by simpa using RZ.intsAre_vals rv) hb fin
/-- len(set) -/
theorem cr_lenSetO : CallR X (.builtin "len") (fun vs H Q => ∃ (a : Addr) (S : Int → Bool) (n : Nat), vs = [.ref a] ∧ H a = some (SetO X.w a S n) ∧ n ≤ 4000 ∧ Q (.int n) H) := by
  intro pins s σ H vs us Q I r h
  obtain ⟨a, S, n, rfl, ha, hn, q⟩ := h
  rw [Vals.ref1 r]
  obtain ⟨o, es, ep, t, ho, hex, hd, _, _, _, _, hf, hc, _⟩ := setO_get I ha
  exact call_len_set ho hex hd hf (by rw [hc] <;> omega) ⟨.int n, H, I.tok _, ⟨_, by rw [hc]⟩, q⟩
def seqD : D → Option (List D)
  | .list ds => some ds
  | .tuple ds => some ds
  | _ => none
/-! sorted(set(pairs of small numbers)) -/
def pdD (e : Int × Int) : D := .tuple [.int e.1, .int e.2]
def prOf : D → Option (Int × Int)
  | .tuple [.int x, .int y] => if decide (0 ≤ x) && decide (x < 64) && decide (0 ≤ y) && decide (y < 64) then some (x, y) else none
  | _ => none
def prsOf : List D → Option (List (Int × Int))
  | [] => some []
  | d :: ds => match prOf d, prsOf ds with
    | some e, some r => some (e :: r)
    | _, _ => none
def PrB (e : Int × Int) : Prop := (0 ≤ e.1 ∧ e.1 < 64) ∧ 0 ≤ e.2 ∧ e.2 < 64
theorem prOf_eq {d : D} {e : Int × Int} (h : prOf d = some e) : d = pdD e ∧ PrB e := by
  unfold prOf at h
  split at h
  · split at h
    · rename_i q
      cases h
      simp only [Bool.and_eq_true, decide_eq_true_eq] at q
      exact ⟨rfl, ⟨q.1.1.1, q.1.1.2⟩, q.1.2, q.2⟩
    · cases h
  · cases h
theorem prsOf_eq : ∀ {ds : List D} {ps : List (Int × Int)}, prsOf ds = some ps → ds = ps.map pdD ∧ ∀ e ∈ ps, PrB e
  | [], ps, h => by cases h; exact ⟨rfl, by simp⟩
  | d :: ds, ps, h => by
    unfold prsOf at h
    split at h
    · rename_i e r h1 h2
      cases h
      obtain ⟨rfl, b⟩ := prOf_eq h1
      obtain ⟨rfl, bs⟩ := prsOf_eq h2
      refine ⟨rfl, fun x hx => ?_⟩
      rcases List.mem_cons.mp hx with rfl | hx
      · exact b
      · exact bs x hx
    · cases h
def prC (e : Int × Int) : Int := e.1 * 64 + e.2
theorem prC_inj {a b : Int × Int} (ha : PrB a) (hb : PrB b) (h : prC a = prC b) : a = b := by
  obtain ⟨a1, a2⟩ := a
  obtain ⟨b1, b2⟩ := b
  obtain ⟨⟨x1, x2⟩, x3, x4⟩ := ha
  obtain ⟨⟨y1, y2⟩, y3, y4⟩ := hb
  simp only [prC] at *
  have h1 : a1 = b1 := by omega
  have h2 : a2 = b2 := by omega
  rw [h1, h2]
theorem pd_eqv (a b : Int × Int) : PyData.eqv (pdD a) (pdD b) = decide (a = b) := by
  obtain ⟨a1, a2⟩ := a
  obtain ⟨b1, b2⟩ := b
  simp [pdD, PyData.eqv, PyData.eqvAll]
  rfl
theorem pd_lt {a b : Int × Int} (ha : PrB a) (hb : PrB b) : PySem.W.dataLt (pdD a) (pdD b) = decide (prC a < prC b) := by
  obtain ⟨⟨x1, x2⟩, x3, x4⟩ := ha
  obtain ⟨⟨y1, y2⟩, y3, y4⟩ := hb
  unfold pdD prC
  rw [PySem.W.dataLt_ii]
  congr 1
  apply propext
  omega
theorem dd_prs (ps : List (Int × Int)) : ∃ l : List (Int × Int), ddD (ps.map pdD) = l.map pdD ∧ l.Nodup ∧ ∀ e, e ∈ l ↔ e ∈ ps := by
  have go : ∀ (ps acc : List (Int × Int)), acc.Nodup → ∃ l : List (Int × Int), (ps.map pdD).foldl (fun acc x => if acc.any (fun e => PyData.eqv e x) then acc else acc ++ [x]) (acc.map pdD) = l.map pdD ∧ l.Nodup ∧ ∀ e, e ∈ l ↔ e ∈ acc ∨ e ∈ ps := by
    intro ps
    induction ps with
    | nil => intro acc h; exact ⟨acc, rfl, h, by simp⟩
    | cons a ps ih =>
      intro acc h
      have hq : (acc.map pdD).any (fun e => PyData.eqv e (pdD a)) = decide (a ∈ acc) := by
        rw [List.any_map, Bool.eq_iff_iff, List.any_eq_true, decide_eq_true_eq]
        constructor
        · rintro ⟨x, hx, e⟩
          simp only [Function.comp, pd_eqv, decide_eq_true_eq] at e
          exact e ▸ hx
        · intro hx
          exact ⟨a, hx, by simp only [Function.comp, pd_eqv, decide_eq_true_eq]⟩
      rw [List.map_cons, List.foldl_cons, hq]
      by_cases q : a ∈ acc
      · rw [if_pos (by simpa using q)]
        obtain ⟨l, l1, l2, l3⟩ := ih acc h
        refine ⟨l, l1, l2, fun e => ?_⟩
        rw [l3, List.mem_cons]
        constructor
        · rintro (z | z)
          · exact .inl z
          · exact .inr (.inr z)
        · rintro (z | rfl | z)
          · exact .inl z
          · exact .inl q
          · exact .inr z
      · rw [if_neg (by simpa using q)]
        obtain ⟨l, l1, l2, l3⟩ := ih (acc ++ [a]) (by
          rw [List.nodup_append]
          refine ⟨h, by simp, fun x hx y hy => ?_⟩
          have : y = a := by simpa using hy
          subst this
          exact fun z => q (z ▸ hx))
        refine ⟨l, by rw [← l1, List.map_append]; rfl, l2, fun e => ?_⟩
        rw [l3, List.mem_append, List.mem_cons, or_assoc]; simp
  obtain ⟨l, l1, l2, l3⟩ := go ps [] .nil
  exact ⟨l, l1, l2, fun e => by rw [l3]; simp⟩
theorem ssD_prs {ps qs : List (Int × Int)} (hb : ∀ e ∈ ps, PrB e) (h1 : qs.Pairwise fun a b => prC a < prC b) (h2 : ∀ e, e ∈ qs ↔ e ∈ ps) : ssD (ps.map pdD) = .list (qs.map pdD) := by
  obtain ⟨l, l1, l2, l3⟩ := dd_prs ps
  unfold ssD
  rw [l1]
  congr 1
  have hl : ∀ e ∈ l, PrB e := fun e he => hb e ((l3 e).mp he)
  have e1 : sortD (l.map pdD) = (l.mergeSort fun a b => decide (prC a ≤ prC b)).map pdD := by
    unfold sortD
    rw [← List.map_mergeSort (r := fun a b => decide (prC a ≤ prC b)) (s := fun a b => !PySem.W.dataLt b a)]
    intro a ha b hb'
    rw [pd_lt (hl b hb') (hl a ha)]
    by_cases h : prC a ≤ prC b
    · rw [decide_eq_true h, decide_eq_false (by omega)]; rfl
    · rw [decide_eq_false h, decide_eq_true (by omega)]; rfl
  rw [e1]
  congr 1
  obtain ⟨r, hr⟩ : ∃ r, r = l.mergeSort fun a b => decide (prC a ≤ prC b) := ⟨_, rfl⟩
  rw [← hr]
  have rp : r.Perm l := by rw [hr]; exact List.mergeSort_perm _ _
  have rs : r.Pairwise fun a b => decide (prC a ≤ prC b) = true := by
    rw [hr]
    exact List.pairwise_mergeSort (fun a b d h1 h2 => by simp only [decide_eq_true_eq] at *; omega) (fun a b => by simp only [Bool.or_eq_true, decide_eq_true_eq]; omega) _
  have rn : r.Nodup := rp.nodup_iff.mpr l2
  have rB : ∀ e ∈ r, PrB e := fun e he => hl e (rp.mem_iff.mp he)
  have rl : r.Pairwise fun a b => prC a < prC b := by
    refine List.Pairwise.imp_of_mem (fun {a b} ha hb' ⟨q1, q2⟩ => ?_) (List.Pairwise.and rs rn)
    simp only [decide_eq_true_eq] at q1
    have q2 : a ≠ b := q2
    have : prC a ≠ prC b := fun z => q2 (prC_inj (rB a ha) (rB b hb') z)
    omega
  have qB : ∀ e ∈ qs, PrB e := fun e he => hb e ((h2 e).mp he)
  have codes : r.map prC = qs.map prC := asc_uniq (List.pairwise_map.mpr rl) (List.pairwise_map.mpr h1) fun x => by
    rw [List.mem_map, List.mem_map]
    constructor
    · rintro ⟨e, he, rfl⟩; exact ⟨e, (h2 e).mpr ((l3 e).mp (rp.mem_iff.mp he)), rfl⟩
    · rintro ⟨e, he, rfl⟩; exact ⟨e, rp.mem_iff.mpr ((l3 e).mpr ((h2 e).mp he)), rfl⟩
  have inj : ∀ (r qs : List (Int × Int)), (∀ e ∈ r, PrB e) → (∀ e ∈ qs, PrB e) → r.map prC = qs.map prC → r = qs := by
    intro r
    induction r with
    | nil => intro qs _ _ h; cases qs with | nil => rfl | cons => simp at h
    | cons a r ih =>
      intro qs h1 h2 h
      cases qs with
      | nil => simp at h
      | cons b qs =>
        rw [List.map_cons, List.map_cons] at h
        obtain ⟨q1, q2⟩ := List.cons.inj h
        rw [prC_inj (h1 a (by simp)) (h2 b (by simp)) q1, ih qs (fun e he => h1 e (by simp [he])) (fun e he => h2 e (by simp [he])) q2]
  exact inj r qs rB qB codes
def ssP (d : D) : Res D := match seqD d with
  | some ds => match prsOf ds with
    | some ps => if decide (ps.length < 64) then .ok (ssD ds) else .st
    | none => .st
  | none => .st
def txtsOf : List D → Option (List Str)
  | [] => some []
  | .str x :: r => (txtsOf r).map (x :: ·)
  | _ => none
theorem txtsOf_eq : ∀ {ds : List D} {ws : List Str}, txtsOf ds = some ws → ds = ws.map PyData.str
  | [], ws, h => by cases h; rfl
  | d :: r, ws, h => by
    cases d <;> first | (cases h; done) | skip
    rename_i x
    have h : (txtsOf r).map (x :: ·) = some ws := h
    cases h2 : txtsOf r with
    | none => rw [h2] at h; cases h
    | some ys =>
      rw [h2] at h
      cases h
      rw [txtsOf_eq h2]; rfl
theorem RpL.texts {K : PySem.W.Frag} {H : Hp} {A : List Addr} : ∀ {vs : List V} {ws : List Str}, RpL K H A vs (ws.map PyData.str) → vs = ws.map V.str
  | [], [], _ => rfl
  | v :: vs, w :: ws, h => by
    rw [List.map_cons] at h
    cases h with
    | cons h1 h2 => cases h1; rw [RpL.texts h2]; rfl
theorem rpl_str {K : PySem.W.Frag} {H : Hp} {A : List Addr} : ∀ ws : List Str, RpL K H A (ws.map V.str) (ws.map PyData.str)
  | [] => .nil
  | w :: ws => .cons (.str w) (rpl_str ws)
def ssR (d : D) : Res D := match seqD d with
  | some ds => match intsOf ds with
    | some ns => if decide (ns.length ≤ 4000) && decide ((ddI ns).length < 64) then .ok (ssD ds) else .st
    | none => match txtsOf ds with
      | some ws => if ws.length ≤ 1000 then .ok (.list ((sortT ws).map .str)) else .st
      | none => ssP d
  | none => .st
def rSet2 (K : PySem.W.Frag) (P : Program) (w : World) : List V → Hp → VK → Prop := fun vs H Q => (rSetI K w vs H Q ∨ rSetTx K w vs H Q) ∨ rSetOfT2 K P w vs H Q
theorem cr_set2 (hc : X.calm = true) (hu : X.A.units + 65 < cLine) : CallR X (.type "set") (rSet2 X.K X.prog X.w) := by
  intro pins s σ H vs us Q I r h
  rcases h with (h | h) | h
  · exact cr_setI hc pins s σ H vs us Q I r h
  · exact cr_setTx hc pins s σ H vs us Q I r h
  · exact cr_setOfT2 hc hu pins s σ H vs us Q I r h
def rSorted2 (K : PySem.W.Frag) (P : Program) (w : World) : List V → Hp → VK → Prop := fun vs H Q => (rSortedSet w vs H Q ∨ rSortedTx w vs H Q) ∨ rSortedT K P w vs H Q
theorem cr_sorted2 (hc : X.calm = true) (hu : X.A.units + 64 < cLine) : CallR X (.builtin "sorted") (rSorted2 X.K X.prog X.w) := by
  intro pins s σ H vs us Q I r h
  rcases h with (h | h) | h
  · exact cr_sortedSet hc pins s σ H vs us Q I r h
  · exact cr_sortedTx hc hu pins s σ H vs us Q I r h
  · exact cr_sortedT hc pins s σ H vs us Q I r h
/-- the tuples behind a list of pairs -/
theorem prs_refs {K : PySem.W.Frag} {H : Hp} {A : List Addr} : ∀ {vs : List V} {ps : List (Int × Int)}, RpL K H A vs (ps.map pdD) → ∃ ks : List (Addr × List Int), vs = ks.map (fun p => V.ref p.1) ∧ ks.map (·.2) = ps.map (fun e => [e.1, e.2]) ∧ ∀ p ∈ ks, SqT K H p.1 (p.2.map V.int) ∧ Rp K H A (.ref p.1) (.tuple (p.2.map PyData.int))
  | [], [], _ => ⟨[], rfl, rfl, by simp⟩
  | v :: vs, e :: ps, h => by
    rw [List.map_cons] at h
    cases h with
    | cons h hs =>
      obtain ⟨ks, e1, e2, e3⟩ := prs_refs hs
      have h' := h
      unfold pdD at h
      cases h with
      | @tup a xs _ ht hr =>
        have hx : xs = [V.int e.1, V.int e.2] := by
          cases hr with
          | cons q1 q2 => cases q1; cases q2 with | cons q3 q4 => cases q3; cases q4; rfl
        subst hx
        refine ⟨(a, [e.1, e.2]) :: ks, by rw [e1]; rfl, by rw [List.map_cons, List.map_cons, e2], fun p hp => ?_⟩
        rcases List.mem_cons.mp hp with rfl | hp
        · exact ⟨ht.t, h'⟩
        · exact e3 p hp
variable {c : Ctx} {a : Expr} {fa : EvE} {pos p p2 q : Pos}
theorem seq_any {K : PySem.W.Frag} {H : Hp} {A : List Addr} {v : V} {d : D} {ds : List D} (h : RpB K H A v d) (e : seqD d = some ds) : ∃ a xs, v = .ref a ∧ (SqL K H a xs ∨ SqT K H a xs) ∧ RpL K H A xs ds := by
  cases d <;> first | (cases e; done) | skip
  · cases e
    obtain ⟨a, xs, rfl, hx, hr⟩ := h
    exact ⟨a, xs, rfl, .inl hx, hr⟩
  · cases e
    obtain ⟨a, xs, rfl, hx, hr⟩ := h.tuple
    exact ⟨a, xs, rfl, .inr hx.t, hr⟩
theorem seq_texts {K : PySem.W.Frag} {H : Hp} {A : List Addr} {v : V} {d : D} {ds : List D} {ws : List Str} (h : RpB K H A v d) (e : seqD d = some ds) (e2 : txtsOf ds = some ws) : ∃ a, v = .ref a ∧ (SqL K H a (ws.map V.str) ∨ SqT K H a (ws.map V.str)) := by
  have e3 := txtsOf_eq e2
  cases d <;> first | (cases e; done) | skip
  · cases e
    obtain ⟨a, xs, rfl, hx, hr⟩ := h
    subst e3
    rw [hr.texts] at hx
    exact ⟨a, rfl, .inl hx⟩
  · cases e
    obtain ⟨a, xs, rfl, hx, hr⟩ := h.tuple
    subst e3
    rw [hr.texts] at hx
    exact ⟨a, rfl, .inr hx.t⟩
theorem seq_ints {K : PySem.W.Frag} {H : Hp} {A : List Addr} {v : V} {d : D} {ds : List D} {ns : List Int} (h : RpB K H A v d) (e : seqD d = some ds) (e2 : intsOf ds = some ns) : ∃ a, v = .ref a ∧ (SqL K H a (ns.map V.int) ∨ SqT K H a (ns.map V.int)) := by
  have e3 := intsOf_eq e2
  cases d <;> first | (cases e; done) | skip
  · cases e
    obtain ⟨a, xs, rfl, hx, hr⟩ := h
    subst e3
    rw [hr.ints] at hx
    exact ⟨a, rfl, .inl hx⟩
  · cases e
    obtain ⟨a, xs, rfl, hx, hr⟩ := h.tuple
    subst e3
    rw [hr.ints] at hx
    exact ⟨a, rfl, .inr hx.t⟩
theorem se_sset (hb : ("sorted" : Str) ∈ c.blts) (hk : c.sc.names.lookup ("sorted" : Str) = some .globalImplicit) (hb2 : ("set" : Str) ∈ c.blts) (hk2 : c.sc.names.lookup ("set" : Str) = some .globalImplicit) (ha : SB c a fa) (hn : notStar a = true) :
    SE c (.Call (.Name "sorted" p) [.Call (.Name "set" p2) [a] [] q] [] pos) (fun Φ ρ => do let x ← fa Φ ρ; ssR x) := fun X Φ W ok tk =>
  have e1 := pe_callTy (p := p2) (pos := q) (cr_set2 ok.calm (by have := ok.hu; omega)) (gl_of ok hk2) (ok.blt _ hb2) (by decide +kernel) (pa_cons (ha X Φ W ok tk) pa_nil (star_of hn _ _)) (by decide) (by decide) (star_of hn _ _) (stars_of rfl)
  peI (pe_callB (cr_sorted2 ok.calm (by have := ok.hu; omega)) (gl_of ok hk) (ok.blt _ hb) (by decide +kernel) (pa_cons e1 pa_nil (star_of rfl _ _)) (by decide) (by decide) (star_of rfl _ _) (stars_of rfl)) fun σ H Q ⟨A, O, ρ, hA, hρ, q⟩ => by
    refine ⟨A, O, ρ, hA, hρ, q.bind fun d v H1 s1 p1 q1 => ?_⟩
    unfold ssR at q1
    cases hs : seqD d with
    | none => rw [hs] at q1; exact q1.elim
    | some ds =>
      rw [hs] at q1
      cases hi : intsOf ds with
      | none =>
        have q1 : Rt X.mg W (pE X.K A) H1 σ Q (match intsOf ds with | some ns => if decide (ns.length ≤ 4000) && decide ((ddI ns).length < 64) then .ok (ssD ds) else .st | none => (match txtsOf ds with | some ws => if ws.length ≤ 1000 then .ok (.list ((sortT ws).map .str)) else .st | none => ssP d)) := q1
        rw [hi] at q1
        cases ht : txtsOf ds with
        | some ws =>
          have q1 : Rt X.mg W (pE X.K A) H1 σ Q (match txtsOf ds with | some ws => if ws.length ≤ 1000 then .ok (.list ((sortT ws).map .str)) else .st | none => ssP d) := q1
          rw [ht] at q1
          have q1 : Rt X.mg W (pE X.K A) H1 σ Q (if ws.length ≤ 1000 then .ok (.list ((sortT ws).map .str)) else .st) := q1
          by_cases hz : ws.length ≤ 1000
          · rw [if_pos hz] at q1
            obtain ⟨l, rfl, hl⟩ := seq_texts p1 hs ht
            refine .inl (.inr ⟨l, ws, rfl, hl, hz, fun b nb => ?_⟩)
            refine .inl (.inr ⟨b, ws, rfl, upd_same, hz, fun r nr => ?_⟩)
            have hA1 := hA.same s1
            have sm := (same_upd (o := SetTxO X.w b ws) nb).trans (same_upd (o := .lst ((sortT ws).map V.str)) nr)
            exact q1 _ _ sm (.lst (.inl ⟨.inl upd_same, ((hA1.same (same_upd nb)).fresh nr)⟩) (rpl_str _))
          · rw [if_neg hz] at q1; exact q1.elim
        | none =>
        have q1 : Rt X.mg W (pE X.K A) H1 σ Q (match txtsOf ds with | some ws => if ws.length ≤ 1000 then .ok (.list ((sortT ws).map .str)) else .st | none => ssP d) := q1
        rw [ht] at q1
        have q1 : Rt X.mg W (pE X.K A) H1 σ Q (ssP d) := q1
        unfold ssP at q1
        rw [hs] at q1
        have q1 : Rt X.mg W (pE X.K A) H1 σ Q (match prsOf ds with | some ps => if decide (ps.length < 64) then .ok (ssD ds) else .st | none => .st) := q1
        cases hp : prsOf ds with
        | none => rw [hp] at q1; exact q1.elim
        | some ps =>
          rw [hp] at q1
          have q1 : Rt X.mg W (pE X.K A) H1 σ Q (if decide (ps.length < 64) then .ok (ssD ds) else .st) := q1
          by_cases hz : decide (ps.length < 64) = true
          · rw [if_pos hz] at q1
            obtain ⟨rfl, hB⟩ := prsOf_eq hp
            obtain ⟨l, xs, rfl, hx, hr⟩ := seq_any p1 hs
            obtain ⟨ks, e1, e2, e3⟩ := prs_refs hr
            subst e1
            have hkl : ks.length = ps.length := by
              have := congrArg List.length e2
              simpa using this
            refine .inr ⟨l, ks, rfl, hx, fun p hp => (e3 p hp).1, by have := of_decide_eq_true hz; omega, fun b L nb hL1 hL2 => ?_⟩
            have kmem : ∀ p ∈ ks, ∃ e ∈ ps, p.2 = [e.1, e.2] := fun p hp => by
              have : p.2 ∈ ks.map (·.2) := List.mem_map.mpr ⟨p, hp, rfl⟩
              rw [e2] at this
              obtain ⟨e, he, q⟩ := List.mem_map.mp this
              exact ⟨e, he, q.symm⟩
            refine .inr ⟨b, L, 2, 64, rfl, upd_same, fun p hp => (SqT_same (same_upd nb) (e3 p (hL1 p hp)).1), by decide, fun p hp => ?_, fun L' r hpm hnd _ hpw nr => ?_⟩
            · obtain ⟨e, he, q⟩ := kmem p (hL1 p hp)
              obtain ⟨⟨b1, b2⟩, b3, b4⟩ := hB e he
              rw [q]
              refine ⟨rfl, fun m hm => ?_⟩
              rcases List.mem_cons.mp hm with rfl | hm
              · exact ⟨b1, b2⟩
              · have : m = e.2 := by simpa using hm
                subst this; exact ⟨b3, b4⟩
            · have hA1 := hA.same s1
              have sm := (same_upd (o := SetTO X.prog X.w b L) nb).trans (same_upd (o := .lst (L'.map fun q => V.ref q.1)) nr)
              refine q1 _ _ sm ?_
              have lmem : ∀ p ∈ L', p ∈ ks := fun p hp => hL1 p (hpm.mem_iff.mp hp)
              obtain ⟨qs, hqs⟩ : ∃ qs : List (Int × Int), L'.map (·.2) = qs.map (fun e => [e.1, e.2]) := by
                have : ∀ M : List (Addr × List Int), (∀ p ∈ M, p ∈ ks) → ∃ qs : List (Int × Int), M.map (·.2) = qs.map (fun e => [e.1, e.2]) := by
                  intro M
                  induction M with
                  | nil => intro _; exact ⟨[], rfl⟩
                  | cons p M ih =>
                    intro h
                    obtain ⟨qs, hq⟩ := ih fun x hx => h x (by simp [hx])
                    obtain ⟨e, _, q⟩ := kmem p (h p (by simp))
                    exact ⟨e :: qs, by rw [List.map_cons, List.map_cons, hq, q]⟩
                exact this L' lmem
              have inj2 : ∀ {a b : Int × Int}, [a.1, a.2] = [b.1, b.2] → a = b := fun {a b} h => by
                obtain ⟨a1, a2⟩ := a
                obtain ⟨b1, b2⟩ := b
                simp at h
                rw [h.1, h.2]
              have qmem : ∀ e, e ∈ qs ↔ e ∈ ps := fun e => by
                constructor
                · intro he
                  have : [e.1, e.2] ∈ L'.map (·.2) := by rw [hqs]; exact List.mem_map.mpr ⟨e, he, rfl⟩
                  obtain ⟨p, hp, q⟩ := List.mem_map.mp this
                  obtain ⟨e', he', q'⟩ := kmem p (lmem p hp)
                  have : e = e' := inj2 (q.symm.trans q')
                  exact this ▸ he'
                · intro he
                  have : [e.1, e.2] ∈ ks.map (·.2) := by rw [e2]; exact List.mem_map.mpr ⟨e, he, rfl⟩
                  obtain ⟨p, hp, q⟩ := List.mem_map.mp this
                  have h3 := hL2 p hp
                  obtain ⟨p', hp', q'⟩ := List.mem_map.mp h3
                  have h4 : p'.2 ∈ L'.map (·.2) := List.mem_map.mpr ⟨p', hpm.mem_iff.mpr hp', rfl⟩
                  rw [hqs] at h4
                  obtain ⟨e', he', q''⟩ := List.mem_map.mp h4
                  have : e = e' := inj2 (by rw [q'', q', q])
                  exact this ▸ he'
              have hpw2 : qs.Pairwise fun a b => prC a < prC b := by
                have h6 : (L'.map (·.2)).Pairwise fun a b => TS.code 64 a ≤ TS.code 64 b := by rw [List.pairwise_map]; exact hpw
                have h5 : (L'.map (·.2)).Pairwise fun a b => TS.code 64 a ≤ TS.code 64 b ∧ a ≠ b := h6.and hnd
                rw [hqs, List.pairwise_map] at h5
                refine List.Pairwise.imp_of_mem (fun {a b} ha hb ⟨c1, c2⟩ => ?_) h5
                rw [code_pair, code_pair] at c1
                have : prC a ≠ prC b := fun z => c2 (by rw [prC_inj (hB a ((qmem a).mp ha)) (hB b ((qmem b).mp hb)) z])
                unfold prC at this ⊢
                omega
              rw [ssD_prs hB hpw2 qmem]
              refine .lst (.inl ⟨.inl upd_same, ((hA1.same (same_upd nb)).fresh nr)⟩) ?_
              have sm2 : Same H1 (upd (upd H1 b (SetTO X.prog X.w b L)) r (.lst (L'.map fun q => V.ref q.1))) := sm
              have fin : ∀ (M : List (Addr × List Int)) (qs : List (Int × Int)), (∀ p ∈ M, p ∈ ks) → M.map (·.2) = qs.map (fun e => [e.1, e.2]) → RpL X.K (upd (upd H1 b (SetTO X.prog X.w b L)) r (.lst (L'.map fun q => V.ref q.1))) A (M.map fun q => V.ref q.1) (qs.map pdD) := by
                intro M
                induction M with
                | nil => intro qs _ h; cases qs with | nil => exact .nil | cons => simp at h
                | cons p M ih =>
                  intro qs hM h
                  cases qs with
                  | nil => simp at h
                  | cons e qs =>
                    rw [List.map_cons, List.map_cons] at h
                    obtain ⟨g1, g2⟩ := List.cons.inj h
                    have hp := (e3 p (hM p (by simp))).2
                    rw [g1] at hp
                    exact .cons (hp.same sm2) (ih qs (fun x hx => hM x (by simp [hx])) g2)
              exact fin L' qs lmem hqs
          · rw [if_neg hz] at q1; exact q1.elim
      | some ns =>
        have q1 : Rt X.mg W (pE X.K A) H1 σ Q (match intsOf ds with | some ns => if decide (ns.length ≤ 4000) && decide ((ddI ns).length < 64) then .ok (ssD ds) else .st | none => (match txtsOf ds with | some ws => if ws.length ≤ 1000 then .ok (.list ((sortT ws).map .str)) else .st | none => ssP d)) := q1
        rw [hi] at q1
        have q1 : Rt X.mg W (pE X.K A) H1 σ Q (if decide (ns.length ≤ 4000) && decide ((ddI ns).length < 64) then .ok (ssD ds) else .st) := q1
        by_cases hz : (decide (ns.length ≤ 4000) && decide ((ddI ns).length < 64)) = true
        · rw [if_pos hz] at q1
          obtain ⟨z1, z2⟩ := and2 hz
          obtain ⟨l, rfl, hl⟩ := seq_ints p1 hs hi
          refine .inl (.inl ⟨l, ns, rfl, hl, of_decide_eq_true z1, fun b nb => ?_⟩)
          refine .inl (.inl ⟨b, _, _, rfl, upd_same, of_decide_eq_true z2, fun ns' r h1 h2 h3 nr => ?_⟩)
          have hA1 := hA.same s1
          have sm := (same_upd (o := SetO X.w b (fun j => decide (j ∈ ns)) (ddI ns).length) nb).trans (same_upd (o := .lst (ns'.map V.int)) nr)
          refine q1 _ _ sm ?_
          have e3 := intsOf_eq hi
          subst e3
          rw [ssD_ints (ns' := ns') h1 fun k => by rw [h2]; simp]
          exact .lst (.inl ⟨.inl upd_same, ((hA1.same (same_upd nb)).fresh nr)⟩) (rpl_int ns')
        · rw [if_neg hz] at q1; exact q1.elim
/-- len(set(numbers)), list or tuple -/
def lsR2 (d : D) : Res D := match seqD d with
  | some ds => lsI (intsOf ds)
  | none => .st
theorem se_lenset2 (hb : ("len" : Str) ∈ c.blts) (hk : c.sc.names.lookup ("len" : Str) = some .globalImplicit) (hb2 : ("set" : Str) ∈ c.blts) (hk2 : c.sc.names.lookup ("set" : Str) = some .globalImplicit) (ha : SB c a fa) (hn : notStar a = true) :
    SE c (.Call (.Name "len" p) [.Call (.Name "set" p2) [a] [] q] [] pos) (fun Φ ρ => do let x ← fa Φ ρ; lsR2 x) := fun X Φ W ok tk =>
  have e1 := pe_callTy (p := p2) (pos := q) (cr_setI ok.calm) (gl_of ok hk2) (ok.blt _ hb2) (by decide +kernel) (pa_cons (ha X Φ W ok tk) pa_nil (star_of hn _ _)) (by decide) (by decide) (star_of hn _ _) (stars_of rfl)
  peI (pe_callB cr_lenSetO (gl_of ok hk) (ok.blt _ hb) (by decide +kernel) (pa_cons e1 pa_nil (star_of rfl _ _)) (by decide) (by decide) (star_of rfl _ _) (stars_of rfl)) fun σ H Q ⟨A, O, ρ, hA, hρ, q⟩ => by
    refine ⟨A, O, ρ, hA, hρ, q.bind fun d v H1 s1 p1 q1 => ?_⟩
    unfold lsR2 at q1
    cases hs : seqD d with
    | none => rw [hs] at q1; exact q1.elim
    | some ds =>
      rw [hs] at q1
      have q1 : Rt X.mg W (pE X.K A) H1 σ Q (lsI (intsOf ds)) := q1
      cases hi : intsOf ds with
      | none => rw [hi] at q1; exact q1.elim
      | some ns =>
        rw [hi] at q1
        have q9 : Rt X.mg W (pE X.K A) H1 σ Q (if ns.length ≤ 4000 then .ok (.int ((ddI ns).length : Nat)) else .st) := q1
        by_cases hz : ns.length ≤ 4000
        · rw [if_pos hz] at q9
          obtain ⟨l, rfl, hl⟩ := seq_ints p1 hs hi
          refine ⟨l, ns, rfl, hl, hz, fun b nb => ?_⟩
          have hle := PyProof.Rows.firstMet_length_le (fun i => ns.getD i 0) ns.length
          exact ⟨b, _, _, rfl, upd_same, Nat.le_trans hle hz, q9 _ _ (same_upd nb) (.int _)⟩
        · rw [if_neg hz] at q9; exact q9.elim
end
/-! ### xs.index(x) -/
def idxL (ds : List D) (y : D) : Res D := if okD (.list ds) && okD y then Res.ofO ((SeqAt.dataPlace ds y).map fun j => .int (j : Nat)) else .st
def idxR (x : D) (m : Res D) : Res D := match x with
  | .list ds => m >>= idxL ds
  | _ => .st
section
variable {X : Cx}
theorem mt_idx (hu : X.A.units + 70 < cLine) : MtR X "list.index" (fun x xs H Q => ∃ (A : List Addr) (a : Addr) (vs : List V) (ds : List D) (y : V) (d : D) (j : Nat), x = .ref a ∧ xs = [y] ∧ SqL X.K H a vs ∧ RpL X.K H A vs ds ∧ Rp X.K H A y d ∧ (okD (.list ds) && okD d) = true ∧ SeqAt.dataPlace ds d = some j ∧ Q (.int (j : Nat)) H) := by
  intro pins s σ H x xs v us Q I rx rxs h
  obtain ⟨A, a, vs, ds, y, d, j, rfl, rfl, hl, hr, hy, hk, hp, q⟩ := h
  cases rx
  obtain ⟨k1, k2⟩ := and2 hk
  obtain ⟨p1, p2⟩ := and2 k1
  obtain ⟨p3, p4⟩ := and2 k2
  have p1 : PyData.plainAll ds = true := by simpa [PyData.plain] using p1
  have p2 := of_decide_eq_true p2
  have p4 := of_decide_eq_true p4
  cases rxs with
  | cons ry rt =>
    rename_i uy ut
    cases rt
    obtain ⟨its, rv, ⟨⟨cls, dd, data, sls⟩, n, ho, hc, hdn, hdt⟩, hlen⟩ := I.list hl
    simp only at hc hdt
    subst hc hdt
    obtain ⟨bs, r1⟩ := Dp.reads I d y uy (hy.dp p3) ry
    obtain ⟨as, r2⟩ := Dp.readsAll I ds vs its (hr.dp p1) rv
    obtain ⟨hj, e1, e2⟩ := SeqAt.hit_at (vs := its.toArray) (show ReadsAll s.heap its.toArray.toList ds as from r2) p1 hp
    have hsl := sizeLine_eq
    have hjl : j < its.length := by simpa using hj
    have hvl := rv.length
    refine call_meets PySem.F.slot_list_index ⟨_, ho, rfl⟩ PySem.F.entry_list_index (PySem.F.args_list_index_2 _ _)
      (SeqAt.list_indexAt a its.toArray n dd sls uy (fun u => PyData.eqv (SeqAt.readOf s.heap u) d) j hj (by omega) e1 e2) ⟨ho, fun u hu' => ?_, ⟨.int (j : Nat), H, I.tok _, ⟨_, rfl⟩, q⟩⟩
    have hu2 : u ∈ its := by simpa using hu'
    obtain ⟨i, hi, rfl⟩ := List.getElem_of_mem hu2
    obtain ⟨hi2, e3⟩ := SeqAt.readOf_at (vs := its.toArray) (show ReadsAll s.heap its.toArray.toList ds as from r2) p1 i (by simpa using hi)
    have e3 : SeqAt.readOf s.heap its[i] = ds[i] := by simpa using e3
    rw [e3]
    have hdl := SeqAt.ReadsAll.length ds its as r2
    have hx : vs[i]? = some vs[i] := List.getElem?_eq_getElem (by omega)
    obtain ⟨u2, q1, q2⟩ := rv.get hx
    rw [List.getElem?_eq_getElem hi] at q1
    cases q1
    obtain ⟨y2, q3, q4⟩ := hr.get hx
    rw [List.getElem?_eq_getElem hi2] at q3
    cases q3
    have pi := plainAll_iff.mp p1 ds[i] (List.getElem_mem hi2)
    obtain ⟨cs, r3⟩ := Dp.reads I _ _ _ (q4.dp pi) q2
    refine SeqAt.eqAt_plain ds[i] d X.A.in1 s _ _ cs bs r3 r1 pi p3 ?_
    show X.A.units + 1 + min _ _ < cLine
    omega
where
  plainAll_iff {ds : List D} : PyData.plainAll ds = true ↔ ∀ d ∈ ds, d.plain = true := by
    induction ds with
    | nil => simp [PyData.plainAll]
    | cons d ds ih => simp [PyData.plainAll, ih]
variable {c : Ctx} {a b : Expr} {fa fb : EvE} {pos apos : Pos}
theorem mtX {ι : Type} {id : String} {r : ι → V → List V → Hp → VK → Prop} (h : ∀ a, MtR X id (r a)) : MtR X id (fun x xs H Q => ∃ a, r a x xs H Q) := fun pins s σ H x xs v us Q I rx rxs ⟨a, q⟩ => h a pins s σ H x xs v us Q I rx rxs q
theorem se_idx {x : Str} {pn : Pos} (ha : SB c (.Name x pn) fa) (hb : SB c b fb) (hn : notStar b = true) (hline : (apos.endLine == pos.line) = true) :
    SE c (.Call (.Attribute (.Name x pn) "index" apos) [b] [] pos) (fun Φ ρ => do let x ← fa Φ ρ; idxR x (fb Φ ρ)) := fun X Φ W ok tk =>
  peI (pe_bm PySem.F.plainAttrs_list PySem.F.slot_list_index PySem.F.type_list_index (mt_idx ok.hu) (ha X Φ W ok tk) (pa_cons (hb X Φ W ok tk) pa_nil (star_of hn _ _)) rfl (few1 hn) hline (star_of hn _ _) rfl) fun σ H Q ⟨A, O, ρ, hA, hρ, q⟩ => by
    refine ⟨A, O, ρ, hA, hρ, q.bind fun d v H1 s1 p1 q1 => ?_⟩
    cases d with
    | list ds =>
      obtain ⟨l, xs, rfl, hx, hr⟩ := p1
      refine ⟨.inl ⟨rfl, xs, hx⟩, A, O, ρ, hA.same s1, hρ.same s1, Rt.bind (m := fb Φ ρ) (g := idxL ds) q1 fun e u H2 s2 p2 q2 => ?_⟩
      have q2 : Rt X.mg W (pE X.K A) H2 σ Q (if okD (.list ds) && okD e then Res.ofO ((SeqAt.dataPlace ds e).map fun j => .int (j : Nat)) else .st) := q2
      by_cases hk : (okD (.list ds) && okD e) = true
      · rw [if_pos hk] at q2
        obtain ⟨r, e1, e2⟩ := q2.ofO
        obtain ⟨j, e3, rfl⟩ := Option.map_eq_some_iff.mp e1
        exact ⟨[], l, xs, ds, u, e, j, rfl, rfl, s2.seq hx, (hr.same s2).sub (by simp), rpb_rp p2, hk, e3, e2 _ _ (Same.refl _) (.int _)⟩
      · rw [if_neg hk] at q2; exact q2.elim
    | _ => exact q1.elim
end
end Pv

end
section
namespace Pv
open PySem PySem.Spec PyProof.Rows L2

/-! ### dict comprehensions -/
def dcL (asg : D → Res Env) (cond key val : Env → Res D) : List D → List (D × D) → Res (List (D × D))
  | [], acc => .ok acc
  | d :: ds, acc => do
    let ρ' ← noex (asg d)
    let k ← noex (cond ρ')
    match k with
    | .bool true => do
      let y ← noex (key ρ')
      let z ← noex (val ρ')
      let kk ← Res.ofO (keyO y)
      dcL asg cond key val ds (putE acc kk z)
    | .bool false => dcL asg cond key val ds acc
    | _ => .st
def dcE (own : List Nat) (t : Tg) (fi : EvL) (fc fk fv : EvE) : EvE := fun Φ ρ => do
  let ds ← fi Φ ρ
  if sm ds.length then do
    let r ← dcL (fun d => asgT t d (wipeE ρ own)) (fc Φ) (fk Φ) (fv Φ) ds []
    pure (.dict r)
  else .st
theorem noex_no {α : Type} {m : Res α} {c : Str} : noex m ≠ .ex c := by cases m <;> intro h <;> cases h
theorem dcL_noex {asg : D → Res Env} {cond key val : Env → Res D} {c : Str} : ∀ (ds : List D) (acc : List (D × D)), dcL asg cond key val ds acc ≠ .ex c
  | [], acc, h => by cases h
  | d :: ds, acc, h => by
    unfold dcL at h
    cases h1 : noex (asg d) with
    | st => rw [h1] at h; cases h
    | ex z => exact noex_no h1
    | ok ρ' =>
      rw [h1, Res.ok_bind] at h
      cases h2 : noex (cond ρ') with
      | st => rw [h2] at h; cases h
      | ex z => exact noex_no h2
      | ok k =>
        rw [h2, Res.ok_bind] at h
        cases k with
        | bool b =>
          cases b with
          | false => exact dcL_noex ds acc h
          | true =>
            have h : (noex (key ρ') >>= fun y => noex (val ρ') >>= fun z => Res.ofO (keyO y) >>= fun kk => dcL asg cond key val ds (putE acc kk z)) = .ex c := h
            cases h3 : noex (key ρ') with
            | st => rw [h3] at h; cases h
            | ex z => exact noex_no h3
            | ok y =>
              rw [h3, Res.ok_bind] at h
              cases h4 : noex (val ρ') with
              | st => rw [h4] at h; cases h
              | ex z => exact noex_no h4
              | ok z =>
                rw [h4, Res.ok_bind] at h
                cases h5 : keyO y with
                | none => rw [h5] at h; cases h
                | some kk => rw [h5] at h; exact dcL_noex ds _ h
        | _ => cases h
/-! ### expressions that make a new dict -/
def RtFd (K : PySem.W.Frag) (mg : Str → Option Value) (W : WX) (A : List Addr) (H : Hp) (σ : L2.St) (Q : VK) : Res D → Prop
  | .st => False
  | .ok (.dict es) => ∀ p kvs ds H1, Same H H1 → H p = none → H1 p = some (.dK kvs) → RpL K H1 (p :: A) (kvs.map (·.2)) ds → es = zipE kvs ds → Q (.ref p) H1
  | .ok _ => False
  | .ex c => ∀ C H', Same H H' → mg c = some (.ref C) → W (.ref C) none σ H'
def tFd (K : PySem.W.Frag) (mg : Str → Option Value) (W : WX) (f : Env → Res D) : TE := fun σ H Q => ∃ A O ρ, AOk H A ∧ EnvOk K H A O σ ρ ∧ RtFd K mg W A H σ Q (f ρ)
def SFd (c : Ctx) (e : Expr) (f : EvE) : Prop := ∀ X Φ W, Ok c X Φ → Takes X W → PE X e (tFd X.K X.mg W (f Φ))
section
variable {K : PySem.W.Frag} {mg : Str → Option Value} {W : WX} {A : List Addr} {H H1 : Hp} {σ : L2.St} {Q Q1 : VK}
theorem RtFd.of {m : Res D} (hA : AOk H A) (h : Rt mg W (pE K A) H σ Q m) (hd : ∀ d, m = .ok d → ∃ es, d = .dict es) : RtFd K mg W A H σ Q m := by
  cases m with
  | st => exact h
  | ok d =>
    obtain ⟨es, rfl⟩ := hd d rfl
    exact fun p kvs ds H1 s np e r q => h _ _ s (.dic (.inl e) (hA.fresh np) (r.sub fun _ z => List.mem_cons_of_mem _ z) q)
  | ex c => exact h
end
section
variable {c : Ctx} {a e iter tg : Expr} {fa fc fk fv fe : EvE} {fi : EvL} {pos pos' : Pos}
theorem keyO_V {K : PySem.W.Frag} {H : Hp} {A : List Addr} {v : V} {d : D} {k : Key} (h : Rp K H A v d) (e : keyO d = some k) : v = kV k := key_V h e
theorem dc_readF {K : PySem.W.Frag} {mg : Str → Option Value} {W : WX} {bor : Bool} {t : Tg} {Φ : Calls} {own : List Nat} (ht : ∀ i ∈ t.slots, i ∈ own) {A : List Addr} {O : List (List Addr)} {ρ : Env} {σ : L2.St} {H : Hp} {Q : VK} (hA : AOk H A) (hρ : EnvOk K H A O σ ρ)
    (q : RtFd K mg W A H σ Q (dcE own t fi fc fk fv Φ ρ)) : tDc (tI K mg W bor (fi Φ)) (tG K t) (tXT K mg W0 (fc Φ)) (tX K mg W0 pE (fk Φ)) (tX K mg W0 pE (fv Φ)) own σ H Q := by
  refine ⟨A, O, ρ, hA, hρ, ?_⟩
  unfold dcE at q
  cases hi : fi Φ ρ with
  | st => rw [hi] at q; exact q
  | ex z => rw [hi] at q; exact q
  | ok ds =>
    rw [hi, Res.ok_bind] at q
    intro J H1 s1 wk D nD
    have hsm : sm ds.length = true := by
      by_cases h : sm ds.length = true
      · exact h
      · rw [if_neg h] at q; exact q.elim
    rw [if_pos hsm] at q
    cases hr : dcL (fun d => asgT t d (wipeE ρ own)) (fc Φ) (fk Φ) (fv Φ) ds [] with
    | st => rw [hr] at q; exact q.elim
    | ex z => exact (dcL_noex ds [] hr).elim
    | ok total =>
      rw [hr] at q
      have q : ∀ p kvs ds H1, Same H H1 → H p = none → H1 p = some (.dK kvs) → RpL K H1 (p :: A) (kvs.map (·.2)) ds → total = zipE kvs ds → Q (.ref p) H1 := q
      have hA1 := hA.same s1
      have hρ1 := hρ.same s1
      have hz : ds.length ≤ 1000000 := of_decide_eq_true hsm
      have hS := sizeLine_eq
      refine ⟨fun i m H2 => m = ds.length - i ∧ i ≤ ds.length ∧ Same H1 H2 ∧ ∃ kvs accD, H2 D = some (.dK kvs) ∧ RpL K H2 (D :: A) (kvs.map (·.2)) accD ∧ dcL (fun d => asgT t d (wipeE ρ own)) (fc Φ) (fk Φ) (fv Φ) (ds.drop i) (zipE kvs accD) = .ok total ∧ kvs.length ≤ i,
        ⟨ds.length, by simp, Nat.zero_le _, same_upd nD, [], [], upd_same, .nil, by simpa [zipE] using hr, Nat.le_refl _⟩, ?_⟩
      rintro i m H2 ⟨rfl, hi, s2, kvs, accD, hD, hacc, hrest, hlen⟩
      have hA2 : AOk H2 (D :: A) := fun p hp => by
        rcases List.mem_cons.mp hp with rfl | hp
        · exact ⟨_, hD, trivial⟩
        · exact (hA1.same s2) p hp
      have hρ2 : EnvOk K H2 (D :: A) O σ ρ := (hρ1.new nD).same s2
      obtain ⟨wgo, wst⟩ := wk i H2 (D :: A) (fun b o _ e => s2 b o e) fun p hp => by
        rcases List.mem_cons.mp hp with rfl | hp
        · exact .inr nD
        · exact .inl hp
      by_cases hlt : i < ds.length
      · have hd : ds[i]? = some ds[i] := List.getElem?_eq_getElem hlt
        obtain ⟨go, yl⟩ := wgo _ hd
        have hdrop : ds.drop i = ds[i] :: ds.drop (i + 1) := List.drop_eq_getElem_cons hlt
        rw [hdrop] at hrest
        unfold dcL at hrest
        cases h1 : asgT t ds[i] (wipeE ρ own) with
        | st => rw [h1] at hrest; cases hrest
        | ex z => rw [h1] at hrest; cases hrest
        | ok ρ' =>
          have e1 : noex (asgT t ds[i] (wipeE ρ own)) = .ok ρ' := by rw [h1]; rfl
          rw [e1, Res.ok_bind] at hrest
          refine .inr ⟨go, fun H' => Same H1 H' ∧ ∃ kvs accD, H' D = some (.dK kvs) ∧ RpL K H' (D :: A) (kvs.map (·.2)) accD ∧ dcL (fun d => asgT t d (wipeE ρ own)) (fc Φ) (fk Φ) (fv Φ) (ds.drop (i + 1)) (zipE kvs accD) = .ok total ∧ kvs.length ≤ i + 1,
            fun H' ⟨s', x⟩ => ⟨ds.length - (i + 1), by omega, rfl, hlt, s', x⟩, fun x H' hy => ?_⟩
          obtain ⟨s3, hx⟩ := yl x H' hy
          refine ⟨D :: A, wipeO O own, wipeE ρ own, ds[i], hA2.same s3, (hρ2.same s3).wipe own, hx, ?_⟩
          rw [h1]
          refine fun σ' O' e4 _ e5 => ⟨?_, ?_⟩
          · have e6 := e5 own ht
            rw [e6]
            have idem : ∀ vs : List Nat, wipe (wipe σ vs) vs = wipe σ vs := fun vs => by
              apply List.ext_getElem?
              intro j
              by_cases hj : j < σ.length
              · rw [wipe_at (by rw [wipe_length]; exact hj), wipe_at hj]
                by_cases hm : j ∈ vs
                · rw [if_pos hm, if_pos hm]
                · rw [if_neg hm, if_neg hm]
              · rw [List.getElem?_eq_none (by rw [wipe_length, wipe_length]; omega), List.getElem?_eq_none (by rw [wipe_length]; omega)]
            exact idem own
          · refine ⟨D :: A, O', ρ', hA2.same s3, e4, ?_⟩
            cases h2 : fc Φ ρ' with
            | st => rw [h2] at hrest; cases hrest
            | ex z => rw [h2] at hrest; cases hrest
            | ok k =>
              have e7 : noex (fc Φ ρ') = .ok k := by rw [h2]; rfl
              rw [e7, Res.ok_bind] at hrest
              have hD3 : H' D = some (.dK kvs) := s3 _ _ hD
              cases k with
              | bool b =>
                intro H3 s4
                have s34 := s3.trans s4
                cases b with
                | false =>
                  refine iteF ⟨(s2.trans s3).trans s4, kvs, accD, s4 _ _ hD3, (hacc.same s3).same s4, hrest, by omega⟩
                | true =>
                  have hrest : (noex (fk Φ ρ') >>= fun y => noex (fv Φ ρ') >>= fun z => Res.ofO (keyO y) >>= fun kk => dcL (fun d => asgT t d (wipeE ρ own)) (fc Φ) (fk Φ) (fv Φ) (ds.drop (i + 1)) (putE (zipE kvs accD) kk z)) = .ok total := hrest
                  refine iteT ⟨D :: A, O', ρ', hA2.same s34, e4.same s4, ?_⟩
                  cases h3 : fk Φ ρ' with
                  | st => rw [h3] at hrest; cases hrest
                  | ex z => rw [h3] at hrest; cases hrest
                  | ok y =>
                    have e8 : noex (fk Φ ρ') = .ok y := by rw [h3]; rfl
                    rw [e8, Res.ok_bind] at hrest
                    intro vk H4 s5 hvk
                    have s345 := s34.trans s5
                    refine ⟨D :: A, O', ρ', hA2.same s345, (e4.same s4).same s5, ?_⟩
                    cases h4 : fv Φ ρ' with
                    | st => rw [h4] at hrest; cases hrest
                    | ex z => rw [h4] at hrest; cases hrest
                    | ok z =>
                      have e9 : noex (fv Φ ρ') = .ok z := by rw [h4]; rfl
                      rw [e9, Res.ok_bind] at hrest
                      cases h5 : keyO y with
                      | none => rw [h5] at hrest; cases hrest
                      | some kk =>
                        rw [h5, Res.ofO_some, Res.ok_bind] at hrest
                        intro v H5 s6 hv
                        have sAll := s345.trans s6
                        have hD5 : H5 D = some (.dK kvs) := sAll _ _ hD
                        have hacc5 : RpL K H5 (D :: A) (kvs.map (·.2)) accD := hacc.same sAll
                        obtain ⟨ds', r1, r2⟩ := put_zip (k := kk) hacc5 hv
                        have hAD : AOk H5 [D] := fun p hp => by
                          have : p = D := by simpa using hp
                          subst this
                          exact ⟨_, hD5, trivial⟩
                        have bt : But [D] H5 (upd H5 D (.dK (putK kvs kk v))) := But.upd (by simp)
                        refine ⟨kvs, kk, keyO_V hvk h5, hD5, by rw [hS]; omega, ?_, putK kvs kk v, ds', upd_same, r1.but bt hAD (by simp), by rw [← r2]; exact hrest, ?_⟩
                        · intro b o hb
                          have hb5 : H5 b = some o := s6 _ _ (s5 _ _ (s4 _ _ (s3 _ _ (s2 _ _ hb))))
                          rw [upd_ne (fun z => by rw [z, nD] at hb; cases hb)]
                          exact hb5
                        · have := length_putK kvs kk v
                          omega
              | _ => cases hrest
      · have e : i = ds.length := by omega
        subst e
        rw [List.drop_length] at hrest
        cases hrest
        exact .inl ⟨wst (Nat.le_refl _), q D kvs accD _ (s1.trans s2) (s1.free nD) hD hacc rfl⟩
theorem dcE_dict {own : List Nat} {t : Tg} {Φ : Calls} {ρ : Env} {d : D} (h : dcE own t fi fc fk fv Φ ρ = .ok d) : ∃ es, d = .dict es := by
  unfold dcE at h
  cases hi : fi Φ ρ with
  | st => rw [hi] at h; cases h
  | ex z => rw [hi] at h; cases h
  | ok ds =>
    rw [hi, Res.ok_bind] at h
    by_cases hz : sm ds.length = true
    · rw [if_pos hz] at h
      cases hr : dcL (fun d => asgT t d (wipeE ρ own)) (fc Φ) (fk Φ) (fv Φ) ds [] with
      | st => rw [hr] at h; cases h
      | ex z => rw [hr] at h; cases h
      | ok r => rw [hr] at h; cases h; exact ⟨r, rfl⟩
    · rw [if_neg hz] at h; cases h
theorem sfd_dc {scope : Scope} {own : List (Str × Nat)} {ifs : List Expr} {kx vx : Expr} {t : Tg} (bor : Bool) (hi : SI bor c tg iter fi) (bo : BlkOk c.N c.sc scope own) (hg : SG (c.blk scope) tg t) (ht : ∀ i ∈ t.slots, i ∈ own.map (·.2)) (hc : STs (c.blk scope) ifs fc) (hk : SE (c.blk scope) kx fk) (hv : SE (c.blk scope) vx fv)
    (hs : ∀ env x, foldedSetIterable iter env x = pure x) : SFd c (.DictComp kx vx [⟨tg, iter, ifs, 0⟩] scope pos) (dcE (own.map (·.2)) t fi fc fk fv) := fun X Φ W ok tk =>
  peI (pe_dc ok.calm (by rw [ok.hN]; exact ok.nd) (hi X Φ W ok tk) (by rw [ok.hN, ok.sc]; exact bo)
    (fun s H C cl fp => hg _ Φ (ok_blk ok bo s H C cl fp)) (fun s H C cl fp => hc _ Φ W0 (ok_blk ok bo s H C cl fp) takes0) (fun s H C cl fp => hk _ Φ W0 (ok_blk ok bo s H C cl fp) takes0) (fun s H C cl fp => hv _ Φ W0 (ok_blk ok bo s H C cl fp) takes0) (hs _))
    fun σ H Q ⟨A, O, ρ, hA, hρ, q⟩ => dc_readF ht hA hρ q
theorem se_dc {scope : Scope} {own : List (Str × Nat)} {ifs : List Expr} {kx vx : Expr} {t : Tg} (bor : Bool) (hi : SI bor c tg iter fi) (bo : BlkOk c.N c.sc scope own) (hg : SG (c.blk scope) tg t) (ht : ∀ i ∈ t.slots, i ∈ own.map (·.2)) (hc : STs (c.blk scope) ifs fc) (hk : SE (c.blk scope) kx fk) (hv : SE (c.blk scope) vx fv)
    (hs : ∀ env x, foldedSetIterable iter env x = pure x) : SE c (.DictComp kx vx [⟨tg, iter, ifs, 0⟩] scope pos) (dcE (own.map (·.2)) t fi fc fk fv) := fun X Φ W ok tk =>
  peI (sfd_dc (pos := pos) bor hi bo hg ht hc hk hv hs X Φ W ok tk) fun σ H Q ⟨A, O, ρ, hA, hρ, q⟩ => ⟨A, O, ρ, hA, hρ, RtFd.of hA q fun d h => dcE_dict h⟩
def dNil : EvE := fun _ _ => .ok (.dict [])
theorem sfd_nil : SFd c (.Dict [] [] pos) dNil := fun X Φ W ok tk =>
  peI pe_dnewK fun σ H Q ⟨A, O, ρ, hA, hρ, q⟩ => fun p np => q p [] [] _ (same_upd np) np upd_same .nil rfl
theorem se_dnil : SE c (.Dict [] [] pos) dNil := fun X Φ W ok tk =>
  peI (sfd_nil (pos := pos) X Φ W ok tk) fun σ H Q ⟨A, O, ρ, hA, hρ, q⟩ => ⟨A, O, ρ, hA, hρ, RtFd.of hA q fun d h => by cases h; exact ⟨[], rfl⟩⟩
/-! statements -/
def stD (i : Nat) (m : Res D) (ρ : Env) : SR := onE m ρ fun d => match d with | .dict es => if i < ρ.length then .nx (ρ.set i (some (true, .dict es))) else .st | _ => .st
theorem rtf_stD {K : PySem.W.Frag} {mg : Str → Option Value} {W : WX} {F : Fm} {O : List (List Addr)} {σ : L2.St} {H : Hp} {ρ : Env} {Dn : Ends} {i : Nat} {m : Res D} (h : RtS K mg W F Dn (stD i m ρ)) (hF : F.Ok) (s : StO K F O σ H ρ) : RtFd K mg W (F.A0 ++ rts O) H σ (fun x H1 => gName i x σ H1 Dn.nx) m := by
  unfold stD at h
  cases m with
  | st => exact h
  | ex c => exact fun C H' s' hm => h C σ H' O (s.same s') hm
  | ok d =>
    cases d with
    | dict es =>
      intro p kvs ds H1 s1 np e r hz
      have h : RtS K mg W F Dn (if i < ρ.length then .nx (ρ.set i (some (true, .dict es))) else .st) := h
      have hi : i < ρ.length := by
        by_cases hi : i < ρ.length
        · exact hi
        · rw [if_neg hi] at h; exact h.elim
      rw [if_pos hi] at h
      refine h _ _ _ (s.put i hF s1 np (.ownD (List.mem_append_right _ ?_) e (r.sub fun a ha => ?_) hz))
      · have hO : i < O.length := by rw [s.env.sl.len.2]; exact hi
        exact mem_at (i := i) (r := [p]) (by rw [List.getElem?_set_self hO]) (by simp)
      · rcases List.mem_append.mp ha with ha | ha
        · exact List.mem_cons_of_mem _ (List.mem_append_left _ ha)
        · rcases mem_set ha with ha | ha
          · exact List.mem_cons_of_mem _ (List.mem_append_right _ ha)
          · rw [List.mem_singleton.mp ha]; simp
    | _ => exact h
theorem s_setD {i : Nat} {x : Str} (is : List Nat) (hi : c.N[i]? = some x) (hx : LocC c x) (he : SFd c e fe) (hs : ∀ env, env.scope = c.sc → swapsWith e (some (.Name x pos')) pos.line env = pure false) :
    SS c (.Assign [.Name x pos'] e pos) (fun Φ ρ => stD i (fe Φ (dis is ρ)) (dis is ρ)) := fun X Φ W ok tk hp =>
  psI (ps_set (i := i) (by rw [ok.hN]; exact ok.nd) (by rw [ok.hN]; exact hi) (hx.loc ok).1 (he X Φ W ok tk) (hs _ ok.sc) (hx.loc ok).2) fun Dn σ H ⟨F, O, ρ, hF, hs, q⟩ => by
    obtain ⟨O', hs'⟩ := hs.dis hF is
    exact ⟨_, O', _, hs'.aok hF, hs'.env, rtf_stD q hF hs'⟩
theorem ps_setDc {X : Cx} {i : Nat} {y : Str} {py : Pos} {kx vx tg iter : Expr} {ifs : List Expr} {scope : Scope} {own : List (Str × Nat)} {pos spos : Pos} {wi : TI} {g : TG} {tt : TT} {tk tv : TE} (hc : X.calm = true) (hN : X.N.Nodup) (hy : X.N[i]? = some y) (hyl : X.env.scope.names.lookup y = some .local)
    (hsw : swapsWith (.DictComp kx vx [⟨tg, iter, ifs, 0⟩] scope pos) (some (.Name y py)) spos.line X.env = pure true) (hi : PI X tg iter wi) (ok : BlkOk X.N X.env.scope scope own)
    (hg : ∀ (s : Shared) (H : Hp) (C : Addr) (cl : List (Str × Addr)) (fp : List Addr), PG (X.blk s H scope (compEnvC scope cl C X.env) fp) tg g) (ht : ∀ (s : Shared) (H : Hp) (C : Addr) (cl : List (Str × Addr)) (fp : List Addr), PTs (X.blk s H scope (compEnvC scope cl C X.env) fp) ifs tt)
    (hk : ∀ (s : Shared) (H : Hp) (C : Addr) (cl : List (Str × Addr)) (fp : List Addr), PE (X.blk s H scope (compEnvC scope cl C X.env) fp) kx tk)
    (he : ∀ (s : Shared) (H : Hp) (C : Addr) (cl : List (Str × Addr)) (fp : List Addr), PE (X.blk s H scope (compEnvC scope cl C X.env) fp) vx tv) (hs : ∀ x, foldedSetIterable iter X.env x = pure x) :
    PS X (.Assign [.Name y py] (.DictComp kx vx [⟨tg, iter, ifs, 0⟩] scope pos) spos) (tAsg (tDc wi g tt tk tv (own.map (·.2))) (gName i)) := ⟨fun pins s σ H D I h => by
  rw [exec_Assign_Name_used _ _ _ _ hsw]
  refine wpAny_bind (wpAny_standAt (wpAny_bind ?_))
  show wpAny _ X.A (do let _ ← comprehension (.DictComp kx vx [⟨tg, iter, ifs, 0⟩] scope pos) scope X.env (firstIterPos [⟨tg, iter, ifs, 0⟩] pos) newDict false (eval iter X.env) (some (assign (.Name y py) X.env))) _ _ s
  have h : tDc wi g tt tk tv (own.map (·.2)) σ H (fun x H1 => gName i x σ H1 D.nx) := h
  refine wpAny_bind (thn (dc_core (Qf := fun _ s' => SP X pins D .next s') hc hN I hi ok hg ht hk he hs h fun L C s' m H' I' q hn f => ?_) fun _ s' hq => wpAny_pure (wpAny_pure hq))
  obtain ⟨f0, f1, f2, f3, f4, f5⟩ := f
  refine (show wpAny _ _ (assign (.Name y py) X.env (.ref L)) _ _ _ from wpAny_assign_Name (store_ok2 (v := V.ref L) I' hN hy (.inl hyl) rfl (fun s2 I2 ⟨a, sb, ha⟩ => ⟨m, hn.sameBut sb ?_, fun h3 sb3 => ⟨_, H', I2.turned (t' := s2.toks) (fun b o hb e => (sb3.2 b hb).trans e) f0 f1 f3 f4 f5, q⟩⟩) (.inr hyl)))
  rcases ha with z | z
  · rw [z]; exact f1
  · exact fun e => f4 y a z e.symm⟩
theorem s_setDc {i : Nat} {x : Str} {spos : Pos} {scope : Scope} {own : List (Str × Nat)} {ifs : List Expr} {kx vx : Expr} {t : Tg} (bor : Bool) (is : List Nat) (hi' : c.N[i]? = some x) (hx : c.sc.names.lookup x = some .local)
    (hsw : ∀ env, env.scope = c.sc → swapsWith (.DictComp kx vx [⟨tg, iter, ifs, 0⟩] scope pos) (some (.Name x pos')) spos.line env = pure true)
    (hi : SI bor c tg iter fi) (bo : BlkOk c.N c.sc scope own) (hg : SG (c.blk scope) tg t) (ht : ∀ i ∈ t.slots, i ∈ own.map (·.2)) (hc : STs (c.blk scope) ifs fc) (hk : SE (c.blk scope) kx fk) (hv : SE (c.blk scope) vx fv)
    (hs : ∀ env x, foldedSetIterable iter env x = pure x) : SS c (.Assign [.Name x pos'] (.DictComp kx vx [⟨tg, iter, ifs, 0⟩] scope pos) spos) (fun Φ ρ => stD i (dcE (own.map (·.2)) t fi fc fk fv Φ (dis is ρ)) (dis is ρ)) := fun X Φ W ok tk hp =>
  psI (ps_setDc (i := i) ok.calm (by rw [ok.hN]; exact ok.nd) (by rw [ok.hN]; exact hi') (by rw [ok.sc]; exact hx) (hsw _ ok.sc) (hi X Φ W ok tk) (by rw [ok.hN, ok.sc]; exact bo)
    (fun s H C cl fp => hg _ Φ (ok_blk ok bo s H C cl fp)) (fun s H C cl fp => hc _ Φ W0 (ok_blk ok bo s H C cl fp) takes0) (fun s H C cl fp => hk _ Φ W0 (ok_blk ok bo s H C cl fp) takes0) (fun s H C cl fp => hv _ Φ W0 (ok_blk ok bo s H C cl fp) takes0) (hs _))
    fun Dn σ H ⟨F, O, ρ, hF, hs, q⟩ => by
      obtain ⟨O', hs'⟩ := hs.dis hF is
      exact dc_readF ht (hs'.aok hF) hs'.env (rtf_stD q hF hs')
/-- d[k] = v, d owned -/
def ownDD (i : Nat) (ρ : Env) (k : List (D × D) → SR) : SR := match ρ[i]? with
  | some (some (true, .dict es)) => k es
  | _ => .st
def setSD (i : Nat) (ρ : Env) (m : Res D) (mk : Res D) : SR := ownDD i ρ fun es => onE m ρ fun d => onE mk ρ fun k => match stE k d es with
  | some es' => if sm es.length then .nx (ρ.set i (some (true, .dict es'))) else .st
  | none => .st
/-- what a dict's object is, where it holds es -/
inductive DObj (K : PySem.W.Frag) (H : Hp) (A : List Addr) (a : Addr) (es : List (D × D)) : Prop
  | k (kvs : List (Key × V)) (ds : List D) : H a = some (.dK kvs) → RpL K H A (kvs.map (·.2)) ds → es = zipE kvs ds → DObj K H A a es
  | x (xs : List XEnt) (ks ds : List D) : H a = some (DXo a xs) → RpL K H A (xs.map fun e => V.ref e.2.1) ks → ks.map keyX = xs.map (fun e => some e.1) → RpL K H A (xs.map (·.2.2)) ds → es = ks.zip ds ∧ xs ≠ [] → DObj K H A a es
theorem DObj.same {K : PySem.W.Frag} {H H' : Hp} {A : List Addr} {a : Addr} {es : List (D × D)} (s : Same H H') (h : DObj K H A a es) : DObj K H' A a es := by
  cases h with
  | k kvs ds h1 h2 h3 => exact .k kvs ds (s _ _ h1) (h2.same s) h3
  | x xs ks ds h1 h2 h3 h4 h5 => exact .x xs ks ds (s _ _ h1) (h2.same s) h3 (h4.same s) h5
theorem DObj.slot {K : PySem.W.Frag} {H : Hp} {A : List Addr} {a : Addr} {es : List (D × D)} (m : a ∈ A) (h : DObj K H A a es) : Slot K H A (some (.ref a)) (some (true, .dict es)) [a] := by
  cases h with
  | k kvs ds h1 h2 h3 => exact .ownD m h1 h2 h3
  | x xs ks ds h1 h2 h3 h4 h5 => exact .ownX m h1 h2 h3 h4 h5
theorem ownDD_get {K : PySem.W.Frag} {mg : Str → Option Value} {W : WX} {F : Fm} {O : List (List Addr)} {σ : L2.St} {H : Hp} {ρ : Env} {Dn : Ends} {i : Nat} {k : List (D × D) → SR} (hs : StO K F O σ H ρ) (h : RtS K mg W F Dn (ownDD i ρ k)) :
    ∃ a es, ρ[i]? = some (some (true, .dict es)) ∧ σ[i]? = some (some (.ref a)) ∧ O[i]? = some [a] ∧ DObj K H (F.A0 ++ rts O) a es ∧ RtS K mg W F Dn (k es) := by
  unfold ownDD at h
  split at h
  · rename_i es e
    obtain ⟨x, r, e1, e2, sl⟩ := hs.env.sl.get e
    cases sl with
    | ownD m hl r q => exact ⟨_, _, e, e1, e2, .k _ _ hl r q, h⟩
    | ownX m hl k q r z => exact ⟨_, _, e, e1, e2, .x _ _ _ hl k q r z, h⟩
  · exact h.elim
theorem zipE_len {K : PySem.W.Frag} {H : Hp} {A : List Addr} {kvs : List (Key × V)} {ds : List D} (r : RpL K H A (kvs.map (·.2)) ds) : (zipE kvs ds).length = kvs.length := by
  have := r.length
  rw [List.length_map] at this
  unfold zipE
  rw [List.length_zip, List.length_map, this, Nat.min_self]
theorem put_zipX {K : PySem.W.Frag} {H : Hp} {A : List Addr} {k : NestedKey} {kd : D} {b : Addr} {v : V} {d : D} (hb : Rp K H A (.ref b) kd) (hkd : keyX kd = some k) (hv : Rp K H A v d) : ∀ {xs : List XEnt} {ks ds : List D}, RpL K H A (xs.map fun e => V.ref e.2.1) ks → ks.map keyX = xs.map (fun e => some e.1) → RpL K H A (xs.map (·.2.2)) ds →
    ∃ ks' ds', RpL K H A ((putXE xs k b v).map fun e => V.ref e.2.1) ks' ∧ ks'.map keyX = (putXE xs k b v).map (fun e => some e.1) ∧ RpL K H A ((putXE xs k b v).map (·.2.2)) ds' ∧ putX (ks.zip ds) kd k d = ks'.zip ds' ∧ putXE xs k b v ≠ [] := by
  intro xs ks ds h1 h2 h3
  have hany : ∀ {xs : List XEnt} {ks ds : List D}, ks.map keyX = xs.map (fun e => some e.1) → ks.length = ds.length → (ks.zip ds).any (fun p => decide (keyX p.1 = some k)) = xs.any (fun e => decide (e.1 = k)) := by
    intro xs
    induction xs with
    | nil =>
      intro ks ds h _
      cases ks with
      | nil => rfl
      | cons _ _ => cases h
    | cons x xs ih =>
      intro ks ds h hl
      cases ks with
      | nil => cases h
      | cons kk ks =>
        cases ds with
        | nil => cases hl
        | cons dd ds =>
          rw [List.map_cons, List.map_cons] at h
          obtain ⟨e1, e2⟩ := List.cons.inj h
          rw [List.zip_cons_cons, List.any_cons, List.any_cons, ih e2 (by simpa using hl), e1]
          simp
  have hlen := rpl_len2 h2 h3
  unfold putX putXE
  rw [hany h2 hlen]
  by_cases q : xs.any (fun e => decide (e.1 = k)) = true
  · rw [if_pos q, if_pos q]
    refine ⟨ks, ds.zipWith (fun dd kk => if keyX kk = some k then d else dd) ks, ?_, ?_, ?_, ?_, ?_⟩
    · have e : ((xs.map fun e => if e.1 = k then (e.1, e.2.1, v) else e).map fun e => V.ref e.2.1) = xs.map fun e => V.ref e.2.1 := by
        rw [List.map_map]
        apply List.map_congr_left
        intro e _
        show V.ref (if e.1 = k then (e.1, e.2.1, v) else e).2.1 = _
        split <;> rfl
      rw [e]; exact h1
    · rw [h2, List.map_map]
      apply List.map_congr_left
      intro e _
      show some e.1 = some (if e.1 = k then (e.1, e.2.1, v) else e).1
      split <;> rfl
    · clear q hany h1 hlen
      induction xs generalizing ks ds with
      | nil => cases ks with
        | nil => cases h3; exact .nil
        | cons _ _ => cases h2
      | cons x xs ih =>
        cases ks with
        | nil => cases h2
        | cons kk ks =>
          rw [List.map_cons, List.map_cons] at h2
          obtain ⟨e1, e2⟩ := List.cons.inj h2
          cases h3 with
          | cons g1 g2 =>
            rw [List.map_cons, List.map_cons, List.zipWith_cons_cons]
            refine .cons ?_ (ih e2 g2)
            by_cases z : x.1 = k
            · rw [if_pos z, if_pos (by rw [e1, z])]; exact hv
            · rw [if_neg z, if_neg (by rw [e1]; simpa using z)]; exact g1
    · clear q hany h1 h2 h3
      induction ks generalizing ds with
      | nil => rfl
      | cons kk ks ih =>
        cases ds with
        | nil => rfl
        | cons dd ds =>
          rw [List.zip_cons_cons, List.map_cons, List.zipWith_cons_cons, List.zip_cons_cons, ih (by simpa using hlen)]
          congr 1
          show (if keyX kk = some k then (kk, d) else (kk, dd)) = _
          split <;> rfl
    · intro z
      cases xs with
      | nil => cases q
      | cons _ _ => cases z
  · rw [if_neg q, if_neg q]
    refine ⟨ks ++ [kd], ds ++ [d], ?_, ?_, ?_, ?_, by simp⟩
    · rw [List.map_append]; exact h1.append (.cons hb .nil)
    · rw [List.map_append, List.map_append, h2, List.map_cons, List.map_cons, hkd]; rfl
    · rw [List.map_append]; exact h3.append (.cons hv .nil)
    · rw [List.zip_append hlen]; rfl
/-- d[k] = v by values, whichever the keys -/
theorem set_dyn {X : Cx} (hu : X.A.units + 70 < cLine) : PSet X (fun o i v H Q => ∃ a, o = .ref a ∧ ((∃ kvs k, H a = some (.dK kvs) ∧ i = kV k ∧ kvs.length < sizeLine ∧ Q (upd H a (.dK (putK kvs k v)))) ∨
    ∃ A xs ks b kd k, i = .ref b ∧ (H a = some (DXo a xs) ∨ (xs = [] ∧ H a = some (.dK []))) ∧ RpL X.K H A (xs.map fun e => V.ref e.2.1) ks ∧ ks.map keyX = xs.map (fun e => some e.1) ∧ Rp X.K H A (.ref b) kd ∧ keyX kd = some k ∧ xs.length < sizeLine ∧ Q (upd H a (DXo a (putXE xs k b v))))) := by
  intro pins s σ H o i v ov iv u Q I ro ri rv h
  obtain ⟨a, rfl, h⟩ := h
  cases ro
  rcases h with ⟨kvs, k, h1, rfl, h2, q⟩ | ⟨A, xs, ks, b, kd, k, rfl, h1, h2, h3, h4, h5, h6, q⟩
  · exact d_setItem (by omega) I (.inl ⟨kvs, k, h1, rfl, h2, rfl⟩) ri rv fun s' I' => ⟨_, I', q⟩
  · cases ri
    exact dx_store (by omega) I h1 h2 h3 h4 h5 rv h6 fun s' I' => ⟨_, I', q⟩
theorem s_storeD {i : Nat} {x : Str} {p : Pos} (is : List Nat) (hi : c.N[i]? = some x) (hv : Vis c.sc x) (hd : (x == ("__debug__" : Str)) = false) (hcd : (x == ("__classdict__" : Str)) = false) (he : SE c e fe) (hk : SE c a fa)
    (hw : ∀ env, swapsWithSole [.Subscript (.Name x p) a pos'] e pos.line env = pure false)
    (ha : ∀ env v, assign (.Subscript (.Name x p) a pos') env v = (do
      let ov ← holding [v] (eval (.Name x p) env)
      let iv ← holding [v, ov] (eval a env)
      standAt pos'
      holding [v, ov, iv] (setItem ov iv v)
      release [v, ov, iv] [])) :
    SS c (.Assign [.Subscript (.Name x p) a pos'] e pos) (fun Φ ρ => setSD i (dis is ρ) (fe Φ (dis is ρ)) (fa Φ (dis is ρ))) := fun X Φ W ok tk hp =>
  psI (ps_asg (he X Φ W ok tk) (pg_sub (pe_var (i := i) (by rw [ok.hN]; exact hi) (by rw [ok.sc]; exact hv) hd hcd) (hk X Φ W ok tk) (set_dyn ok.hu) (ha _)) (hw _) rfl rfl) fun Dn σ H ⟨F, O, ρ, hF, hs, q⟩ => by
    obtain ⟨O1, hs1⟩ := hs.dis hF is
    have q : RtS X.K X.mg W F Dn (setSD i (dis is ρ) (fe Φ (dis is ρ)) (fa Φ (dis is ρ))) := q
    obtain ⟨b, es, e0, e1, e2, hob, q1⟩ := ownDD_get hs1 q
    refine ⟨_, O1, _, hs1.aok hF, hs1.env, rt_onE q1 hs1 fun d v H1 s1 p1 q2 => ?_⟩
    have hs2 := hs1.same s1
    refine ⟨.ref b, e1, _, O1, _, hs2.aok hF, hs2.env, rt_onE q2 hs2 fun k vk H2 s2 p2 q3 => ?_⟩
    have hs3 := hs2.same s2
    cases hst : stE k d es with
    | none => simp only [hst] at q3; exact q3.elim
    | some es' =>
      simp only [hst] at q3
      by_cases hz : sm es.length = true
      case neg => rw [if_neg hz] at q3; exact q3.elim
      rw [if_pos hz] at q3
      have hz' := of_decide_eq_true hz
      have hS := sizeLine_eq
      have hob3 := (hob.same s1).same s2
      have inb : b ∈ F.A0 ++ rts O1 := List.mem_append_right _ (mem_at e2 (by simp))
      have hAD : ∀ (o : HO), H2 b = some o → IsM o → AOk H2 [b] := fun o ho m p hp => by
        rw [List.mem_singleton.mp hp]; exact ⟨_, ho, m⟩
      have p1' := p1.same s2
      unfold stE at hst
      refine ⟨b, rfl, ?_⟩
      cases hob3 with
      | k kvs ds h1 h2 h3 =>
        subst h3
        rw [isX_zip] at hst
        have hl := zipE_len h2
        cases hko : keyO k with
        | some kk =>
          rw [hko] at hst
          have hst : some (putE (zipE kvs ds) kk d) = some es' := hst
          cases hst
          obtain ⟨ds', r1, r2⟩ := put_zip (k := kk) h2 p1'
          have bt : But [b] H2 (upd H2 b (.dK (putK kvs kk v))) := But.upd (by simp)
          exact .inl ⟨kvs, kk, h1, keyO_V p2 hko, by omega, q3 _ _ _ (hs3.mut (x := none) i hF e1 e2 (.ownD inb upd_same (r1.but bt (hAD _ h1 trivial) (by simpa using inb)) r2))⟩
        | none =>
          rw [hko] at hst
          cases hkx : keyX k with
          | none => rw [hkx] at hst; cases hst
          | some kk =>
            rw [hkx] at hst
            have hst : (if (zipE kvs ds).isEmpty || false then some (putX (zipE kvs ds) k kk d) else none) = some es' := hst
            by_cases hn : (zipE kvs ds).isEmpty = true
            case neg => rw [if_neg (by simpa using hn)] at hst; cases hst
            rw [if_pos (by simpa using hn)] at hst
            have hk0 := zipE_nil h2 hn
            subst hk0
            cases h2
            obtain ⟨b2, rfl⟩ := key_ref p2 hkx
            obtain ⟨ks', ds', r1, r2, r3, r4, r5⟩ := put_zipX p2 hkx p1' (xs := []) (ks := []) (ds := []) .nil rfl .nil
            have hst : putX ([].zip []) k kk d = es' := Option.some.inj hst
            rw [r4] at hst
            have bt : But [b] H2 (upd H2 b (DXo b (putXE [] kk b2 v))) := But.upd (by simp)
            have hA2 := hAD _ h1 trivial
            exact .inr ⟨_, [], [], b2, k, kk, rfl, .inr ⟨rfl, h1⟩, .nil, rfl, p2, hkx, by simp; omega, q3 _ _ _ (hs3.mut (x := none) i hF e1 e2 (.ownX inb upd_same (r1.but bt hA2 (by simpa using inb)) r2 (r3.but bt hA2 (by simpa using inb)) ⟨hst.symm, r5⟩))⟩
      | x xs ks ds h1 h2 h3 h4 h5 =>
        obtain ⟨h5, h6⟩ := h5
        subst h5
        rw [isX_keys h3 (rpl_len2 h3 h4) h6] at hst
        have hl2 := congrArg List.length h3
        have hl3 := rpl_len2 h3 h4
        simp at hl2
        rw [List.length_zip] at hz'
        cases hko : keyO k with
        | some kk => rw [hko] at hst; cases hst
        | none =>
          rw [hko] at hst
          cases hkx : keyX k with
          | none => rw [hkx] at hst; cases hst
          | some kk =>
            rw [hkx] at hst
            have hst : (if (ks.zip ds).isEmpty || true then some (putX (ks.zip ds) k kk d) else none) = some es' := hst
            rw [Bool.or_true, if_pos rfl] at hst
            have hst : putX (ks.zip ds) k kk d = es' := Option.some.inj hst
            obtain ⟨b2, rfl⟩ := key_ref p2 hkx
            obtain ⟨ks', ds', r1, r2, r3, r4, r5⟩ := put_zipX p2 hkx p1' h2 h3 h4
            rw [r4] at hst
            have bt : But [b] H2 (upd H2 b (DXo b (putXE xs kk b2 v))) := But.upd (by simp)
            have hA2 := hAD _ h1 trivial
            exact .inr ⟨_, xs, ks, b2, k, kk, rfl, .inl h1, h2, h3, p2, hkx, by omega, q3 _ _ _ (hs3.mut (x := none) i hF e1 e2 (.ownX inb upd_same (r1.but bt hA2 (by simpa using inb)) r2 (r3.but bt hA2 (by simpa using inb)) ⟨hst.symm, r5⟩))⟩
end
end Pv

end
section
namespace Pv
open PySem PySem.Spec PyProof.Rows L2

/-! ### a tuple's methods -/
section
variable {X : Cx}
theorem sqE_is {pins : List (Addr × Obj)} {σ : L2.St} {H : Hp} {s : Shared} {a : Addr} {xs : List V} (I : Inv X pins σ H s) (h : SqE X.K H a xs) : s.TypeIs (.ref a) "tuple" ∧ ∀ b, Value.ref a = .ref b → ∃ ob, s.heap.get? b = some ob ∧ ob.dict = none := by
  rcases h with ⟨o, h, hd⟩ | ⟨o, its, n, hk, hc, hd, _⟩
  · obtain ⟨ho, _, its, rv, o2, ho2, hc2, _⟩ := (I.hok a _ h : ObjOk X.prog X.w H s.heap a (.frz o (.tup xs)))
    refine ⟨⟨o2, ho2, hc2⟩, fun b e => ?_⟩
    cases e
    exact ⟨o, ho, hd⟩
  · refine ⟨⟨o, I.kIn a o hk, hc⟩, fun b e => ?_⟩
    cases e
    exact ⟨o, I.kIn a o hk, hd⟩
variable {o e : Expr} {es : List Expr} {to : TE} {t : TA} {name : Str} {apos cpos : Pos} {id : String} {r : V → List V → Hp → VK → Prop}
def tBME (K : PySem.W.Frag) (r : V → List V → Hp → VK → Prop) (to : TE) (t : TA) : TE := fun σ H Q => to σ H fun x H1 => (∃ a xs, x = .ref a ∧ SqE K H1 a xs) ∧ t σ H1 fun xs H2 => r x xs H2 Q
theorem pe_bmE (slot : PySem.Slot "tuple" name id) (hty : typeOf (.builtin id) = pure (.type "method_descriptor")) (hm : MtR X id r) (ho : PE X o to) (ha : PA X (e :: es) t)
    (hbase : attributeBase o name X.env (eval o X.env) = eval o X.env)
    (hfew : ((backTo cpos (starEach (e :: es) X.env)).all (fun x => !x.1) && (backToKw cpos (keywordEach [] X.env)).all (fun x => x.1.isSome)
      && decide ((e :: es).length + ([] : List Keyword).length + (if ([] : List Keyword).isEmpty then 0 else 1) < 30)) = true)
    (hline : (apos.endLine == cpos.line) = true) (hs : starEach (e :: es) X.env = (false, eval e X.env) :: starEach es X.env) (hplain : (backTo cpos (starEach es X.env)).any (·.1) = false) :
    PE X (.Call (.Attribute o name apos) (e :: es) [] cpos) (tBME X.K r to t) := by
  refine ⟨fun pins s σ H Q I h => ?_⟩
  refine wpAny_Call_method_late hbase hfew hline rfl (thn (ho.run pins s σ H _ I h) fun v s1 ⟨x, H1, I1, r1, ⟨a, xs, ex, ty⟩, q1⟩ => ?_)
  subst ex
  cases r1
  obtain ⟨h1, h2⟩ := sqE_is I1 ty
  refine ⟨"tuple", id, PySem.F.plainAttrs_tuple, slot, hty, h1, h2, ?_⟩
  have hA := ha.run cpos pins s1 σ H1 _ I1 q1
  rw [hs] at hA ⊢
  refine Calls.callWith_builtin (by show (false || (backTo cpos (starEach es X.env)).any (·.1)) = false; rw [hplain] <;> rfl) (Calls.evalArgs_plain ?_)
  exact thn hA fun us s2 ⟨vs, H2, I2, r2, q2⟩ => hm pins s2 σ H2 (.ref a) vs (.ref a) us Q I2 (show RelV (.ref a) (.ref a) from rfl) r2 q2
def cntL (ds : List D) (y : D) : Res D := if okD (.tuple ds) && okD y then .ok (.int ((ds.countP fun d => PyData.eqv d y : Nat) : Int)) else .st
def cntR (x : D) (m : Res D) : Res D := match x with
  | .tuple ds => m >>= cntL ds
  | _ => .st
theorem mt_cnt (hu : X.A.units + 70 < cLine) : MtR X "tuple.count" (fun x xs H Q => ∃ (A : List Addr) (a : Addr) (vs : List V) (ds : List D) (y : V) (d : D), x = .ref a ∧ xs = [y] ∧ SqT X.K H a vs ∧ RpL X.K H A vs ds ∧ Rp X.K H A y d ∧ (okD (.tuple ds) && okD d) = true ∧ Q (.int ((ds.countP fun e => PyData.eqv e d : Nat) : Int)) H) := by
  intro pins s σ H x xs v us Q I rx rxs h
  obtain ⟨A, a, vs, ds, y, d, rfl, rfl, hl, hr, hy, hk, q⟩ := h
  cases rx
  obtain ⟨k1, k2⟩ := and2 hk
  obtain ⟨p1, p2⟩ := and2 k1
  obtain ⟨p3, p4⟩ := and2 k2
  have p1 : PyData.plainAll ds = true := by simpa [PyData.plain] using p1
  have p2 := of_decide_eq_true p2
  have p4 := of_decide_eq_true p4
  cases rxs with
  | cons ry rt =>
    rename_i uy ut
    cases rt
    obtain ⟨its, rv, pl, hlen⟩ := I.tuple hl
    obtain ⟨bs, r1⟩ := Dp.reads I d y uy (hy.dp p3) ry
    obtain ⟨as, r2⟩ := Dp.readsAll I ds vs its (hr.dp p1) rv
    refine SeqAt.count_tuple_data (vs := its.toArray) pl r2 r1 p1 p3 ?_ ⟨.int _, H, I.tok _, ⟨_, rfl⟩, q⟩
    show X.A.units + 1 + min _ _ < cLine
    omega
end
section
variable {c : Ctx} {x j b : Expr} {fa fb : EvE} {pos apos sp : Pos} {n : Str}
theorem se_cntT (ha : SB c (.Subscript x j sp) fa) (hb : SB c b fb) (hn : notStar b = true) (hline : (apos.endLine == pos.line) = true) :
    SE c (.Call (.Attribute (.Subscript x j sp) "count" apos) [b] [] pos) (fun Φ ρ => do let x ← fa Φ ρ; cntR x (fb Φ ρ)) := fun X Φ W ok tk =>
  peI (pe_bmE PySem.F.slot_tuple_count PySem.F.type_tuple_count (mt_cnt ok.hu) (ha X Φ W ok tk) (pa_cons (hb X Φ W ok tk) pa_nil (star_of hn _ _)) rfl (few1 hn) hline (star_of hn _ _) rfl) fun σ H Q ⟨A, O, ρ, hA, hρ, q⟩ => by
    refine ⟨A, O, ρ, hA, hρ, q.bind fun d v H1 s1 p1 q1 => ?_⟩
    cases d with
    | tuple ds =>
      obtain ⟨l, xs, rfl, hx, hr⟩ := RpB.tuple p1
      refine ⟨⟨l, xs, rfl, hx⟩, A, O, ρ, hA.same s1, hρ.same s1, Rt.bind (m := fb Φ ρ) (g := cntL ds) q1 fun e u H2 s2 p2 q2 => ?_⟩
      have q2 : Rt X.mg W (pE X.K A) H2 σ Q (if okD (.tuple ds) && okD e then .ok (.int ((ds.countP fun d => PyData.eqv d e : Nat) : Int)) else .st) := q2
      by_cases hk : (okD (.tuple ds) && okD e) = true
      · rw [if_pos hk] at q2
        exact ⟨[], l, xs, ds, u, e, rfl, rfl, SqT_same s2 hx.t, (hr.same s2).sub (by simp), rpb_rp p2, hk, q2 _ _ (Same.refl _) (.int _)⟩
      · rw [if_neg hk] at q2; exact q2.elim
    | _ => exact q1.elim
end
end Pv

end
section
namespace Pv
open PySem PySem.Spec PyProof.Rows L2

/-! ### t.index(x), t a tuple -/
def idxTL (ds : List D) (y : D) : Res D := if okD (.tuple ds) && okD y then Res.ofO ((SeqAt.dataPlace ds y).map fun j => .int (j : Nat)) else .st
def idxTR (x : D) (m : Res D) : Res D := match x with
  | .tuple ds => m >>= idxTL ds
  | _ => .st
theorem plainAll_iff5 {ds : List D} : PyData.plainAll ds = true ↔ ∀ d ∈ ds, d.plain = true := by
  induction ds with
  | nil => simp [PyData.plainAll]
  | cons d ds ih => simp [PyData.plainAll, ih]
section
variable {X : Cx}
theorem mt_idxT (hu : X.A.units + 70 < cLine) : MtR X "tuple.index" (fun x xs H Q => ∃ (A : List Addr) (a : Addr) (vs : List V) (ds : List D) (y : V) (d : D) (j : Nat), x = .ref a ∧ xs = [y] ∧ SqT X.K H a vs ∧ RpL X.K H A vs ds ∧ Rp X.K H A y d ∧ (okD (.tuple ds) && okD d) = true ∧ SeqAt.dataPlace ds d = some j ∧ Q (.int (j : Nat)) H) := by
  intro pins s σ H x xs v us Q I rx rxs h
  obtain ⟨A, a, vs, ds, y, d, j, rfl, rfl, hl, hr, hy, hk, hp, q⟩ := h
  cases rx
  obtain ⟨k1, k2⟩ := and2 hk
  obtain ⟨p1, p2⟩ := and2 k1
  obtain ⟨p3, p4⟩ := and2 k2
  have p1 : PyData.plainAll ds = true := by simpa [PyData.plain] using p1
  have p2 := of_decide_eq_true p2
  have p4 := of_decide_eq_true p4
  cases rxs with
  | cons ry rt =>
    rename_i uy ut
    cases rt
    obtain ⟨its, rv, pl, hlen⟩ := I.tuple hl
    obtain ⟨⟨cls, dd, data, sls⟩, ho, hc, n, hdt⟩ := pl
    simp only at hc hdt
    subst hc hdt
    obtain ⟨bs, r1⟩ := Dp.reads I d y uy (hy.dp p3) ry
    obtain ⟨as, r2⟩ := Dp.readsAll I ds vs its (hr.dp p1) rv
    obtain ⟨hj, e1, e2⟩ := SeqAt.hit_at (vs := its.toArray) (show ReadsAll s.heap its.toArray.toList ds as from r2) p1 hp
    have hjl : j < its.length := by simpa using hj
    have hvl := rv.length
    refine call_meets PySem.F.slot_tuple_index ⟨_, ho, rfl⟩ PySem.F.entry_tuple_index (PySem.F.args_tuple_index_2 _ _)
      (TI.tuple_indexAt a its.toArray n dd sls uy (fun u => PyData.eqv (SeqAt.readOf s.heap u) d) j hj e1 e2) ⟨ho, fun u hu' => ?_, ⟨.int (j : Nat), H, I.tok _, ⟨_, rfl⟩, q⟩⟩
    have hu2 : u ∈ its := by simpa using hu'
    obtain ⟨i, hi, rfl⟩ := List.getElem_of_mem hu2
    obtain ⟨hi2, e3⟩ := SeqAt.readOf_at (vs := its.toArray) (show ReadsAll s.heap its.toArray.toList ds as from r2) p1 i (by simpa using hi)
    have e3 : SeqAt.readOf s.heap its[i] = ds[i] := by simpa using e3
    rw [e3]
    have hdl := SeqAt.ReadsAll.length ds its as r2
    have hx : vs[i]? = some vs[i] := List.getElem?_eq_getElem (by omega)
    obtain ⟨u2, q1, q2⟩ := rv.get hx
    rw [List.getElem?_eq_getElem hi] at q1
    cases q1
    obtain ⟨y2, q3, q4⟩ := hr.get hx
    rw [List.getElem?_eq_getElem hi2] at q3
    cases q3
    have pi := plainAll_iff5.mp p1 ds[i] (List.getElem_mem hi2)
    obtain ⟨cs, r3⟩ := Dp.reads I _ _ _ (q4.dp pi) q2
    refine SeqAt.eqAt_plain ds[i] d X.A.in1 s _ _ cs bs r3 r1 pi p3 ?_
    show X.A.units + 1 + min _ _ < cLine
    omega
end
section
variable {c : Ctx} {o b : Expr} {fa fb : EvE} {pos apos sp : Pos} {n : Str}
theorem se_idxT (ha : SB c o fa) (hb : SB c b fb) (hn : notStar b = true) (hline : (apos.endLine == pos.line) = true) (hbase : ∀ env, attributeBase o "index" env (eval o env) = eval o env) :
    SE c (.Call (.Attribute o "index" apos) [b] [] pos) (fun Φ ρ => do let x ← fa Φ ρ; idxTR x (fb Φ ρ)) := fun X Φ W ok tk =>
  peI (pe_bmE PySem.F.slot_tuple_index PySem.F.type_tuple_index (mt_idxT ok.hu) (ha X Φ W ok tk) (pa_cons (hb X Φ W ok tk) pa_nil (star_of hn _ _)) (hbase _) (few1 hn) hline (star_of hn _ _) rfl) fun σ H Q ⟨A, O, ρ, hA, hρ, q⟩ => by
    refine ⟨A, O, ρ, hA, hρ, q.bind fun d v H1 s1 p1 q1 => ?_⟩
    cases d with
    | tuple ds =>
      obtain ⟨l, xs, rfl, hx, hr⟩ := RpB.tuple p1
      refine ⟨⟨l, xs, rfl, hx⟩, A, O, ρ, hA.same s1, hρ.same s1, Rt.bind (m := fb Φ ρ) (g := idxTL ds) q1 fun e u H2 s2 p2 q2 => ?_⟩
      have q2 : Rt X.mg W (pE X.K A) H2 σ Q (if okD (.tuple ds) && okD e then Res.ofO ((SeqAt.dataPlace ds e).map fun j => .int (j : Nat)) else .st) := q2
      by_cases hk : (okD (.tuple ds) && okD e) = true
      · rw [if_pos hk] at q2
        obtain ⟨r, e1, e2⟩ := q2.ofO
        obtain ⟨j, e3, rfl⟩ := Option.map_eq_some_iff.mp e1
        exact ⟨[], l, xs, ds, u, e, j, rfl, rfl, SqT_same s2 hx.t, (hr.same s2).sub (by simp), rpb_rp p2, hk, e3, e2 _ _ (Same.refl _) (.int _)⟩
      · rw [if_neg hk] at q2; exact q2.elim
    | _ => exact q1.elim
theorem se_idxTS {x j : Expr} (ha : SB c (.Subscript x j sp) fa) (hb : SB c b fb) (hn : notStar b = true) (hline : (apos.endLine == pos.line) = true) :
    SE c (.Call (.Attribute (.Subscript x j sp) "index" apos) [b] [] pos) (fun Φ ρ => do let x ← fa Φ ρ; idxTR x (fb Φ ρ)) := se_idxT ha hb hn hline fun _ => rfl
theorem se_idxTN {x : Str} (ha : SB c (.Name x sp) fa) (hb : SB c b fb) (hn : notStar b = true) (hline : (apos.endLine == pos.line) = true) :
    SE c (.Call (.Attribute (.Name x sp) "index" apos) [b] [] pos) (fun Φ ρ => do let x ← fa Φ ρ; idxTR x (fb Φ ρ)) := se_idxT ha hb hn hline fun _ => rfl
end
end Pv

end
section
namespace Pv
open PySem PySem.Spec PyProof.Rows L2

/-! ### walks over dicts: the dict is locked meanwhile -/
def NF (o : HO) : Prop := ∀ x y, o ≠ .frz x y
section
variable {K : PySem.W.Frag} {H H' : Hp} {A A' : List Addr} {a : Addr} {u : HO} {od : Obj}
theorem isM_nf {o : HO} (h : IsM o) : NF o := fun x y e => by subst e; exact h
theorem rd_lock (h : H a = some u) (m : IsM u) {b : Addr} {o : HO} (hb : Rd H b o) : Rd (upd H a (.frz od u)) b o := by
  by_cases e : b = a
  · subst e
    rcases hb with hb | ⟨o', hb⟩
    · rw [h] at hb; cases hb; exact .inr ⟨od, upd_same⟩
    · rw [h] at hb; cases hb; exact m.elim
  · rcases hb with hb | ⟨o', hb⟩
    · exact .inl (by rw [upd_ne e]; exact hb)
    · exact .inr ⟨o', by rw [upd_ne e]; exact hb⟩
theorem rd_unlock (h : H a = some (.frz od u)) {b : Addr} {o : HO} (n : NF o) (hb : Rd H b o) : Rd (upd H a u) b o := by
  by_cases e : b = a
  · subst e
    rcases hb with hb | ⟨o', hb⟩
    · rw [h] at hb; cases hb; exact absurd rfl (n _ _)
    · rw [h] at hb; cases hb; exact .inl upd_same
  · rcases hb with hb | ⟨o', hb⟩
    · exact .inl (by rw [upd_ne e]; exact hb)
    · exact .inr ⟨o', by rw [upd_ne e]; exact hb⟩
structure Lk (H H' : Hp) : Prop where
  r : ∀ b o, NF o → Rd H b o → Rd H' b o
  f : ∀ b (o : Obj) (xs : List V), H b = some (.frz o (.tup xs)) → H' b = some (.frz o (.tup xs))
theorem lk_lock (h : H a = some u) (m : IsM u) : Lk H (upd H a (.frz od u)) := ⟨fun b o _ q => rd_lock h m q, fun b o xs q => by
  rw [upd_ne (fun z => by subst z; rw [h] at q; cases q; exact m)]; exact q⟩
theorem lk_unlock (h : H a = some (.frz od u)) (m : IsM u) : Lk H (upd H a u) := ⟨fun b o n q => rd_unlock h n q, fun b o xs q => by
  rw [upd_ne (fun z => by subst z; rw [h] at q; cases q; exact m)]; exact q⟩
theorem Rp.rd (k : Lk H H') {v : V} {d : D} (h : Rp K H A v d) : Rp K H' A v d := by
  refine h.imp (fun b xs q => ?_) (fun b xs q => ?_) fun b o m n q => ⟨k.r b o (isM_nf m) q, n⟩
  · rcases q with ⟨q, n⟩ | q
    · exact .inl ⟨k.r _ _ (isM_nf (o := .lst xs) trivial) q, n⟩
    · exact .inr q
  · rcases q with ⟨o, q, e⟩ | q
    · exact .inl ⟨o, k.f _ _ _ q, e⟩
    · exact .inr q
theorem RpL.rd (k : Lk H H') : ∀ {v : List V} {d : List D}, RpL K H A v d → RpL K H' A v d
  | _, _, .nil => .nil
  | _, _, .cons h r => .cons (h.rd k) (RpL.rd k r)
theorem Kids.rd (k : Lk H H') (ka : ∀ b ∈ A, H' b = H b) : ∀ {bs : List Addr} {ds : List D}, Kids K H A bs ds → Kids K H' A bs ds
  | _, _, .nil => .nil
  | _, _, .cons m h r q => .cons m (by rw [ka _ m]; exact h) (r.rd k) (Kids.rd k ka q)
theorem Slot.rd (k : Lk H H') (ka : ∀ b ∈ A, H' b = H b) {x : Option V} {y : Option (Bool × D)} {r : List Addr} : Slot K H A x y r → Slot K H' A x y r
  | .non => .non
  | .shared h => .shared (h.rd k)
  | .ownL m h r => .ownL m (by rw [ka _ m]; exact h) (r.rd k)
  | .ownD m h r q => .ownD m (by rw [ka _ m]; exact h) (r.rd k) q
  | .ownX m h kk q r z => .ownX m (by rw [ka _ m]; exact h) (kk.rd k) q (r.rd k) z
  | .deepL m h d kk => .deepL m (by rw [ka _ m]; exact h) d (kk.rd k ka)
  | .deepD m h z d kk q => .deepD m (by rw [ka _ m]; exact h) z d (kk.rd k ka) q
theorem EnvOk.rd (k : Lk H H') (ka : ∀ b ∈ A, H' b = H b) {O : List (List Addr)} {σ : L2.St} {ρ : Env} (h : EnvOk K H A O σ ρ) : EnvOk K H' A O σ ρ := by
  have go : ∀ {σ : L2.St} {ρ : Env} {O : List (List Addr)}, Slots K H A σ ρ O → Slots K H' A σ ρ O := by
    intro σ ρ O h
    induction h with
    | nil => exact .nil
    | cons g _ ih => exact .cons (g.rd k ka) ih
  exact ⟨go h.sl, h.nd⟩
end
/-- the keys of a locked dict with tuple keys -/
def ItkX (d : Addr) (o : Obj) (xs : List XEnt) : It :=
  ⟨fun i H => H d = some (.frz o (DXo d xs)) ∧ i < xs.length, fun i H x H' => H' = H ∧ ∃ e, xs[i]? = some e ∧ x = .ref e.2.1, fun i H => H d = some (.frz o (DXo d xs)) ∧ xs.length ≤ i⟩
theorem frzX {X : Cx} {pins : List (Addr × Obj)} {σ : L2.St} {H : Hp} {s : Shared} {d : Addr} {o : Obj} {xs : List XEnt} (I : Inv X pins σ H s) (h : H d = some (.frz o (DXo d xs))) :
    (d == sysModules) = false ∧ s.heap.get? d = some o ∧ o.ExactDict ∧ ∃ (es : Array DictEntry) (ep : Nat), o.data = .dict es ep ∧ es.size = xs.length ∧ ∀ (i : Nat) (e : XEnt), xs[i]? = some e → ∃ en : DictEntry, es[i]? = some en ∧ en.key = .ref e.2.1 := by
  obtain ⟨hd, ⟨z, y, _, o', es, ep, ho, hx, hdt, hp⟩, _⟩ := (I.hok d _ h : ObjOk X.prog X.w H s.heap d (.frz o (DXo d xs)))
  rw [hd] at ho
  cases ho
  refine ⟨y, hd, hx, es, ep, hdt, ?_, fun i e he => ?_⟩
  · have := Paired.length hp
    rw [Array.length_toList] at this
    exact this.symm
  · obtain ⟨b, hb, e1, e2, _⟩ := paired_get hp he
    exact ⟨b, by rw [← Array.getElem?_toList]; exact hb, e2⟩
theorem turn_keysX {P : Program} {w : World} {K : PySem.W.Frag} {tg : Expr} {d : Addr} {o : Obj} {es : Array DictEntry} {ep : Nat} {xs : List XEnt} (it : Addr) (hod : o.data = .dict es ep) :
    Turn P w K tg (ItkX d o xs) [it] it (fun i h => h.IsKeyIter it d i xs.length ep) where
  mem := by simp
  obj := fun i h st b hb => by
    rw [List.mem_singleton.mp hb]
    obtain ⟨oi, e, c, dd⟩ := st
    exact ⟨oi, e, fun v z => by rw [dd] at z; cases z⟩
  keep := fun i h h' st k => st.at fun oi e => k it (by simp) oi e
  item := by
    intro X hP hw hK hc i pins s σ H E I hf st hg
    subst hP hw hK
    obtain ⟨g1, g2⟩ := hg
    obtain ⟨f0, f1, f2, f3, f4, f5⟩ := hf it (by simp)
    obtain ⟨q1, q2, q3, es', ep', q4, q5, ent⟩ := frzX I g1
    obtain ⟨rfl, rfl⟩ := dict_ep hod q4
    obtain ⟨en, n1, n2⟩ := ent i xs[i] (List.getElem?_eq_getElem g2)
    refine next_key_item st q2 q4 q5 n1 fun h' st' sb => ?_
    have I1 : Inv X pins σ H { s with heap := h' } := I.turned (t' := s.toks) (fun b ob hb e => (sb.2 b hb).trans e) f0 f1 f3 f4 f5
    obtain ⟨oi, e, c, dd⟩ := id st'
    exact ⟨en.key, rfl, go_of (s := { s with heap := h' }) e c dd (by decide) ⟨.ref xs[i].2.1, H, I1, n2, ⟨rfl, _, List.getElem?_eq_getElem g2, rfl⟩, st', fun b hb => (hf b hb).1⟩⟩
  done := by
    intro X hP hw hK hc i pins s σ H E I hf st hg
    subst hP hw hK
    obtain ⟨g1, g2⟩ := hg
    obtain ⟨f0, f1, f2, f3, f4, f5⟩ := hf it (by simp)
    obtain ⟨q1, q2, q3, es', ep', q4, q5, ent⟩ := frzX I g1
    obtain ⟨rfl, rfl⟩ := dict_ep hod q4
    exact next_key_end (I.ok.hd hc) st q2 q4 q5 g2 fun h' eb => ⟨rfl, I.turned (t' := s.toks) (fun b ob hb e => eb b ob hb e) f0 f1 f3 f4 f5⟩
  self := fun A i s Q E st h => by
    refine wpAny_pyIter_slot st.typeIs PySem.F.slot_dict_keyiterator_iter (wpAny_call_entry PySem.F.slot_dict_keyiterator_iter st.typeIs PySem.F.entry_dict_keyiterator_iter ?_ (PySem.F.args_dict_keyiterator_iter_1 _))
    show wpAny _ _ (ret (.ref it)) _ _ s
    exact wpAny_pure ⟨_, rfl, "dict_keyiterator", _, st.typeIs, PySem.F.slot_dict_keyiterator_next.lookup, h⟩
/-- for k in a locked dict -/
def iDic (td : TE) : TI := fun σ H R => td σ H fun x H1 => ∃ d o, x = .ref d ∧ ((∃ kvs, H1 d = some (.frz o (.dK kvs)) ∧ R (Itk d o kvs) H1) ∨ ∃ xs, H1 d = some (.frz o (DXo d xs)) ∧ R (ItkX d o xs) H1)
theorem pi_dic {X : Cx} {tg e : Expr} {td : TE} (he : PE X e td) : PI X tg e (iDic td) := by
  refine ⟨fun pins s σ H R I h => ?_⟩
  refine thn (he.run pins s σ H _ I h) fun u s1 ⟨x, H1, I1, rx, d, o, ex, q⟩ => ?_
  subst ex
  obtain rfl : u = Value.ref d := rx
  rcases q with ⟨kvs, hd, q⟩ | ⟨xs, hd, q⟩
  · obtain ⟨hs, hgd, hx, es, ep, vs, hdt, hsz, kv, hm⟩ := I1.frzK hd
    refine iter_keys hs hgd hx hdt (pi_one (tk := s1.toks) I1 _ (turn_keys _ hdt) ⟨_, Heap.get?_push_size _ rfl, rfl, ?_⟩ q)
    rw [hsz] <;> rfl
  · obtain ⟨hs, hgd, hx, es, ep, hdt, hsz, ent⟩ := frzX I1 hd
    refine iter_keys hs hgd hx hdt (pi_one (tk := s1.toks) I1 _ (turn_keysX _ hdt) ⟨_, Heap.get?_push_size _ rfl, rfl, ?_⟩ q)
    rw [hsz] <;> rfl
theorem psOr {X : Cx} {st : Stmt} {t t' : TS} (h : PS X st t) (h' : PS X st t') : PS X st (fun D σ H => t D σ H ∨ t' D σ H) := ⟨fun pins s σ H D I q => q.elim (h.run pins s σ H D I) (h'.run pins s σ H D I)⟩
theorem peOr {X : Cx} {e : Expr} {t t' : TE} (h : PE X e t) (h' : PE X e t') : PE X e (fun σ H Q => t σ H Q ∨ t' σ H Q) := ⟨fun pins s σ H Q I q => q.elim (h.run pins s σ H Q I) (h'.run pins s σ H Q I)⟩
/-- what a dict is, as it is walked -/
inductive DicU (K : PySem.W.Frag) (H : Hp) (A : List Addr) (a : Addr) : HO → List D → Prop
  | k (kvs : List (Key × V)) : DicU K H A a (.dK kvs) (kvs.map fun p => keyD p.1)
  | x (xs : List XEnt) (ks : List D) : RpL K H A (xs.map fun e => V.ref e.2.1) ks → DicU K H A a (DXo a xs) ks
theorem DicU.isM {K : PySem.W.Frag} {H : Hp} {A : List Addr} {a : Addr} {u : HO} {ds : List D} (h : DicU K H A a u ds) : IsM u ∧ Mut (some u) := by cases h <;> exact ⟨trivial, trivial⟩
theorem rp_keyD {K : PySem.W.Frag} {H : Hp} {A : List Addr} (k : Key) : Rp K H A (kV k) (keyD k) := by cases k with | inl i => exact .int i | inr s => exact .str s
theorem zip_fst {α β : Type} : ∀ {l : List α} {m : List β}, l.length = m.length → (l.zip m).map (·.1) = l
  | [], [], _ => rfl
  | a :: l, b :: m, h => by rw [List.zip_cons_cons, List.map_cons, zip_fst (by simpa using h)]
  | [], _ :: _, h => by cases h
  | _ :: _, [], h => by cases h
/-- the walk of a locked dict -/
theorem wk_dic {K : PySem.W.Frag} {H : Hp} {A B : List Addr} {a : Addr} {u : HO} {od : Obj} {ds : List D} (hB : AOk H B) (hs : ∀ b ∈ B, b ∈ A) (n : a ∉ B) (h : DicU K H A a u ds) (hf : H a = some (.frz od u)) :
    ∃ J, Wk K A B J H ds ∧ ((∃ kvs, u = .dK kvs ∧ J = Itk a od kvs) ∨ ∃ xs, u = DXo a xs ∧ J = ItkX a od xs) := by
  cases h with
  | k kvs =>
    refine ⟨Itk a od kvs, fun i H' A2 bt w => ?_, .inl ⟨kvs, rfl, rfl⟩⟩
    have hf' := bt _ _ n hf
    refine ⟨fun d hd => ?_, fun hz => ⟨hf', by simpa using hz⟩⟩
    rw [List.getElem?_map] at hd
    obtain ⟨p, e1, rfl⟩ := Option.map_eq_some_iff.mp hd
    refine ⟨⟨hf', (List.getElem?_eq_some_iff.mp e1).1⟩, fun y H'' hy => ?_⟩
    obtain ⟨rfl, k, v, e2, rfl⟩ := hy
    rw [e1] at e2
    cases e2
    exact ⟨Same.refl _, rp_keyD _⟩
  | x xs ks hr =>
    refine ⟨ItkX a od xs, fun i H' A2 bt w => ?_, .inr ⟨xs, rfl, rfl⟩⟩
    have hf' := bt _ _ n hf
    have hl := hr.length
    rw [List.length_map] at hl
    have r' : RpL K H' A2 (xs.map fun e => V.ref e.2.1) ds := hr.go hs hB bt w
    refine ⟨fun d hd => ?_, fun hz => ⟨hf', by omega⟩⟩
    obtain ⟨x, e1, e2⟩ := r'.get' hd
    rw [List.getElem?_map] at e1
    obtain ⟨e, e3, rfl⟩ := Option.map_eq_some_iff.mp e1
    refine ⟨⟨hf', (List.getElem?_eq_some_iff.mp e3).1⟩, fun y H'' hy => ?_⟩
    obtain ⟨rfl, e', e4, rfl⟩ := hy
    rw [e3] at e4
    cases e4
    exact ⟨Same.refl _, e2⟩
/-- a shared dict in a slot -/
def dicAt (j : Nat) (ρ : Env) : Res (List D) := match ρ[j]? with
  | some (some (false, .dict es)) => .ok (es.map (·.1))
  | _ => .st
theorem dicAt_get {K : PySem.W.Frag} {H : Hp} {A : List Addr} {O : List (List Addr)} {σ : L2.St} {ρ : Env} {j : Nat} {ds : List D} (h : EnvOk K H A O σ ρ) (e : dicAt j ρ = .ok ds) :
    ∃ a u, σ[j]? = some (some (.ref a)) ∧ a ∉ A ∧ Rd H a u ∧ DicU K H A a u ds := by
  unfold dicAt at e
  split at e
  · rename_i es he
    cases e
    obtain ⟨x, r, e1, e2, sl⟩ := h.sl.get he
    cases sl with
    | shared q =>
      cases q with
      | @dic a kvs vs _ h1 h2 h3 h4 =>
        subst h4
        have hl := h3.length
        rw [List.length_map] at hl
        rw [zip_fst (by simpa using hl)]
        exact ⟨a, _, e1, h2, h1, .k kvs⟩
      | @dix a xs ks vs _ h1 h2 h3 h4 h5 h6 =>
        obtain ⟨h6, _⟩ := h6
        subst h6
        rw [zip_fst (rpl_len2 h4 h5)]
        exact ⟨a, _, e1, h2, h1, .x xs ks h3⟩
  · cases e
end Pv

end
section
namespace Pv
open PySem PySem.Spec PyProof.Rows L2

/-! ### for x in d; [.. for x in d] -/
section
variable {K : PySem.W.Frag} {mg : Str → Option Value} {W : WX} {F : Fm} {O : List (List Addr)} {σ : L2.St} {H : Hp} {ρ : Env} {Dn : Ends} {a : Addr} {u : HO} {od : Obj}
/-- the state while a is locked, in a frame of its own -/
theorem StO.lock (hF : F.Ok) (hs : StO K F O σ H ρ) (n : a ∉ F.A0 ++ rts O) (h : H a = some u) (m : IsM u) : Fm.Ok ⟨F.A0, rts O, upd H a (.frz od u)⟩ ∧ StO K ⟨F.A0, rts O, upd H a (.frz od u)⟩ O σ (upd H a (.frz od u)) ρ := by
  have ka : ∀ b ∈ F.A0 ++ rts O, upd H a (.frz od u) b = H b := fun b hb => upd_ne (fun z => n (by rw [← z]; exact hb))
  refine ⟨⟨fun p hp => ?_, fun b hb => hs.notA hF hb⟩, hs.env.rd (lk_lock h m) ka, But.refl, fun b hb => .inl hb⟩
  obtain ⟨o, e, mm⟩ := hs.aok hF p (List.mem_append_left _ hp)
  exact ⟨o, by show upd H a (.frz od u) p = some o; rw [ka p (List.mem_append_left _ hp)]; exact e, mm⟩
theorem unlock_at {H' : Hp} (n : a ∉ F.A0 ++ rts O) (b : But (rts O) (upd H a (.frz od u)) H') : H' a = some (.frz od u) := b _ _ (fun z => n (List.mem_append_right _ z)) upd_same
theorem unlock_but (hF : F.Ok) (hs : StO K F O σ H ρ) (n : a ∉ F.A0 ++ rts O) (h : H a = some u) {H' : Hp} (b : But (rts O) (upd H a (.frz od u)) H') : But F.B0 F.H0 (upd H' a u) := fun c o nc e => by
  by_cases z : c = a
  · subst z
    have := hs.but c o nc e
    rw [h] at this
    cases this
    exact upd_same
  · rw [upd_ne z]
    refine b c o (fun q => ?_) (by rw [upd_ne z]; exact hs.but c o nc e)
    rcases hs.own c q with x | x
    · exact nc x
    · rw [e] at x; cases x
theorem StO.unlock (hF : F.Ok) (hs : StO K F O σ H ρ) (n : a ∉ F.A0 ++ rts O) (h : H a = some u) (m : IsM u) {O' : List (List Addr)} {σ' : L2.St} {H' : Hp} {ρ' : Env} (g : StO K ⟨F.A0, rts O, upd H a (.frz od u)⟩ O' σ' H' ρ') :
    StO K F O' σ' (upd H' a u) ρ' := by
  have hf := unlock_at n g.but
  have nO : a ∉ rts O' := fun z => by
    rcases g.own a z with q | q
    · exact n (List.mem_append_right _ q)
    · have q : upd H a (.frz od u) a = none := q
      rw [upd_same] at q; cases q
  have nA : a ∉ F.A0 ++ rts O' := fun z => by
    rcases List.mem_append.mp z with z | z
    · exact n (List.mem_append_left _ z)
    · exact nO z
  refine ⟨g.env.rd (lk_unlock hf m) (fun b hb => upd_ne (fun z => nA (by rw [← z]; exact hb))), unlock_but hF hs n h g.but, fun b hb => ?_⟩
  rcases g.own b hb with q | q
  · exact hs.own b q
  · by_cases z : b ∈ F.B0
    · exact .inl z
    · refine .inr ?_
      cases e : F.H0 b with
      | none => rfl
      | some o =>
        have e2 := hs.but b o z e
        have q : upd H a (.frz od u) b = none := q
        by_cases y : b = a
        · subst y; rw [upd_same] at q; cases q
        · rw [upd_ne y, e2] at q; cases q
/-- no exception goes out of it -/
def noX : SR → SR
  | .ex _ _ => .st
  | r => r
@[simp] theorem noX_nx (ρ : Env) : noX (.nx ρ) = .nx ρ := id rfl
@[simp] theorem noX_rt (d : D) : noX (.rt d) = .rt d := id rfl
abbrev lockEnds (Dn : Ends) (a : Addr) (u : HO) (od : Obj) : Ends := ⟨fun σ' H' => H' a = some (.frz od u) ∧ Dn.nx σ' (upd H' a u), fun v H' => H' a = some (.frz od u) ∧ Dn.rt v (upd H' a u), fun σ' H' => H' a = some (.frz od u) ∧ Dn.bk σ' (upd H' a u), fun σ' H' => H' a = some (.frz od u) ∧ Dn.ct σ' (upd H' a u)⟩
theorem rts_lock (hF : F.Ok) (hs : StO K F O σ H ρ) (n : a ∉ F.A0 ++ rts O) (h : H a = some u) (m : IsM u) {r : SR} (q : RtS K mg W F Dn (noX r)) : RtS K mg W ⟨F.A0, rts O, upd H a (.frz od u)⟩ (lockEnds Dn a u od) r := by
  cases r with
  | st => exact q
  | ex c ρ => exact q.elim
  | nx ρ1 => exact fun σ' H' O' g => ⟨unlock_at n g.but, q _ _ _ (hs.unlock hF n h m g)⟩
  | bk ρ1 => exact fun σ' H' O' g => ⟨unlock_at n g.but, q _ _ _ (hs.unlock hF n h m g)⟩
  | ct ρ1 => exact fun σ' H' O' g => ⟨unlock_at n g.but, q _ _ _ (hs.unlock hF n h m g)⟩
  | rt d => exact fun v H' b r => ⟨unlock_at n b, q _ _ (unlock_but hF hs n h b) (r.rd (lk_unlock (unlock_at n b) m))⟩
end
def forD (t : Tg) (j : Nat) (body : Env → SR) (ρ : Env) : SR := onE (dicAt j ρ) ρ fun ds => noX (forL t body ds ρ)
section
variable {c : Ctx} {e iter tg : Expr} {body : List Stmt} {fe fc : EvE} {fs : EvS} {pos p : Pos}
theorem s_forD {j : Nat} {x : Str} {t : Tg} (hj : c.N[j]? = some x) (hv : Vis c.sc x) (hd : (x == ("__debug__" : Str)) = false) (hcd : (x == ("__classdict__" : Str)) = false) (hg : SG c tg t) (hb : SSs c body fs) :
    SS c (.For tg (.Name x p) body [] pos) (fun Φ ρ => forD t j (fs Φ) ρ) := fun X Φ W ok tk hp =>
  have base : PS X (.For tg (.Name x p) body [] pos) _ := ps_for hp ok.calm (pi_dic (pe_var (i := j) (by rw [ok.hN]; exact hj) (by rw [ok.sc]; exact hv) hd hcd)) (hg X Φ ok) (hb X Φ W ok tk hp) (fun _ => rfl)
  psI (psOr (ps_lock base) base) fun Dn σ H ⟨F, O, ρ, hF, hs, q⟩ => by
    have q : RtS X.K X.mg W F Dn (onE (dicAt j ρ) ρ fun ds => noX (forL t (fs Φ) ds ρ)) := q
    cases hr : dicAt j ρ with
    | st => rw [hr] at q; exact q.elim
    | ex z =>
      exfalso
      unfold dicAt at hr
      split at hr <;> cases hr
    | ok ds =>
      rw [hr] at q
      obtain ⟨a, u, e1, n, rd, du⟩ := dicAt_get hs.env hr
      rcases rd with hH | ⟨od, hH⟩
      · refine .inl ⟨a, u, hH, du.isM.2, fun od => ⟨_, e1, a, od, rfl, ?_⟩⟩
        obtain ⟨hF1, hs1⟩ := hs.lock (od := od) hF n hH du.isM.1
        have du1 : DicU X.K (upd H a (.frz od u)) (F.A0 ++ rts O) a u ds := by
          cases du with
          | k kvs => exact .k kvs
          | x xs _ hr => exact .x xs _ (hr.rd (lk_lock hH trivial))
        obtain ⟨J, wk, hJ⟩ := wk_dic (hs1.aok hF1) (fun b hb => hb) n du1 upd_same
        have q1 := for_core hF1 hs1 wk (rts_lock (od := od) hF hs n hH du.isM.1 q)
        rcases hJ with ⟨kvs, rfl, rfl⟩ | ⟨xs, rfl, rfl⟩
        · exact .inl ⟨kvs, upd_same, q1⟩
        · exact .inr ⟨xs, upd_same, q1⟩
      · refine .inr ⟨_, e1, a, od, rfl, ?_⟩
        have q : RtS X.K X.mg W F Dn (forL t (fs Φ) ds ρ) := by
          have q : RtS X.K X.mg W F Dn (noX (forL t (fs Φ) ds ρ)) := q
          cases hz : forL t (fs Φ) ds ρ with
          | ex c ρ' => rw [hz] at q; exact q.elim
          | st => rw [hz] at q; exact q
          | nx _ => rw [hz] at q; exact q
          | bk _ => rw [hz] at q; exact q
          | ct _ => rw [hz] at q; exact q
          | rt _ => rw [hz] at q; exact q
        obtain ⟨J, wk, hJ⟩ := wk_dic (hs.aok hF) (fun b hb => hb) n du hH
        have q1 := for_core hF hs wk q
        rcases hJ with ⟨kvs, rfl, rfl⟩ | ⟨xs, rfl, rfl⟩
        · exact .inl ⟨kvs, hH, q1⟩
        · exact .inr ⟨xs, hH, q1⟩
/-- [e for t in d if cond] -/
def lcD (own : List Nat) (t : Tg) (j : Nat) (fc fe : EvE) : EvE := lcE own t (fun _ ρ => dicAt j ρ) fc fe
theorem se_lcD {j : Nat} {x : Str} {scope : Scope} {own : List (Str × Nat)} {ifs : List Expr} {t : Tg} (hj : c.N[j]? = some x) (hv : Vis c.sc x) (hd : (x == ("__debug__" : Str)) = false) (hcd : (x == ("__classdict__" : Str)) = false) (bo : BlkOk c.N c.sc scope own) (hg : SG (c.blk scope) tg t) (ht : ∀ i ∈ t.slots, i ∈ own.map (·.2)) (hc : STs (c.blk scope) ifs fc) (he : SE (c.blk scope) e fe) :
    SE c (.ListComp e [⟨tg, .Name x p, ifs, 0⟩] scope pos) (lcD (own.map (·.2)) t j fc fe) := fun X Φ W ok tk =>
  have base : PE X (.ListComp e [⟨tg, .Name x p, ifs, 0⟩] scope pos) (tLc (iDic (tVar j)) (tG X.K t) (tXT X.K X.mg W0 (fc Φ)) (tX X.K X.mg W0 pE (fe Φ)) (own.map (·.2))) := pe_lc ok.calm (by rw [ok.hN]; exact ok.nd) (pi_dic (pe_var (i := j) (by rw [ok.hN]; exact hj) (by rw [ok.sc]; exact hv) hd hcd)) (by rw [ok.hN, ok.sc]; exact bo)
    (fun s H C cl fp => hg _ Φ (ok_blk ok bo s H C cl fp)) (fun s H C cl fp => hc _ Φ W0 (ok_blk ok bo s H C cl fp) takes0) (fun s H C cl fp => he _ Φ W0 (ok_blk ok bo s H C cl fp) takes0) (fun _ => rfl)
  peI (peOr (pe_lock base) base) fun σ H Q ⟨A, O, ρ, hA, hρ, q⟩ => by
    have q : Rt X.mg W (pE X.K A) H σ Q (lcE (own.map (·.2)) t (fun _ ρ => dicAt j ρ) fc fe Φ ρ) := q
    cases hr : dicAt j ρ with
    | st =>
      have : lcE (own.map (·.2)) t (fun _ ρ => dicAt j ρ) fc fe Φ ρ = .st := by unfold lcE; dsimp only; rw [hr]; rfl
      rw [this] at q; exact q.elim
    | ex z =>
      exfalso
      unfold dicAt at hr
      split at hr <;> cases hr
    | ok ds =>
      obtain ⟨a, u, e1, n, rd, du⟩ := dicAt_get hρ hr
      rcases rd with hH | ⟨od, hH⟩
      · refine .inl ⟨a, u, hH, du.isM.2, fun od => ?_⟩
        have ka : ∀ b ∈ A, upd H a (.frz od u) b = H b := fun b hb => upd_ne (fun z => n (by rw [← z]; exact hb))
        have hA1 : AOk (upd H a (.frz od u)) A := fun p hp => by
          obtain ⟨o, z, mm⟩ := hA p hp
          exact ⟨o, by rw [ka p hp]; exact z, mm⟩
        have hρ1 : EnvOk X.K (upd H a (.frz od u)) A O σ ρ := hρ.rd (lk_lock hH du.isM.1) ka
        have du1 : DicU X.K (upd H a (.frz od u)) A a u ds := by
          cases du with
          | k kvs => exact .k kvs
          | x xs ks hr => exact .x xs _ (hr.rd (lk_lock hH trivial))
        have q1 : Rt X.mg W (pE X.K A) (upd H a (.frz od u)) σ (fun v H' => H' a = some (.frz od u) ∧ Q v (upd H' a u)) (lcE (own.map (·.2)) t (fun _ ρ => dicAt j ρ) fc fe Φ ρ) := by
          cases hz : lcE (own.map (·.2)) t (fun _ ρ => dicAt j ρ) fc fe Φ ρ with
          | st => rw [hz] at q; exact q
          | ok d =>
            rw [hz] at q
            intro v H' s p
            have hf : H' a = some (.frz od u) := s _ _ upd_same
            refine ⟨hf, q v _ (fun b o e => ?_) (p.rd (lk_unlock hf du.isM.1))⟩
            by_cases z : b = a
            · subst z; rw [hH] at e; cases e; exact upd_same
            · rw [upd_ne z]; exact s _ _ (by rw [upd_ne z]; exact e)
          | ex c =>
            exfalso
            have hx : ∀ ds, lcL (fun d => asgT t d (wipeE ρ (own.map (·.2)))) (fc Φ) (fe Φ) ds ≠ .ex c := lcL_noex
            unfold lcE at hz
            dsimp only at hz
            rw [hr, Res.ok_bind] at hz
            split at hz
            · cases hl : lcL (fun d => asgT t d (wipeE ρ (own.map (·.2)))) (fc Φ) (fe Φ) ds with
              | st => rw [hl] at hz; cases hz
              | ok r => rw [hl] at hz; cases hz
              | ex z => rw [hl] at hz; cases hz; exact hx _ hl
            · cases hz
        refine lc_readG (B := []) ht hA1 hρ1 (fun R hR => ?_) (lc_toF hA1 q1)
        have hR : RtI X.K X.mg W A [] (upd H a (.frz od u)) σ R (dicAt j ρ) := hR
        rw [hr] at hR
        obtain ⟨J, wk, hJ⟩ := wk_dic (B := []) (H := upd H a (.frz od u)) (A := A) AOk.nil (by simp) (by simp) du1 upd_same
        refine ⟨_, e1, a, od, rfl, ?_⟩
        rcases hJ with ⟨kvs, rfl, rfl⟩ | ⟨xs, rfl, rfl⟩
        · exact .inl ⟨kvs, upd_same, hR _ _ (Same.refl _) wk⟩
        · exact .inr ⟨xs, upd_same, hR _ _ (Same.refl _) wk⟩
      · refine .inr (lc_readG (B := []) ht hA hρ (fun R hR => ?_) (lc_toF hA q))
        have hR : RtI X.K X.mg W A [] H σ R (dicAt j ρ) := hR
        rw [hr] at hR
        obtain ⟨J, wk, hJ⟩ := wk_dic (B := []) (H := H) (A := A) AOk.nil (by simp) (by simp) du hH
        refine ⟨_, e1, a, od, rfl, ?_⟩
        rcases hJ with ⟨kvs, rfl, rfl⟩ | ⟨xs, rfl, rfl⟩
        · exact .inl ⟨kvs, hH, hR _ _ (Same.refl _) wk⟩
        · exact .inr ⟨xs, hH, hR _ _ (Same.refl _) wk⟩
end
end Pv

end
section
namespace Pv
open PySem PySem.Spec PyProof.Rows L2

/-! ### t = xs.pop(), xs.pop(k), xs.insert(k, v): xs owned -/
section
variable {K : PySem.W.Frag} {H : Hp} {A : List Addr}
theorem RpL.dropLast : ∀ {v : List V} {d : List D}, RpL K H A v d → RpL K H A v.dropLast d.dropLast
  | _, _, .nil => .nil
  | _, _, .cons h .nil => .nil
  | _, _, .cons h (.cons h2 r) => .cons h (RpL.dropLast (.cons h2 r))
theorem RpL.eraseIdx : ∀ {v : List V} {d : List D} (k : Nat), RpL K H A v d → RpL K H A (v.eraseIdx k) (d.eraseIdx k)
  | _, _, _, .nil => .nil
  | _, _, 0, .cons h r => r
  | _, _, k + 1, .cons h r => .cons h (RpL.eraseIdx k r)
end
def popS (i : Nat) (t : Tg) (ρ : Env) : SR := ownL i ρ fun ds => match ds[ds.length - 1]? with
  | some d => asgS t d (ρ.set i (some (true, .list ds.dropLast))) .nx
  | none => .st
def popAtS (i : Nat) (ρ : Env) (m : Res D) : SR := ownL i ρ fun ds => onE m ρ fun d => match d with
  | .int k => if sm ds.length then (match ixN ds.length k with
    | some j => .nx (ρ.set i (some (true, .list (ds.eraseIdx j))))
    | none => .st) else .st
  | _ => .st
def insS (i : Nat) (ρ : Env) (mk m : Res D) : SR := ownL i ρ fun ds => onE mk ρ fun k => onE m ρ fun d => match k with
  | .int k => if decide (0 ≤ k) && decide (k < 2 ^ 62) && sm ds.length then .nx (ρ.set i (some (true, .list (ds.take k.toNat ++ [d] ++ ds.drop k.toNat)))) else .st
  | _ => .st
section
variable {c : Ctx} {a e tg : Expr} {fa fe : EvE} {pos pos' : Pos}
theorem s_pop {i : Nat} {x : Str} {p apos cpos : Pos} {t : Tg} (hi : c.N[i]? = some x) (hv : Vis c.sc x) (hd : (x == ("__debug__" : Str)) = false) (hcd : (x == ("__classdict__" : Str)) = false) (hg : SG c tg t) (hn : notStar tg = true) (hline : (apos.endLine == cpos.line) = true)
    (hs : ∀ env, env.scope = c.sc → swapsWithSole [tg] (.Call (.Attribute (.Name x p) "pop" apos) [] [] cpos) pos.line env = pure false) (hw : ∀ env, env.scope = c.sc → swappedStores [tg] (.Call (.Attribute (.Name x p) "pop" apos) [] [] cpos) env = pure none) :
    SS c (.Assign [tg] (.Call (.Attribute (.Name x p) "pop" apos) [] [] cpos) pos) (fun Φ ρ => popS i t ρ) := fun X Φ W ok tk hp =>
  psI (ps_asg (pe_bm0 PySem.F.plainAttrs_list PySem.F.slot_list_pop PySem.F.type_list_pop mt_pop (pe_var (i := i) (by rw [ok.hN]; exact hi) (by rw [ok.sc]; exact hv) hd hcd) rfl hline) (hg X Φ ok) (hs _ ok.sc) (hw _ ok.sc) (by cases tg <;> first | rfl | cases hn)) fun Dn σ H ⟨F, O, ρ, hF, hs, q⟩ => by
    obtain ⟨ds, a, xs, e0, e1, e2, ha, r, q1⟩ := ownL_get hs q
    cases hl : ds[ds.length - 1]? with
    | none => simp only [hl] at q1; exact q1.elim
    | some d =>
      simp only [hl] at q1
      rw [← r.length] at hl
      obtain ⟨y, e3, hy⟩ := r.get' hl
      refine ⟨.ref a, e1, .inl ⟨rfl, xs, .inl (.inl ha)⟩, a, xs, y, rfl, rfl, ha, e3, ?_⟩
      have hs2 := mutL hF hs e1 e2 ha r.dropLast
      have inA : a ∈ F.A0 ++ rts O := List.mem_append_right _ (mem_at e2 (by simp))
      have hy2 : Rp X.K (upd H a (.lst xs.dropLast)) (F.A0 ++ rts O) y d := hy.but (B := [a]) (But.upd (by simp)) (fun p hp => by
        rw [List.mem_singleton.mp hp]; exact ⟨_, ha, trivial⟩) (by simpa using inA)
      exact asgS_read hF hs2 hy2 q1 fun ρ' σ' O2 s2 q2 => q2 _ _ _ s2
theorem s_popAt {i : Nat} {x : Str} {p apos cpos : Pos} (is : List Nat) (hi : c.N[i]? = some x) (hv : Vis c.sc x) (hd : (x == ("__debug__" : Str)) = false) (hcd : (x == ("__classdict__" : Str)) = false) (he : SE c e fe) (hn : notStar e = true) (hline : (apos.endLine == cpos.line) = true) :
    SS c (.Expr (.Call (.Attribute (.Name x p) "pop" apos) [e] [] cpos) pos) (fun Φ ρ => popAtS i (dis is ρ) (fe Φ (dis is ρ))) := fun X Φ W ok tk hp =>
  psI (ps_expr (pe_bm PySem.F.plainAttrs_list PySem.F.slot_list_pop PySem.F.type_list_pop mt_popAt (pe_var (i := i) (by rw [ok.hN]; exact hi) (by rw [ok.sc]; exact hv) hd hcd) (pa_cons (he X Φ W ok tk) pa_nil (star_of hn _ _)) rfl (few1 hn) hline (star_of hn _ _) rfl)) fun Dn σ H ⟨F, O, ρ, hF, hs, q⟩ => by
    obtain ⟨O1, hs1⟩ := hs.dis hF is
    obtain ⟨ds, a, xs, e0, e1, e2, ha, r, q1⟩ := ownL_get hs1 q
    refine ⟨.ref a, e1, .inl ⟨rfl, xs, .inl (.inl ha)⟩, _, O1, _, hs1.aok hF, hs1.env, rt_onE q1 hs1 fun d v H1 s1 p q2 => ?_⟩
    cases d with
    | int k =>
      cases p
      by_cases hz : sm ds.length = true
      case neg => simp only [hz] at q2; exact q2.elim
      have hz' := of_decide_eq_true hz
      simp only [hz, if_true] at q2
      cases hj : ixN ds.length k with
      | none => simp only [hj] at q2; exact q2.elim
      | some j =>
        simp only [hj] at q2
        have hl := r.length
        rw [← hl] at hj
        obtain ⟨h1, h2, h3, h4⟩ := ixN_seq hj
        have r1 := r.same s1
        exact ⟨a, xs, k, j, xs[j], rfl, rfl, s1 _ _ ha, by omega, by omega, h1, List.getElem?_eq_getElem h2, q2 _ _ _ (mutL hF (hs1.same s1) e1 e2 (s1 _ _ ha) (r1.eraseIdx j))⟩
    | _ => exact q2.elim
theorem s_insert {i : Nat} {x : Str} {p apos cpos : Pos} (is : List Nat) (hi : c.N[i]? = some x) (hv : Vis c.sc x) (hd : (x == ("__debug__" : Str)) = false) (hcd : (x == ("__classdict__" : Str)) = false) (ha : SE c a fa) (he : SE c e fe) (hna : notStar a = true) (hn : notStar e = true) (hline : (apos.endLine == cpos.line) = true) :
    SS c (.Expr (.Call (.Attribute (.Name x p) "insert" apos) [a, e] [] cpos) pos) (fun Φ ρ => insS i (dis is ρ) (fa Φ (dis is ρ)) (fe Φ (dis is ρ))) := fun X Φ W ok tk hp =>
  psI (ps_expr (pe_bm PySem.F.plainAttrs_list PySem.F.slot_list_insert PySem.F.type_list_insert mt_insert (pe_var (i := i) (by rw [ok.hN]; exact hi) (by rw [ok.sc]; exact hv) hd hcd) (pa_cons (ha X Φ W ok tk) (pa_cons (he X Φ W ok tk) pa_nil (star_of hn _ _)) (star_of hna _ _)) rfl (few2 hna hn) hline (star_of hna _ _) (stars_of (by simp [hn])))) fun Dn σ H ⟨F, O, ρ, hF, hs, q⟩ => by
    obtain ⟨O1, hs1⟩ := hs.dis hF is
    obtain ⟨ds, a, xs, e0, e1, e2, ha, r, q1⟩ := ownL_get hs1 q
    refine ⟨.ref a, e1, .inl ⟨rfl, xs, .inl (.inl ha)⟩, _, O1, _, hs1.aok hF, hs1.env, rt_onE q1 hs1 fun k vk H1 s1 p q2 => ?_⟩
    have hs2 := hs1.same s1
    refine ⟨_, O1, _, hs2.aok hF, hs2.env, rt_onE q2 hs2 fun d v H2 s2 p2 q3 => ?_⟩
    cases k with
    | int k =>
      cases p
      have q3 : RtS X.K X.mg W F Dn (if (decide (0 ≤ k) && decide (k < 2 ^ 62) && sm ds.length) = true then .nx ((dis is ρ).set i (some (true, .list (ds.take k.toNat ++ [d] ++ ds.drop k.toNat)))) else .st) := q3
      by_cases hz : (decide (0 ≤ k) && decide (k < 2 ^ 62) && sm ds.length) = true
      · rw [if_pos hz] at q3
        obtain ⟨z1, z2, z3⟩ := and3 hz
        have z2 := of_decide_eq_true z2
        have r2 := (r.same s1).same s2
        refine ⟨a, xs, k, v, rfl, rfl, s2 _ _ (s1 _ _ ha), by rw [r.length]; exact sm_lt z3, of_decide_eq_true z1, by omega, ?_⟩
        exact q3 _ _ _ (mutL hF (hs2.same s2) e1 e2 (s2 _ _ (s1 _ _ ha)) (((r2.take _).append (.cons p2 .nil)).append (r2.drop _)))
      · rw [if_neg hz] at q3; exact q3.elim
    | _ => exact q3.elim
end
end Pv

end
section
namespace Pv
open PySem PySem.Spec PyProof.Rows L2

/-! ### x = [[] for t in it], x = {k: [] for t in it}: the new lists are owned, too -/
def asgOk (t : Tg) (ρ : Env) (ds : List D) : Bool := ds.all fun d => match asgT t d ρ with | .ok _ => true | _ => false
theorem asgOk_at {t : Tg} {ρ : Env} {ds : List D} (h : asgOk t ρ ds = true) {d : D} (hd : d ∈ ds) : ∃ ρ', asgT t d ρ = .ok ρ' := by
  have := List.all_eq_true.mp h d hd
  cases e : asgT t d ρ with
  | ok ρ' => exact ⟨ρ', rfl⟩
  | st => rw [e] at this; cases this
  | ex z => rw [e] at this; cases this
/-- the keys, each a number or a text -/
def keysL (asg : D → Res Env) (key : Env → Res D) : List D → Res (List Key)
  | [] => .ok []
  | d :: ds => do
    let ρ' ← noex (asg d)
    let y ← noex (key ρ')
    let k ← Res.ofO (keyO y)
    let r ← keysL asg key ds
    pure (k :: r)
theorem keysL_noex {asg : D → Res Env} {key : Env → Res D} {z : Str} : ∀ ds : List D, keysL asg key ds ≠ .ex z := by
  intro ds
  induction ds with
  | nil => intro h; cases h
  | cons d ds ih =>
    intro h
    unfold keysL at h
    cases h1 : noex (asg d) with
    | st => rw [h1] at h; cases h
    | ex z => cases h0 : asg d <;> rw [h0] at h1 <;> cases h1
    | ok ρ' =>
      rw [h1, Res.ok_bind] at h
      cases h2 : noex (key ρ') with
      | st => rw [h2] at h; cases h
      | ex z => cases h0 : key ρ' <;> rw [h0] at h2 <;> cases h2
      | ok y =>
        rw [h2, Res.ok_bind] at h
        cases h3 : keyO y with
        | none => rw [h3] at h; cases h
        | some k =>
          rw [h3, Res.ofO_some, Res.ok_bind] at h
          cases h4 : keysL asg key ds with
          | st => rw [h4] at h; cases h
          | ok r => rw [h4] at h; cases h
          | ex z' => rw [h4] at h; cases h; exact ih h4
theorem tYes_run {σ : L2.St} {H : Hp} {k : Bool → Hp → Prop} (h : k true H) : tYes σ H k := h
/-- new, empty lists -/
def NewNil (H H' : Hp) (bs : List Addr) : Prop := ∀ b ∈ bs, H b = none ∧ H' b = some (.lst [])
theorem NewNil.kids {K : PySem.W.Frag} {H H' : Hp} {A : List Addr} : ∀ {bs : List Addr}, NewNil H H' bs → (∀ b ∈ bs, b ∈ A) → Kids K H' A bs (List.replicate bs.length (.list []))
  | [], _, _ => .nil
  | b :: bs, h, m => .cons (m b (by simp)) (h b (by simp)).2 .nil (NewNil.kids (bs := bs) (fun c hc => h c (by simp [hc])) fun c hc => m c (by simp [hc]))
section
variable {c : Ctx} {a e iter tg : Expr} {fk fe : EvE} {fi : EvL} {pos pos' : Pos}
theorem lcN_read {K : PySem.W.Frag} {mg : Str → Option Value} {W : WX} {bor : Bool} {t : Tg} {Φ : Calls} {own : List Nat} (ht : ∀ i ∈ t.slots, i ∈ own) {A : List Addr} {O : List (List Addr)} {ρ : Env} {σ : L2.St} {H : Hp} {Q : VK} {ds : List D} (hA : AOk H A) (hρ : EnvOk K H A O σ ρ) (hi : fi Φ ρ = .ok ds) (hsm : sm ds.length = true) (hok : asgOk t (wipeE ρ own) ds = true)
    (q : ∀ D bs H', Same H H' → (D :: bs).Nodup → H D = none → NewNil H H' bs → H' D = some (.lst (bs.map V.ref)) → bs.length = ds.length → Q (.ref D) H') : tLc (tI K mg W bor (fi Φ)) (tG K t) tYes (tLst tNil) own σ H Q := by
  refine ⟨A, O, ρ, hA, hρ, ?_⟩
  rw [hi]
  intro J H1 s1 wk D nD
  have hA1 := hA.same s1
  have hρ1 := hρ.same s1
  have hz : ds.length ≤ 1000000 := of_decide_eq_true hsm
  have hS := sizeLine_eq
  refine ⟨fun i m H2 => m = ds.length - i ∧ i ≤ ds.length ∧ Same H1 H2 ∧ ∃ bs : List Addr, H2 D = some (.lst (bs.map V.ref)) ∧ bs.length = i ∧ (D :: bs).Nodup ∧ NewNil H1 H2 bs,
    ⟨ds.length, by simp, Nat.zero_le _, same_upd nD, [], upd_same, rfl, by simp, fun b hb => by cases hb⟩, ?_⟩
  rintro i m H2 ⟨rfl, hi, s2, bs, hD, hlen, hnd, hnew⟩
  have hA2 : AOk H2 (D :: A) := fun p hp => by
    rcases List.mem_cons.mp hp with rfl | hp
    · exact ⟨_, hD, trivial⟩
    · exact (hA1.same s2) p hp
  have hρ2 : EnvOk K H2 (D :: A) O σ ρ := (hρ1.new nD).same s2
  obtain ⟨wgo, wst⟩ := wk i H2 (D :: A) (fun b o _ e => s2 b o e) fun p hp => by
    rcases List.mem_cons.mp hp with rfl | hp
    · exact .inr nD
    · exact .inl hp
  by_cases hlt : i < ds.length
  · obtain ⟨go, yl⟩ := wgo _ (List.getElem?_eq_getElem hlt)
    obtain ⟨ρ', hr⟩ := asgOk_at hok (List.getElem_mem hlt)
    refine .inr ⟨go, fun H' => Same H1 H' ∧ ∃ bs : List Addr, H' D = some (.lst (bs.map V.ref)) ∧ bs.length = i + 1 ∧ (D :: bs).Nodup ∧ NewNil H1 H' bs, fun H' ⟨s', x⟩ => ⟨ds.length - (i + 1), by omega, rfl, hlt, s', x⟩, fun x H' hy => ?_⟩
    obtain ⟨s3, hx⟩ := yl x H' hy
    refine ⟨D :: A, wipeO O own, wipeE ρ own, ds[i], hA2.same s3, (hρ2.same s3).wipe own, hx, ?_⟩
    rw [hr]
    refine fun σ' O' e4 _ e5 => ⟨?_, ?_⟩
    · rw [e5 own ht]
      apply List.ext_getElem?
      intro j
      by_cases hj : j < σ.length
      · rw [wipe_at (by rw [wipe_length]; exact hj), wipe_at hj]
        by_cases hm : j ∈ own
        · rw [if_pos hm, if_pos hm]
        · rw [if_neg hm, if_neg hm]
      · rw [List.getElem?_eq_none (by rw [wipe_length, wipe_length]; omega), List.getElem?_eq_none (by rw [wipe_length]; omega)]
    · refine tYes_run ?_
      simp only [if_true]
      refine ⟨by simp, fun p np => ?_⟩
      have hD3 : H' D = some (.lst (bs.map V.ref)) := s3 _ _ hD
      have hpD : p ≠ D := fun z => by rw [z, hD3] at np; cases np
      refine ⟨bs.map V.ref, by rw [upd_ne (fun z => hpD z.symm)]; exact hD3, by rw [List.length_map]; omega, ?_, bs ++ [p], by rw [upd_same, List.map_append]; rfl, by rw [List.length_append, hlen]; rfl, ?_, ?_⟩
      · intro b o hb
        have h1 : H' b = some o := s3 _ _ (s2 _ _ hb)
        rw [upd_ne (fun z => by rw [z, nD] at hb; cases hb), upd_ne (fun z => by rw [z, np] at h1; cases h1)]
        exact h1
      · rw [← List.cons_append, List.nodup_append]
        refine ⟨hnd, by simp, fun x hx y hy => ?_⟩
        rw [List.mem_singleton.mp hy]
        rintro rfl
        rcases List.mem_cons.mp hx with e | hx
        · exact hpD e
        · have := s3 _ _ (hnew x hx).2
          rw [np] at this; cases this
      · intro b hb
        rcases List.mem_append.mp hb with hb | hb
        · obtain ⟨n1, n2⟩ := hnew b hb
          refine ⟨n1, ?_⟩
          have h3 := s3 _ _ n2
          rw [upd_ne (fun z => ?_), upd_ne (fun z => by rw [z, np] at h3; cases h3)]
          · exact h3
          · rw [z] at hb
            exact (List.nodup_cons.mp hnd).1 hb
        · rw [List.mem_singleton.mp hb]
          refine ⟨?_, by rw [upd_ne hpD, upd_same]⟩
          cases e : H1 p with
          | none => rfl
          | some o => rw [s3 _ _ (s2 _ _ e)] at np; cases np
  · have e : i = ds.length := by omega
    subst e
    refine .inl ⟨wst (Nat.le_refl _), q D bs _ (s1.trans s2) hnd (s1.free nD) (fun b hb => ⟨?_, (hnew b hb).2⟩) hD hlen⟩
    exact s1.free (hnew b hb).1
theorem dcN_read {K : PySem.W.Frag} {mg : Str → Option Value} {W : WX} {bor : Bool} {t : Tg} {Φ : Calls} {own : List Nat} (ht : ∀ i ∈ t.slots, i ∈ own) {A : List Addr} {O : List (List Addr)} {ρ : Env} {σ : L2.St} {H : Hp} {Q : VK} {ds : List D} {ks : List Key} (hA : AOk H A) (hρ : EnvOk K H A O σ ρ) (hi : fi Φ ρ = .ok ds) (hsm : sm ds.length = true) (hok : keysL (fun d => asgT t d (wipeE ρ own)) (fk Φ) ds = .ok ks) (hkn : ks.Nodup)
    (q : ∀ D bs kvs H', Same H H' → (D :: bs).Nodup → H D = none → NewNil H H' bs → H' D = some (.dK kvs) → kvs.map (·.2) = bs.map V.ref → kvs.map (·.1) = ks → Q (.ref D) H') : tDc (tI K mg W bor (fi Φ)) (tG K t) tYes (tX K mg W0 pE (fk Φ)) (tLst tNil) own σ H Q := by
  refine ⟨A, O, ρ, hA, hρ, ?_⟩
  rw [hi]
  intro J H1 s1 wk D nD
  have hA1 := hA.same s1
  have hρ1 := hρ.same s1
  have hz : ds.length ≤ 1000000 := of_decide_eq_true hsm
  have hS := sizeLine_eq
  refine ⟨fun i m H2 => m = ds.length - i ∧ i ≤ ds.length ∧ Same H1 H2 ∧ ∃ (bs : List Addr) (kvs : List (Key × V)) (rest : List Key), H2 D = some (.dK kvs) ∧ kvs.map (·.2) = bs.map V.ref ∧ keysL (fun d => asgT t d (wipeE ρ own)) (fk Φ) (ds.drop i) = .ok rest ∧ kvs.map (·.1) ++ rest = ks ∧ kvs.length = i ∧ (D :: bs).Nodup ∧ NewNil H1 H2 bs,
    ⟨ds.length, by simp, Nat.zero_le _, same_upd nD, [], [], ks, upd_same, rfl, by simpa using hok, rfl, rfl, by simp, fun b hb => by cases hb⟩, ?_⟩
  rintro i m H2 ⟨rfl, hi, s2, bs, kvs, rest, hD, hkv, hrest, hks, hlen, hnd, hnew⟩
  have hA2 : AOk H2 (D :: A) := fun p hp => by
    rcases List.mem_cons.mp hp with rfl | hp
    · exact ⟨_, hD, trivial⟩
    · exact (hA1.same s2) p hp
  have hρ2 : EnvOk K H2 (D :: A) O σ ρ := (hρ1.new nD).same s2
  obtain ⟨wgo, wst⟩ := wk i H2 (D :: A) (fun b o _ e => s2 b o e) fun p hp => by
    rcases List.mem_cons.mp hp with rfl | hp
    · exact .inr nD
    · exact .inl hp
  by_cases hlt : i < ds.length
  · obtain ⟨go, yl⟩ := wgo _ (List.getElem?_eq_getElem hlt)
    rw [List.drop_eq_getElem_cons hlt] at hrest
    unfold keysL at hrest
    cases hr : asgT t ds[i] (wipeE ρ own) with
    | st => rw [hr] at hrest; cases hrest
    | ex z => rw [hr] at hrest; cases hrest
    | ok ρ' =>
      have e1 : noex (asgT t ds[i] (wipeE ρ own)) = .ok ρ' := by rw [hr]; rfl
      rw [e1, Res.ok_bind] at hrest
      cases h2 : fk Φ ρ' with
      | st => rw [h2] at hrest; cases hrest
      | ex z => rw [h2] at hrest; cases hrest
      | ok y =>
        have e2 : noex (fk Φ ρ') = .ok y := by rw [h2]; rfl
        rw [e2, Res.ok_bind] at hrest
        cases h3 : keyO y with
        | none => rw [h3] at hrest; cases hrest
        | some kk =>
          rw [h3, Res.ofO_some, Res.ok_bind] at hrest
          cases h4 : keysL (fun d => asgT t d (wipeE ρ own)) (fk Φ) (ds.drop (i + 1)) with
          | st => rw [h4] at hrest; cases hrest
          | ex z => rw [h4] at hrest; cases hrest
          | ok r' =>
            rw [h4] at hrest
            cases hrest
            have hfr : kk ∉ kvs.map (·.1) := fun z => by
              rw [← hks, List.nodup_append] at hkn
              exact hkn.2.2 kk z kk (by simp) rfl
            refine .inr ⟨go, fun H' => Same H1 H' ∧ ∃ (bs : List Addr) (kvs : List (Key × V)) (rest : List Key), H' D = some (.dK kvs) ∧ kvs.map (·.2) = bs.map V.ref ∧ keysL (fun d => asgT t d (wipeE ρ own)) (fk Φ) (ds.drop (i + 1)) = .ok rest ∧ kvs.map (·.1) ++ rest = ks ∧ kvs.length = i + 1 ∧ (D :: bs).Nodup ∧ NewNil H1 H' bs,
              fun H' ⟨s', x⟩ => ⟨ds.length - (i + 1), by omega, rfl, hlt, s', x⟩, fun x H' hy => ?_⟩
            obtain ⟨s3, hx⟩ := yl x H' hy
            refine ⟨D :: A, wipeO O own, wipeE ρ own, ds[i], hA2.same s3, (hρ2.same s3).wipe own, hx, ?_⟩
            rw [hr]
            refine fun σ' O' e4 _ e5 => ⟨?_, ?_⟩
            · rw [e5 own ht]
              apply List.ext_getElem?
              intro j
              by_cases hj : j < σ.length
              · rw [wipe_at (by rw [wipe_length]; exact hj), wipe_at hj]
                by_cases hm : j ∈ own
                · rw [if_pos hm, if_pos hm]
                · rw [if_neg hm, if_neg hm]
              · rw [List.getElem?_eq_none (by rw [wipe_length, wipe_length]; omega), List.getElem?_eq_none (by rw [wipe_length]; omega)]
            · refine tYes_run ?_
              simp only [if_true]
              refine ⟨D :: A, O', ρ', hA2.same s3, e4, ?_⟩
              rw [h2]
              intro v H4 s5 hv
              refine ⟨by simp, fun p np => ?_⟩
              have hD4 : H4 D = some (.dK kvs) := s5 _ _ (s3 _ _ hD)
              have hpD : p ≠ D := fun z => by rw [z, hD4] at np; cases np
              have hput : putK kvs kk (.ref p) = kvs ++ [(kk, .ref p)] := by
                unfold putK
                rw [if_neg]
                intro z
                obtain ⟨y, hy, e⟩ := List.any_eq_true.mp z
                exact hfr (List.mem_map.mpr ⟨y, hy, of_decide_eq_true e⟩)
              refine ⟨kvs, kk, keyO_V hv h3, by rw [upd_ne (fun z => hpD z.symm)]; exact hD4, by omega, ?_, bs ++ [p], kvs ++ [(kk, .ref p)], r', by rw [upd_same, hput], by rw [List.map_append, List.map_append, hkv]; rfl, h4, by rw [List.map_append, ← hks, List.append_assoc]; rfl, by rw [List.length_append, hlen]; rfl, ?_, ?_⟩
              · intro b o hb
                have h1 : H4 b = some o := s5 _ _ (s3 _ _ (s2 _ _ hb))
                rw [upd_ne (fun z => by rw [z, nD] at hb; cases hb), upd_ne (fun z => by rw [z, np] at h1; cases h1)]
                exact h1
              · rw [← List.cons_append, List.nodup_append]
                refine ⟨hnd, by simp, fun x hx y hy => ?_⟩
                rw [List.mem_singleton.mp hy]
                rintro rfl
                rcases List.mem_cons.mp hx with e | hx
                · exact hpD e
                · have := s5 _ _ (s3 _ _ (hnew x hx).2)
                  rw [np] at this; cases this
              · intro b hb
                rcases List.mem_append.mp hb with hb | hb
                · obtain ⟨n1, n2⟩ := hnew b hb
                  refine ⟨n1, ?_⟩
                  have h3 := s5 _ _ (s3 _ _ n2)
                  rw [upd_ne (fun z => ?_), upd_ne (fun z => by rw [z, np] at h3; cases h3)]
                  · exact h3
                  · rw [z] at hb
                    exact (List.nodup_cons.mp hnd).1 hb
                · rw [List.mem_singleton.mp hb]
                  refine ⟨?_, by rw [upd_ne hpD, upd_same]⟩
                  cases e : H1 p with
                  | none => rfl
                  | some o => rw [s5 _ _ (s3 _ _ (s2 _ _ e))] at np; cases np
  · have e : i = ds.length := by omega
    subst e
    rw [List.drop_length] at hrest
    cases hrest
    rw [List.append_nil] at hks
    exact .inl ⟨wst (Nat.le_refl _), q D bs kvs _ (s1.trans s2) hnd (s1.free nD) (fun b hb => ⟨s1.free (hnew b hb).1, (hnew b hb).2⟩) hD hkv hks⟩
/-- the statements -/
def stNL (i : Nat) (own : List Nat) (t : Tg) (fi : EvL) : EvS := fun Φ ρ => match fi Φ ρ with
  | .ok ds => if sm ds.length && asgOk t (wipeE ρ own) ds && decide (i < ρ.length) then .nx (ρ.set i (some (true, .tuple [.list (List.replicate ds.length (.list []))]))) else .st
  | _ => .st
def stND (i : Nat) (own : List Nat) (t : Tg) (fi : EvL) (fk : EvE) : EvS := fun Φ ρ => match fi Φ ρ with
  | .ok ds => match keysL (fun d => asgT t d (wipeE ρ own)) (fk Φ) ds with
    | .ok ks => if sm ds.length && decide ks.Nodup && decide (i < ρ.length) then .nx (ρ.set i (some (true, .tuple [.dict (ks.map fun k => (keyD k, .list []))]))) else .st
    | _ => .st
  | _ => .st
theorem stNL_read {K : PySem.W.Frag} {mg : Str → Option Value} {W : WX} {bor : Bool} {F : Fm} {Dn : Ends} {t : Tg} {Φ : Calls} {own : List Nat} (ht : ∀ i ∈ t.slots, i ∈ own) {O : List (List Addr)} {ρ : Env} {σ : L2.St} {H : Hp} {i : Nat} (hF : F.Ok) (hs : StO K F O σ H ρ) (q : RtS K mg W F Dn (stNL i own t fi Φ ρ)) :
    tLc (tI K mg W bor (fi Φ)) (tG K t) tYes (tLst tNil) own σ H (fun x H1 => gName i x σ H1 Dn.nx) := by
  unfold stNL at q
  cases hi : fi Φ ρ with
  | st => rw [hi] at q; exact q.elim
  | ex z => rw [hi] at q; exact q.elim
  | ok ds =>
    rw [hi] at q
    have q : RtS K mg W F Dn (if (sm ds.length && asgOk t (wipeE ρ own) ds && decide (i < ρ.length)) = true then .nx (ρ.set i (some (true, .tuple [.list (List.replicate ds.length (.list []))]))) else .st) := q
    by_cases hz : (sm ds.length && asgOk t (wipeE ρ own) ds && decide (i < ρ.length)) = true
    case neg => rw [if_neg hz] at q; exact q.elim
    rw [if_pos hz] at q
    obtain ⟨z1, z2, z3⟩ := and3 hz
    have z3 := of_decide_eq_true z3
    refine lcN_read ht (hs.aok hF) hs.env hi z1 z2 fun D bs H' s nd nD hn hD hl => ?_
    have hO : i < O.length := by rw [hs.env.sl.len.2]; exact z3
    have inn : ∀ b ∈ D :: bs, b ∈ F.A0 ++ rts (O.set i (D :: bs)) := fun b hb => List.mem_append_right _ (mem_at (i := i) (r := D :: bs) (by rw [List.getElem?_set_self hO]) hb)
    have sl : Slot K H' (F.A0 ++ rts (O.set i (D :: bs))) (some (.ref D)) (some (true, .tuple [.list (List.replicate ds.length (.list []))])) (D :: bs) := by
      rw [← hl]
      exact .deepL (inn _ (by simp)) hD nd (hn.kids fun b hb => inn b (by simp [hb]))
    exact q _ _ _ (hs.putN i hF s (fun p hp => by
      rcases List.mem_cons.mp hp with rfl | hp
      · exact nD
      · exact (hn p hp).1) sl)
theorem stND_read {K : PySem.W.Frag} {mg : Str → Option Value} {W : WX} {bor : Bool} {F : Fm} {Dn : Ends} {t : Tg} {Φ : Calls} {own : List Nat} (ht : ∀ i ∈ t.slots, i ∈ own) {O : List (List Addr)} {ρ : Env} {σ : L2.St} {H : Hp} {i : Nat} (hF : F.Ok) (hs : StO K F O σ H ρ) (q : RtS K mg W F Dn (stND i own t fi fk Φ ρ)) :
    tDc (tI K mg W bor (fi Φ)) (tG K t) tYes (tX K mg W0 pE (fk Φ)) (tLst tNil) own σ H (fun x H1 => gName i x σ H1 Dn.nx) := by
  unfold stND at q
  cases hi : fi Φ ρ with
  | st => rw [hi] at q; exact q.elim
  | ex z => rw [hi] at q; exact q.elim
  | ok ds =>
    rw [hi] at q
    cases hk : keysL (fun d => asgT t d (wipeE ρ own)) (fk Φ) ds with
    | st => simp only [hk] at q; exact q.elim
    | ex z => exact (keysL_noex ds hk).elim
    | ok ks =>
      simp only [hk] at q
      have q : RtS K mg W F Dn (if (sm ds.length && decide ks.Nodup && decide (i < ρ.length)) = true then .nx (ρ.set i (some (true, .tuple [.dict (ks.map fun k => (keyD k, .list []))]))) else .st) := q
      by_cases hz : (sm ds.length && decide ks.Nodup && decide (i < ρ.length)) = true
      case neg => rw [if_neg hz] at q; exact q.elim
      rw [if_pos hz] at q
      obtain ⟨z1, z2, z3⟩ := and3 hz
      have z3 := of_decide_eq_true z3
      refine dcN_read ht (hs.aok hF) hs.env hi z1 hk (of_decide_eq_true z2) fun D bs kvs H' s nd nD hn hD hv hkk => ?_
      have hO : i < O.length := by rw [hs.env.sl.len.2]; exact z3
      have inn : ∀ b ∈ D :: bs, b ∈ F.A0 ++ rts (O.set i (D :: bs)) := fun b hb => List.mem_append_right _ (mem_at (i := i) (r := D :: bs) (by rw [List.getElem?_set_self hO]) hb)
      have hl : kvs.length = bs.length := by simpa using congrArg List.length hv
      have sl : Slot K H' (F.A0 ++ rts (O.set i (D :: bs))) (some (.ref D)) (some (true, .tuple [.dict (ks.map fun k => (keyD k, .list []))])) (D :: bs) := by
        refine .deepD (inn _ (by simp)) hD hv nd (hn.kids fun b hb => inn b (by simp [hb])) ?_
        rw [← hkk, ← hl, List.map_map]
        clear hkk q hz hn hv hl hD
        induction kvs with
        | nil => rfl
        | cons p kvs ih => rw [List.map_cons, List.map_cons, List.length_cons, List.replicate_succ, List.zip_cons_cons, ← ih]; rfl
      exact q _ _ _ (hs.putN i hF s (fun p hp => by
        rcases List.mem_cons.mp hp with rfl | hp
        · exact nD
        · exact (hn p hp).1) sl)
end
end Pv

end
section
namespace Pv
open PySem PySem.Spec PyProof.Rows L2

/-! ### xs[k].append(v), the lists in xs owned, too -/
section
variable {K : PySem.W.Frag} {H : Hp} {A : List Addr}
theorem Kids.at : ∀ {bs : List Addr} {ds : List D} {j : Nat} {d : D}, Kids K H A bs ds → ds[j]? = some d → ∃ b xs es, bs[j]? = some b ∧ d = .list es ∧ b ∈ A ∧ H b = some (.lst xs) ∧ RpL K H A xs es
  | _, _, _, _, .nil, e => by simp at e
  | _, _, 0, _, .cons m h r _, e => by simp at e; subst e; exact ⟨_, _, _, rfl, rfl, m, h, r⟩
  | _, _, j + 1, d, .cons _ _ _ q, e => by
    obtain ⟨b, xs, es, e1, h⟩ := Kids.at (j := j) (d := d) q (by simpa using e)
    exact ⟨b, xs, es, by simpa using e1, h⟩
theorem Kids.put {b : Addr} {ys : List V} {es : List D} (hA : AOk H [b]) (m : b ∈ A) (r : RpL K (upd H b (.lst ys)) A ys es) : ∀ {bs : List Addr} {ds : List D} {j : Nat}, Kids K H A bs ds → bs[j]? = some b → bs.Nodup → Kids K (upd H b (.lst ys)) A bs (ds.set j (.list es))
  | _, _, _, .nil, e, _ => by simp at e
  | _, _, 0, .cons m1 h1 r1 q, e, nd => by
    simp at e
    subst e
    refine .cons m1 upd_same r ?_
    exact q.go (B := [_]) (by simpa using m) hA (But.upd (by simp)) (fun p hp => .inl hp) fun c hc => ⟨fun z => by rw [List.mem_singleton.mp z] at hc; exact (List.nodup_cons.mp nd).1 hc, q.inA c hc⟩
  | _, _, j + 1, .cons (b := c) (bs := cs) m1 h1 r1 q, e, nd => by
    have e : cs[j]? = some b := by simpa using e
    have hc : c ≠ b := fun z => (List.nodup_cons.mp nd).1 (by rw [z]; exact List.mem_of_getElem? e)
    refine .cons m1 (by rw [upd_ne hc]; exact h1) (r1.but (B := [b]) (But.upd (by simp)) hA (by simpa using m)) ?_
    exact Kids.put hA m r q e (List.nodup_cons.mp nd).2
theorem ixN_lt {n : Nat} {k : Int} {j : Nat} (h : ixN n k = some j) : j < n := (ixN_seq h).2.1
theorem findK {kk : Key} : ∀ {kvs : List (Key × V)} {ds : List D} {j : Nat}, kvs.length = ds.length → (zipE kvs ds).findIdx? (fun p => decide (keyO p.1 = some kk)) = some j → ∃ p d, kvs[j]? = some p ∧ ds[j]? = some d ∧ (zipE kvs ds)[j]? = some (keyD p.1, d) ∧ valV kvs kk = some p.2
  | [], [], j, _, h => by simp [zipE] at h
  | [], _ :: _, _, h, _ => by cases h
  | _ :: _, [], _, h, _ => by cases h
  | p :: kvs, d :: ds, j, hl, h => by
    have hz : zipE (p :: kvs) (d :: ds) = (keyD p.1, d) :: zipE kvs ds := rfl
    rw [hz, List.findIdx?_cons] at h
    by_cases q : p.1 = kk
    · rw [keyO_D, if_pos (by simpa using q)] at h
      cases h
      exact ⟨p, d, rfl, rfl, rfl, valV_pos q⟩
    · rw [keyO_D, if_neg (by simpa using q)] at h
      obtain ⟨i, e1, rfl⟩ := Option.map_eq_some_iff.mp h
      obtain ⟨p', d', h1, h2, h3, h4⟩ := findK (kk := kk) (kvs := kvs) (ds := ds) (j := i) (by simpa using hl) e1
      exact ⟨p', d', by simpa using h1, by simpa using h2, by rw [hz]; simpa using h3, by rw [valV_neg q]; exact h4⟩
theorem zipE_set {d : D} : ∀ {kvs : List (Key × V)} {ds : List D} {j : Nat} {p : Key × V}, kvs[j]? = some p → (zipE kvs ds).set j (keyD p.1, d) = zipE kvs (ds.set j d)
  | [], _, _, _, h => by simp at h
  | p :: kvs, [], j, q, h => by cases j <;> rfl
  | p :: kvs, e :: ds, 0, q, h => by simp at h; subst h; rfl
  | p :: kvs, e :: ds, j + 1, q, h => by
    have h : kvs[j]? = some q := by simpa using h
    show (keyD p.1, e) :: (zipE kvs ds).set j (keyD q.1, d) = (keyD p.1, e) :: zipE kvs (ds.set j d)
    rw [zipE_set h]
end
def appNS (i : Nat) (ρ : Env) (mk m : Res D) : SR := match ρ[i]? with
  | some (some (true, .tuple [.list ds])) => onE mk ρ fun k => match k with
    | .int k => match ixN ds.length k with
      | some j => match ds[j]? with
        | some (.list ys) => onE m ρ fun d => if sm ys.length then .nx (ρ.set i (some (true, .tuple [.list (ds.set j (.list (ys ++ [d])))]))) else .st
        | _ => .st
      | none => .st
    | _ => .st
  | some (some (true, .tuple [.dict es])) => onE mk ρ fun k => match keyO k with
    | some kk => match es.findIdx? (fun p => decide (keyO p.1 = some kk)) with
      | some j => match es[j]? with
        | some (kd, .list ys) => onE m ρ fun d => if sm ys.length then .nx (ρ.set i (some (true, .tuple [.dict (es.set j (kd, .list (ys ++ [d])))]))) else .st
        | _ => .st
      | none => .st
    | none => .st
  | _ => .st
theorem ixOr {X : Cx} {r r' : R2} (h : IxR X r) (h' : IxR X r') : IxR X (fun x y H Q => r x y H Q ∨ r' x y H Q) := fun b c pins s σ H x y v u Q I rx ry q hs => q.elim (fun q => h b c pins s σ H x y v u Q I rx ry q hs) (fun q => h' b c pins s σ H x y v u Q I rx ry q hs)
section
variable {c : Ctx} {a e iter tg : Expr} {fa fe : EvE} {fi : EvL} {pos pos' ipos : Pos}
theorem s_appN {i : Nat} {x : Str} {p apos cpos : Pos} (is : List Nat) (hi : c.N[i]? = some x) (hv : Vis c.sc x) (hd : (x == ("__debug__" : Str)) = false) (hcd : (x == ("__classdict__" : Str)) = false) (hk : SE c a fa) (hp0 : PlainIx a) (he : SE c e fe) (hn : notStar e = true) (hline : (apos.endLine == cpos.line) = true) :
    SS c (.Expr (.Call (.Attribute (.Subscript (.Name x p) a ipos) "append" apos) [e] [] cpos) pos) (fun Φ ρ => appNS i (dis is ρ) (fa Φ (dis is ρ)) (fe Φ (dis is ρ))) := fun X Φ W ok tk hp =>
  psI (ps_expr (pe_bm PySem.F.plainAttrs_list PySem.F.slot_list_append PySem.F.type_list_append mt_append (pe_ix (ixOr ix_list (ix_dict (by have := ok.hu; omega))) (pe_var (i := i) (by rw [ok.hN]; exact hi) (by rw [ok.sc]; exact hv) hd hcd) (hk X Φ W ok tk) hp0) (pa_cons (he X Φ W ok tk) pa_nil (star_of hn _ _)) rfl (few1 hn) hline (star_of hn _ _) rfl)) fun Dn σ H ⟨F, O, ρ, hF, hs, q⟩ => by
    obtain ⟨O1, hs1⟩ := hs.dis hF is
    have q : RtS X.K X.mg W F Dn (appNS i (dis is ρ) (fa Φ (dis is ρ)) (fe Φ (dis is ρ))) := q
    unfold appNS at q
    split at q
    · rename_i ds e0
      obtain ⟨x0, r0, e1, e2, sl⟩ := hs1.env.sl.get e0
      cases sl with
      | @deepL a0 bs _ m0 hH nd kd =>
        refine ⟨.ref a0, e1, _, O1, _, hs1.aok hF, hs1.env, rt_onE q hs1 fun k vk H1 s1 p1 q1 => ?_⟩
        have hs2 := hs1.same s1
        cases k with
        | int k =>
          cases p1
          cases hj : ixN ds.length k with
          | none => simp only [hj] at q1; exact q1.elim
          | some j =>
            simp only [hj] at q1
            have kd1 : Kids X.K H1 (F.A0 ++ rts O1) bs ds := kd.go (B := []) (by simp) AOk.nil (But.of_same s1) (fun p hp => .inl hp) fun b hb => ⟨by simp, kd.inA b hb⟩
            have hlt := ixN_lt hj
            have hdj : ds[j]? = some ds[j] := List.getElem?_eq_getElem hlt
            obtain ⟨b, xs, ys, e3, e4, mb, hb, rb⟩ := kd1.at hdj
            rw [hdj, e4] at q1
            simp only at q1
            have hl := kd.length
            refine .inl ⟨a0, bs.map V.ref, k, .ref b, rfl, rfl, .inl (.inl (s1 _ _ hH)), ?_, .inl ⟨rfl, xs, .inl (.inl hb)⟩, _, O1, _, hs2.aok hF, hs2.env, rt_onE q1 hs2 fun d v H2 s2 p2 q2 => ?_⟩
            · unfold atI
              rw [List.length_map, hl, hj]
              show (bs.map V.ref)[j]? = _
              rw [List.getElem?_map, e3]; rfl
            · by_cases hz : sm ys.length = true
              case neg => rw [if_neg hz] at q2; exact q2.elim
              rw [if_pos hz] at q2
              have hs3 := hs2.same s2
              have hb2 := s2 _ _ hb
              have kd2 : Kids X.K H2 (F.A0 ++ rts O1) bs ds := kd1.go (B := []) (by simp) AOk.nil (But.of_same s2) (fun p hp => .inl hp) fun b hb => ⟨by simp, kd.inA b hb⟩
              have hA2 : AOk H2 [b] := fun p hp => by rw [List.mem_singleton.mp hp]; exact ⟨_, hb2, trivial⟩
              have rb2 : RpL X.K (upd H2 b (.lst (xs ++ [v]))) (F.A0 ++ rts O1) (xs ++ [v]) (ys ++ [d]) := ((rb.same s2).append (.cons p2 .nil)).but (B := [b]) (But.upd (by simp)) hA2 (by simpa using mb)
              have hne : a0 ≠ b := fun z => (List.nodup_cons.mp nd).1 (by rw [z]; exact List.mem_of_getElem? e3)
              refine ⟨b, xs, v, rfl, rfl, hb2, by rw [rb.length]; exact sm_lt hz, q2 _ _ _ (hs3.mutN i hF e1 e2 (by simp [List.mem_of_getElem? e3]) (.deepL m0 ?_ nd ?_))⟩
              · rw [upd_ne hne]; exact s2 _ _ (s1 _ _ hH)
              · exact Kids.put hA2 mb rb2 kd2 e3 (List.nodup_cons.mp nd).2
        | _ => exact q1.elim
    · rename_i es e0
      obtain ⟨x0, r0, e1, e2, sl⟩ := hs1.env.sl.get e0
      cases sl with
      | @deepD a0 bs kvs ds _ m0 hH hv0 nd kd hes =>
        subst hes
        refine ⟨.ref a0, e1, _, O1, _, hs1.aok hF, hs1.env, rt_onE q hs1 fun k vk H1 s1 p1 q1 => ?_⟩
        have hs2 := hs1.same s1
        cases hkk : keyO k with
        | none => simp only [hkk] at q1; exact q1.elim
        | some kk =>
          simp only [hkk] at q1
          have hl := kd.length
          have hl2 : kvs.length = bs.length := by simpa using congrArg List.length hv0
          cases hj : (zipE kvs ds).findIdx? (fun p => decide (keyO p.1 = some kk)) with
          | none =>
            have hj' : ((kvs.map fun p => keyD p.1).zip ds).findIdx? (fun p => decide (keyO p.1 = some kk)) = none := hj
            simp only [hj'] at q1; exact q1.elim
          | some j =>
            have hj' : ((kvs.map fun p => keyD p.1).zip ds).findIdx? (fun p => decide (keyO p.1 = some kk)) = some j := hj
            simp only [hj'] at q1
            obtain ⟨p0, d0, h1, h2, h3, h4⟩ := findK (by omega) hj
            have h3' : ((kvs.map fun p => keyD p.1).zip ds)[j]? = some (keyD p0.1, d0) := h3
            rw [h3'] at q1
            have kd1 : Kids X.K H1 (F.A0 ++ rts O1) bs ds := kd.go (B := []) (by simp) AOk.nil (But.of_same s1) (fun p hp => .inl hp) fun b hb => ⟨by simp, kd.inA b hb⟩
            obtain ⟨b, xs, ys, e3, rfl, mb, hb, rb⟩ := kd1.at h2
            simp only at q1
            have hp0 : p0.2 = .ref b := by
              have z1 : (kvs.map (·.2))[j]? = some p0.2 := by rw [List.getElem?_map, h1]; rfl
              rw [hv0, List.getElem?_map, e3] at z1
              exact (Option.some.inj z1).symm
            rw [hp0] at h4
            refine .inr ⟨a0, kvs, kk, .ref b, rfl, .inl (s1 _ _ hH), keyO_V p1 hkk, h4, .inl ⟨rfl, xs, .inl (.inl hb)⟩, _, O1, _, hs2.aok hF, hs2.env, rt_onE q1 hs2 fun d v H2 s2 p2 q2 => ?_⟩
            by_cases hz : sm ys.length = true
            case neg => rw [if_neg hz] at q2; exact q2.elim
            rw [if_pos hz] at q2
            have hs3 := hs2.same s2
            have hb2 := s2 _ _ hb
            have kd2 : Kids X.K H2 (F.A0 ++ rts O1) bs ds := kd1.go (B := []) (by simp) AOk.nil (But.of_same s2) (fun p hp => .inl hp) fun b hb => ⟨by simp, kd.inA b hb⟩
            have hA2 : AOk H2 [b] := fun p hp => by rw [List.mem_singleton.mp hp]; exact ⟨_, hb2, trivial⟩
            have rb2 : RpL X.K (upd H2 b (.lst (xs ++ [v]))) (F.A0 ++ rts O1) (xs ++ [v]) (ys ++ [d]) := ((rb.same s2).append (.cons p2 .nil)).but (B := [b]) (But.upd (by simp)) hA2 (by simpa using mb)
            have hne : a0 ≠ b := fun z => (List.nodup_cons.mp nd).1 (by rw [z]; exact List.mem_of_getElem? e3)
            refine ⟨b, xs, v, rfl, rfl, hb2, by rw [rb.length]; exact sm_lt hz, q2 _ _ _ (hs3.mutN i hF e1 e2 (by simp [List.mem_of_getElem? e3]) (.deepD m0 ?_ hv0 nd (Kids.put hA2 mb rb2 kd2 e3 (List.nodup_cons.mp nd).2) ?_))⟩
            · rw [upd_ne hne]; exact s2 _ _ (s1 _ _ hH)
            · exact zipE_set h1
    · exact q.elim
/-- k in x, k not in x: x a dict whose lists are owned, too -/
def inKR (neg : Bool) (i : Nat) (ρ : Env) (m : Res D) : Res D := match ρ[i]? with
  | some (some (true, .tuple [.dict es])) => m >>= fun k => match keyO k with
    | some kk => .ok (.bool (xor neg (getE es kk).isSome))
    | none => .st
  | _ => .st
theorem opr_inK {X : Cx} (neg : Bool) (hu : X.A.units + 70 < cLine) : OpR X (compareOp (if neg then .NotIn else .In)) (fun x y H Q => ∃ a kvs k, y = .ref a ∧ Rd H a (.dK kvs) ∧ x = kV k ∧ Q (.bl (xor neg (valV kvs k).isSome)) H) := by
  intro pins s σ H x y v u Q I rx ry ⟨a, kvs, k, e1, h, e2, q⟩
  subst e1 e2
  cases ry
  cases neg
  · exact d_in (X := X) (by omega) I (.inl ⟨kvs, k, h, rfl, rfl⟩) rx fun s' I' => ⟨.bl (valV kvs k).isSome, H, I', rfl, by simpa using q⟩
  · exact d_notIn (X := X) (by omega) I (.inl ⟨kvs, k, h, rfl, rfl⟩) rx fun s' I' => ⟨.bl (!(valV kvs k).isSome), H, I', rfl, by simpa using q⟩
theorem kids_get {K : PySem.W.Frag} {H : Hp} {A : List Addr} {kk : Key} {kvs : List (Key × V)} {ds : List D} (hl : kvs.length = ds.length) : (getE (zipE kvs ds) kk).isSome = (valV kvs kk).isSome := by
  induction kvs generalizing ds with
  | nil => rfl
  | cons p kvs ih =>
    cases ds with
    | nil => cases hl
    | cons d ds =>
      by_cases q : p.1 = kk
      · have e1 : getE (zipE (p :: kvs) (d :: ds)) kk = some d := by simp [getE, zipE, q]
        rw [e1, valV_pos q]; rfl
      · have e1 : getE (zipE (p :: kvs) (d :: ds)) kk = getE (zipE kvs ds) kk := by simp [getE, zipE, q]
        rw [e1, valV_neg q]
        exact ih (by simpa using hl)
theorem inK_read {X : Cx} {Φ : Calls} {W : WX} {i : Nat} {neg : Bool} {A : List Addr} {O : List (List Addr)} {ρ : Env} {σ : L2.St} {H : Hp} {P : Res D → Prop} (hρ : EnvOk X.K H A O σ ρ) (m : Res D) (hst : ¬ P .st) (q : P (inKR neg i ρ m)) :
    ∃ es, ρ[i]? = some (some (true, .tuple [.dict es])) ∧ P (m >>= fun k => match keyO k with | some kk => .ok (.bool (xor neg (getE es kk).isSome)) | none => .st) := by
  unfold inKR at q
  split at q
  · rename_i es e
    exact ⟨es, e, q⟩
  · exact (hst q).elim
theorem inK_at {K : PySem.W.Frag} {H : Hp} {A : List Addr} {O : List (List Addr)} {ρ : Env} {σ : L2.St} {i : Nat} {es : List (D × D)} (hρ : EnvOk K H A O σ ρ) (e : ρ[i]? = some (some (true, .tuple [.dict es]))) :
    ∃ a kvs ds, σ[i]? = some (some (.ref a)) ∧ H a = some (.dK kvs) ∧ es = zipE kvs ds ∧ kvs.length = ds.length := by
  obtain ⟨x0, r0, e1, e2, sl⟩ := hρ.sl.get e
  cases sl with
  | @deepD a0 bs kvs ds _ m0 hH hv0 nd kd hes =>
    have hl := kd.length
    have hl2 : kvs.length = bs.length := by simpa using congrArg List.length hv0
    exact ⟨a0, kvs, ds, e1, hH, hes, by omega⟩
theorem se_inK {neg : Bool} {i : Nat} {x : Str} {p : Pos} (hi : c.N[i]? = some x) (hv : Vis c.sc x) (hd : (x == ("__debug__" : Str)) = false) (hcd : (x == ("__classdict__" : Str)) = false) (ha : SE c a fa) :
    SE c (.Compare a [if neg then .NotIn else .In] [.Name x p] pos) (fun Φ ρ => inKR neg i ρ (fa Φ ρ)) := fun X Φ W ok tk =>
  peI (pe_cmpR (opr_inK neg ok.hu) (ha X Φ W ok tk) (pe_var (i := i) (by rw [ok.hN]; exact hi) (by rw [ok.sc]; exact hv) hd hcd) (notSet_mark' neg)) fun σ H Q ⟨A, O, ρ, hA, hρ, q⟩ => by
    obtain ⟨es, e, q⟩ := inK_read (X := X) (Φ := Φ) (W := W) (P := Rt X.mg W (pE X.K A) H σ Q) hρ (fa Φ ρ) (fun h => h) q
    refine ⟨A, O, ρ, hA, hρ, q.bind fun k v H1 s1 p1 q1 => ?_⟩
    obtain ⟨a, kvs, ds, e1, e2, rfl, hl⟩ := inK_at (hρ.same s1) e
    cases hkk : keyO k with
    | none => simp only [hkk] at q1; exact q1.elim
    | some kk =>
      simp only [hkk] at q1
      refine ⟨.ref a, e1, a, kvs, kk, rfl, .inl e2, keyO_V p1 hkk, ?_⟩
      rw [← kids_get (K := X.K) (H := H1) (A := A) hl]
      exact q1 _ _ (Same.refl _) (.bl _)
where
  notSet_mark' (neg : Bool) : behindInMarks (if neg then .NotIn else .In) (.Name x p) = false := by cases neg <;> with_unfolding_all rfl
theorem st_inK {neg : Bool} {i : Nat} {x : Str} {p : Pos} (hi : c.N[i]? = some x) (hv : Vis c.sc x) (hd : (x == ("__debug__" : Str)) = false) (hcd : (x == ("__classdict__" : Str)) = false) (ha : SE c a fa) :
    ST c (.Compare a [if neg then .NotIn else .In] [.Name x p] pos) (fun Φ ρ => inKR neg i ρ (fa Φ ρ)) := fun X Φ W ok tk =>
  ptI (pt_cmpR (opr_inK neg ok.hu) (ha X Φ W ok tk) (pe_var (i := i) (by rw [ok.hN]; exact hi) (by rw [ok.sc]; exact hv) hd hcd) (se_inK.notSet_mark' neg)) fun σ H Q ⟨A, O, ρ, hA, hρ, q⟩ => by
    obtain ⟨es, e, q⟩ := inK_read (X := X) (Φ := Φ) (W := W) (P := RtB X.mg W H σ Q) hρ (fa Φ ρ) (fun h => h) q
    refine ⟨A, O, ρ, hA, hρ, q.bind fun k v H1 s1 p1 q1 => ?_⟩
    obtain ⟨a, kvs, ds, e1, e2, rfl, hl⟩ := inK_at (hρ.same s1) e
    cases hkk : keyO k with
    | none => simp only [hkk] at q1; exact q1.elim
    | some kk =>
      simp only [hkk] at q1
      refine ⟨.ref a, e1, a, kvs, kk, rfl, .inl e2, keyO_V p1 hkk, _, rfl, ?_⟩
      rw [← kids_get (K := X.K) (H := H1) (A := A) hl]
      exact q1 _ (Same.refl _)
/-- flags down ahead of a statement -/
theorem s_dis {s : Stmt} {f : EvS} (is : List Nat) (h : SS c s f) : SS c s (fun Φ ρ => f Φ (dis is ρ)) := fun X Φ W ok tk hp =>
  psI (h X Φ W ok tk hp) fun Dn σ H ⟨F, O, ρ, hF, hs, q⟩ => by
    obtain ⟨O1, hs1⟩ := hs.dis hF is
    exact ⟨F, O1, _, hF, hs1, q⟩
end
end Pv

end
section
namespace Pv
open PySem PySem.Spec PyProof.Rows L2

/-! ### dict(d); {k: v, l: w} -/
section
variable {X : Cx}
theorem cr_dcopy : CallR X (.type "dict") (fun vs H Q => ∃ (a : Addr) (kvs : List (Key × V)), vs = [.ref a] ∧ Rd H a (.dK kvs) ∧ ∀ p, H p = none → Q (.ref p) (upd H p (.dK kvs))) := by
  intro pins s σ H vs us Q I r h
  obtain ⟨a, kvs, rfl, ha, q⟩ := h
  rw [Vals.ref1 r]
  exact d_copyOf I ha fun p s' np I' => ⟨.ref p, _, I', rfl, q p np⟩
end
def dcpR (x : D) : Res D := match x with
  | .dict es => if es.all fun p => (keyO p.1).isSome then .ok (.dict es) else .st
  | _ => .st
theorem dcpR_ok {x d : D} (h : dcpR x = .ok d) : ∃ es, x = .dict es ∧ d = .dict es ∧ (es.all fun p => (keyO p.1).isSome) = true := by
  cases x <;> first | (cases h; done) | skip
  rename_i es
  unfold dcpR at h
  by_cases q : (es.all fun p => (keyO p.1).isSome) = true
  · simp only [q, if_true] at h
    cases h
    exact ⟨es, rfl, rfl, q⟩
  · simp only [q] at h
    cases h
theorem dcpR_ex (d : D) (c : Str) : dcpR d ≠ .ex c := by
  intro hd
  cases d with
  | dict es =>
    have hd : (if (es.all fun p => (keyO p.1).isSome) = true then Res.ok (PyData.dict es) else .st) = .ex c := hd
    by_cases q : (es.all fun p => (keyO p.1).isSome) = true
    · rw [if_pos q] at hd; cases hd
    · rw [if_neg q] at hd; cases hd
  | _ => cases hd
section
variable {K : PySem.W.Frag} {H : Hp} {A : List Addr}
/-- a dict whose keys are numbers and texts is none of the other kind -/
theorem dix_not {xs : List XEnt} {ks ds : List D} {es : List (D × D)} (hk : ks.map keyX = xs.map (fun e => some e.1)) (hr : RpL K H A (xs.map (·.2.2)) ds) (e : es = ks.zip ds) (ne : xs ≠ []) (h : (es.all fun p => (keyO p.1).isSome) = true) : False := by
  cases xs with
  | nil => exact ne rfl
  | cons x xs =>
    cases ks with
    | nil => simp at hk
    | cons k ks =>
      cases hr with
      | cons h1 h2 =>
        subst e
        rw [List.zip_cons_cons, List.all_cons, Bool.and_eq_true] at h
        rw [List.map_cons, List.map_cons] at hk
        have hk1 := (List.cons.inj hk).1
        have h0 := h.1
        cases k <;> first
          | (simp [keyX] at hk1; done)
          | (simp [keyO] at h0; done)
end
section
variable {c : Ctx} {a b : Expr} {fa fb : EvE} {pos p q q2 : Pos}
theorem sfd_copy (hb : ("dict" : Str) ∈ c.blts) (hk : c.sc.names.lookup ("dict" : Str) = some .globalImplicit) (ha : SB c a fa) (hn : notStar a = true) :
    SFd c (.Call (.Name "dict" p) [a] [] pos) (fun Φ ρ => do let x ← fa Φ ρ; dcpR x) := fun X Φ W ok tk =>
  peI (pe_callTy (p := p) (pos := pos) cr_dcopy (gl_of ok hk) (ok.blt _ hb) (by decide +kernel) (pa_cons (ha X Φ W ok tk) pa_nil (star_of hn _ _)) (by decide) (by decide) (star_of hn _ _) (stars_of rfl)) fun σ H Q ⟨A, O, ρ, hA, hρ, q⟩ => by
    have q : RtFd X.K X.mg W A H σ Q (fa Φ ρ >>= dcpR) := q
    refine ⟨A, O, ρ, hA, hρ, ?_⟩
    cases hm : fa Φ ρ with
    | st => rw [hm] at q; exact q.elim
    | ex c => rw [hm] at q; exact q
    | ok d =>
      rw [hm] at q
      have q : RtFd X.K X.mg W A H σ Q (dcpR d) := q
      intro v H1 s1 p1
      cases hd : dcpR d with
      | st => rw [hd] at q; exact q.elim
      | ex c =>
        exact absurd hd (dcpR_ex d c)
      | ok d2 =>
        obtain ⟨es, rfl, rfl, hk2⟩ := dcpR_ok hd
        rw [hd] at q
        rcases p1 with ⟨a, kvs, ds, rfl, h1, h2, h3⟩ | ⟨a, xs, ks, ds, rfl, h1, h2, h3, h4, h5⟩
        · exact ⟨a, kvs, rfl, h1, fun p np => q p kvs ds _ (s1.trans (same_upd np)) (by
            cases hp : H p with
            | none => rfl
            | some o => rw [s1 _ _ hp] at np; cases np) upd_same (h2.go (B := []) (by simp) AOk.nil (But.of_same (same_upd np)) fun z hz => (List.mem_cons.mp hz).elim (fun e => .inr (e ▸ np)) .inl) h3⟩
        · exact (dix_not h3 h4 h5.1 h5.2 hk2).elim
/-- {x: a, y: b} -/
def dd2R (x y : Str) (u v : D) : Res D := if x ≠ y then .ok (.dict [(.str x, u), (.str y, v)]) else .st
theorem sfd_dd2 {x y : Str} {j1 j2 : Nat} {p1 p2 : Pos} (ha : SE c a fa) (hb : SE c b fb) : SFd c (.Dict [some (.Constant (.str x) j1 p1), some (.Constant (.str y) j2 p2)] [a, b] pos) (fun Φ ρ => do let u ← fa Φ ρ; let v ← fb Φ ρ; dd2R x y u v) := fun X Φ W ok tk =>
  peI (pe_disp (pps_cons pe_str (ha X Φ W ok tk) (pps_cons pe_str (hb X Φ W ok tk) pps_nil)) rfl rfl (by simp) (by simp)) fun σ H Q ⟨A, O, ρ, hA, hρ, q⟩ => by
    have q : RtFd X.K X.mg W A H σ Q (fa Φ ρ >>= fun u => fb Φ ρ >>= fun v => dd2R x y u v) := q
    intro p np
    have sm0 := same_upd (o := HO.dK []) np
    have hA0 : AOk (upd H p (.dK [])) (p :: A) := fun c hc => by
      rcases List.mem_cons.mp hc with rfl | hc
      · exact ⟨_, upd_same, trivial⟩
      · exact hA.same sm0 c hc
    have hρ0 : EnvOk X.K (upd H p (.dK [])) (p :: A) O σ ρ := hρ.go (B := []) (by simp) AOk.nil (But.of_same sm0) (fun c hc => (List.mem_cons.mp hc).elim (fun e => .inr (e ▸ np)) .inl) fun c hc => ⟨by simp, List.mem_cons_of_mem _ (hρ.sl.inA c hc)⟩
    show tX X.K X.mg W pE (fa Φ) σ (upd H p (.dK [])) _
    refine ⟨p :: A, O, ρ, hA0, hρ0, ?_⟩
    cases hm : fa Φ ρ with
    | st => rw [hm] at q; exact q.elim
    | ex c => rw [hm] at q; exact fun C H' s' hc => q C H' (sm0.trans s') hc
    | ok u =>
      rw [hm] at q
      have q : RtFd X.K X.mg W A H σ Q (fb Φ ρ >>= fun v => dd2R x y u v) := q
      intro uv H1 s1 pu
      have sm1 := sm0.trans s1
      show tX X.K X.mg W pE (fb Φ) σ H1 _
      refine ⟨p :: A, O, ρ, hA0.same s1, hρ0.same s1, ?_⟩
      cases hm2 : fb Φ ρ with
      | st => rw [hm2] at q; exact q.elim
      | ex c => rw [hm2] at q; exact fun C H' s' hc => q C H' (sm1.trans s') hc
      | ok v =>
        rw [hm2] at q
        have q : RtFd X.K X.mg W A H σ Q (dd2R x y u v) := q
        intro vv H2 s2 pv
        have sm2 := sm1.trans s2
        by_cases hne : x = y
        · subst hne
          have : dd2R x x u v = .st := by unfold dd2R; rw [if_neg (by simp)]
          rw [this] at q
          exact q.elim
        · have he : dd2R x y u v = .ok (.dict [(.str x, u), (.str y, v)]) := by unfold dd2R; rw [if_pos hne]
          rw [he] at q
          have hp2 : H2 p = some (.dK []) := s2 _ _ (s1 _ _ upd_same)
          refine ⟨hp2, [(.inr x, uv), (.inr y, vv)], rfl, by simp, ?_⟩
          have hmg : mergeK [] [((.inr x : Key), uv), (.inr y, vv)] = [(.inr x, uv), (.inr y, vv)] := by
            show putK (putK [] (.inr x : Key) uv) (.inr y) vv = _
            have e1 : putK ([] : List (Key × V)) (.inr x) uv = [(.inr x, uv)] := rfl
            rw [e1]
            unfold putK
            simp [hne]
          rw [hmg]
          have hA2 : AOk H2 [p] := fun c hc => by rw [List.mem_singleton.mp hc]; exact ⟨_, hp2, trivial⟩
          have bt : ∀ {w d}, Rp X.K H2 (p :: A) w d → Rp X.K (upd H2 p (.dK [(.inr x, uv), (.inr y, vv)])) (p :: A) w d := fun h => h.but (B := [p]) (But.upd (by simp)) hA2 (by simp)
          refine q p _ [u, v] _ (fun c o hc => ?_) np upd_same (.cons (bt (pu.same s2)) (.cons (bt pv) .nil)) rfl
          have : c ≠ p := fun z => by rw [z, np] at hc; cases hc
          rw [upd_ne this]
          exact sm2 _ _ hc
end
end Pv

end
section
namespace Pv
open PySem PySem.Spec PyProof.Rows L2

/-! ### z.join(texts), text.split(z) -/
def joinR (z : Str) (x : D) : Res D := match seqD x with
  | some ds => match txtsOf ds with
    | some ws => if (ws.map (·.length)).sum + ws.length * z.length ≤ 1000000 then .ok (.str (Txt.join z ws)) else .st
    | none => .st
  | none => .st
def splitS (a : Str) (y : D) : Res D := match y with
  | .str b => if b.length ≠ 0 ∧ a.length ≤ 100000 then .ok (.list ((Txt.split a b).map .str)) else .st
  | _ => .st
def splitR (x : D) (m : Res D) : Res D := match x with
  | .str a => m >>= splitS a
  | _ => .st
section
variable {c : Ctx} {a b : Expr} {fa fb : EvE} {pos p apos : Pos}
theorem se_join {z : Str} {j : Nat} (ha : SB c a fa) (hn : notStar a = true) (hline : (apos.endLine == pos.line) = true) : SE c (.Call (.Attribute (.Constant (.str z) j p) "join" apos) [a] [] pos) (fun Φ ρ => do let x ← fa Φ ρ; joinR z x) := fun X Φ W ok tk =>
  peI (pe_join pe_str (ha X Φ W ok tk) (star_of hn _ _) rfl hline) fun σ H Q ⟨A, O, ρ, hA, hρ, q⟩ => by
    refine ⟨⟨z, rfl⟩, A, O, ρ, hA, hρ, q.bind fun d v H1 s1 p1 q1 => ?_⟩
    unfold joinR at q1
    cases hs : seqD d with
    | none => rw [hs] at q1; exact q1.elim
    | some ds =>
      rw [hs] at q1
      have q1 : Rt X.mg W (pE X.K A) H1 σ Q (match txtsOf ds with | some ws => if (ws.map (·.length)).sum + ws.length * z.length ≤ 1000000 then .ok (.str (Txt.join z ws)) else .st | none => .st) := q1
      cases ht : txtsOf ds with
      | none => rw [ht] at q1; exact q1.elim
      | some ws =>
        rw [ht] at q1
        have q1 : Rt X.mg W (pE X.K A) H1 σ Q (if (ws.map (·.length)).sum + ws.length * z.length ≤ 1000000 then .ok (.str (Txt.join z ws)) else .st) := q1
        by_cases hz : (ws.map (·.length)).sum + ws.length * z.length ≤ 1000000
        · rw [if_pos hz] at q1
          obtain ⟨l, rfl, hl⟩ := seq_texts p1 hs ht
          exact ⟨z, l, ws, rfl, rfl, hl, by omega, q1 _ _ (Same.refl _) (.str _)⟩
        · rw [if_neg hz] at q1; exact q1.elim
theorem se_split {x : Str} {pn : Pos} (ha : SB c (.Name x pn) fa) (hb : SB c b fb) (hn : notStar b = true) (hline : (apos.endLine == pos.line) = true) : SE c (.Call (.Attribute (.Name x pn) "split" apos) [b] [] pos) (fun Φ ρ => do let x ← fa Φ ρ; splitR x (fb Φ ρ)) := fun X Φ W ok tk => by
  refine peI (pe_split (apos := apos) (pos := pos) (ha X Φ W ok tk) (hb X Φ W ok tk) (star_of hn _ _) rfl hline) fun σ H Q ⟨A, O, ρ, hA, hρ, q⟩ => ⟨A, O, ρ, hA, hρ, q.bind fun d v H1 s1 p1 q1 => ?_⟩
  by_cases hd : ∃ u, d = .str u
  · obtain ⟨u, rfl⟩ := hd
    have hv := p1.str
    subst hv
    have q1 : Rt X.mg W (pE X.K A) H1 σ Q (fb Φ ρ >>= splitS u) := q1
    refine ⟨⟨u, rfl⟩, A, O, ρ, hA.same s1, hρ.same s1, q1.bind fun e w H2 s2 p2 q2 => ?_⟩
    by_cases he : ∃ y, e = .str y
    · obtain ⟨y, rfl⟩ := he
      have hw := p2.str
      subst hw
      have q2 : Rt X.mg W (pE X.K A) H2 σ Q (if y.length ≠ 0 ∧ u.length ≤ 100000 then .ok (.list ((Txt.split u y).map .str)) else .st) := q2
      by_cases hz : y.length ≠ 0 ∧ u.length ≤ 100000
      · rw [if_pos hz] at q2
        refine ⟨u, y, rfl, rfl, by simpa using hz.1, by rw [sizeLine_eq]; omega, fun p np => q2 _ _ (same_upd np) (.lst (.inl ⟨.inl upd_same, ((hA.same s1).same s2).fresh np⟩) (rpl_str _))⟩
      · rw [if_neg hz] at q2; exact q2.elim
    · exfalso
      cases e <;> first | exact q2.elim | exact he ⟨_, rfl⟩
  · exfalso
    cases d <;> first | exact q1.elim | exact hd ⟨_, rfl⟩
end
end Pv

end
section
namespace Pv
open PySem PySem.Spec PyProof.Rows L2

/-! ### text.index(sign) -/
def sidx (a b : Str) : Option Nat := (PySem.Builtin.Str.occurrences a b 0 a.length 1).head?
def idxSL (a : Str) (y : D) : Res D := match y with
  | .str b => Res.ofO ((sidx a b).map fun j => .int (j : Nat))
  | _ => .st
def idxSR (x : D) (m : Res D) : Res D := match x with
  | .str a => m >>= idxSL a
  | _ => .st
section
variable {c : Ctx} {a b : Expr} {fa fb : EvE} {pos apos : Pos}
theorem se_idxS {x : Str} {pn : Pos} (ha : SB c (.Name x pn) fa) (hb : SB c b fb) (hn : notStar b = true) (hline : (apos.endLine == pos.line) = true) : SE c (.Call (.Attribute (.Name x pn) "index" apos) [b] [] pos) (fun Φ ρ => do let x ← fa Φ ρ; idxSR x (fb Φ ρ)) := fun X Φ W ok tk => by
  refine peI (pe_m1 (apos := apos) (pos := pos) PySem.F.slot_str_index PySem.F.type_str_index mt_sindex (ha X Φ W ok tk) (hb X Φ W ok tk) (star_of hn _ _) rfl hline) fun σ H Q ⟨A, O, ρ, hA, hρ, q⟩ => ⟨A, O, ρ, hA, hρ, q.bind fun d v H1 s1 p1 q1 => ?_⟩
  by_cases hd : ∃ u, d = .str u
  · obtain ⟨u, rfl⟩ := hd
    have hv := p1.str
    subst hv
    have q1 : Rt X.mg W (pE X.K A) H1 σ Q (fb Φ ρ >>= idxSL u) := q1
    refine ⟨⟨u, rfl⟩, A, O, ρ, hA.same s1, hρ.same s1, q1.bind fun e w H2 s2 p2 q2 => ?_⟩
    by_cases he : ∃ y, e = .str y
    · obtain ⟨y, rfl⟩ := he
      have hw := p2.str
      subst hw
      have q2 : Rt X.mg W (pE X.K A) H2 σ Q (Res.ofO ((sidx u y).map fun j => .int (j : Nat))) := q2
      obtain ⟨r, e1, e2⟩ := q2.ofO
      obtain ⟨j, e3, rfl⟩ := Option.map_eq_some_iff.mp e1
      unfold sidx at e3
      obtain ⟨rest, e4⟩ := List.head?_eq_some_iff.mp e3
      exact ⟨u, y, j, rest, rfl, rfl, e4, e2 _ _ (Same.refl _) (.int _)⟩
    · exfalso
      cases e <;> first | exact q2.elim | exact he ⟨_, rfl⟩
  · exfalso
    cases d <;> first | exact q1.elim | exact hd ⟨_, rfl⟩
theorem sf_split {x : Str} {pn : Pos} (ha : SB c (.Name x pn) fa) (hb : SB c b fb) (hn : notStar b = true) (hline : (apos.endLine == pos.line) = true) : SF c (.Call (.Attribute (.Name x pn) "split" apos) [b] [] pos) (fun Φ ρ => do let x ← fa Φ ρ; splitR x (fb Φ ρ)) := fun X Φ W ok tk => by
  refine peI (pe_split (apos := apos) (pos := pos) (ha X Φ W ok tk) (hb X Φ W ok tk) (star_of hn _ _) rfl hline) fun σ H Q ⟨A, O, ρ, hA, hρ, q⟩ => ⟨A, O, ρ, hA, hρ, q.bind fun d v H1 s1 p1 q1 => ?_⟩
  by_cases hd : ∃ u, d = .str u
  · obtain ⟨u, rfl⟩ := hd
    have hv := p1.str
    subst hv
    have q1 : RtF X.K X.mg W A H1 σ Q (fb Φ ρ >>= splitS u) := q1
    refine ⟨⟨u, rfl⟩, A, O, ρ, hA.same s1, hρ.same s1, q1.bind fun e w H2 s2 p2 q2 => ?_⟩
    by_cases he : ∃ y, e = .str y
    · obtain ⟨y, rfl⟩ := he
      have hw := p2.str
      subst hw
      have q2 : RtF X.K X.mg W A H2 σ Q (if y.length ≠ 0 ∧ u.length ≤ 100000 then .ok (.list ((Txt.split u y).map .str)) else .st) := q2
      by_cases hz : y.length ≠ 0 ∧ u.length ≤ 100000
      · rw [if_pos hz] at q2
        refine ⟨u, y, rfl, rfl, by simpa using hz.1, by rw [sizeLine_eq]; omega, fun p np => q2 _ _ _ (same_upd np) np upd_same (rpl_str _)⟩
      · rw [if_neg hz] at q2; exact q2.elim
    · exfalso
      cases e <;> first | exact q2.elim | exact he ⟨_, rfl⟩
  · exfalso
    cases d <;> first | exact q1.elim | exact hd ⟨_, rfl⟩
end
end Pv

end
section
namespace Pv
open PySem PySem.Spec PyProof.Rows L2

/-! ### an exception out of a list comprehension -/
section
variable {M : Model} {A : Around} {E : Value → Shared → Prop} {s : Shared} {Z : Obj → Prop} {base : Heap} {env : PySem.Env} {outer : List PySem.Env} {L K e : Addr}
/-- held at another place: noted here all the same -/
theorem note_other {Q : Unit → Shared → Prop} (hZ : HandSPX.Steady Z) (hfr : A.frames = some (env :: outer)) (hf : env.frame = some L) (hKL : K ≠ L) (hh : HandSPX.HeldZ base (env :: outer) e Z K s.heap)
    (hQ : ∀ g, HandSPX.HeldZ base (env :: outer) e Z L g → s.heap.UpToSlots g → Q () { s with heap := g }) : wpAny M A (noteFrame (.ref e) env) Q E s := by
  obtain ⟨q1, q2, q3, oe, vs, T, oT, ts, r1, r2, r3, r4, r5, r6, r7, r8, r9⟩ := hh
  unfold noteFrame
  simp only [hf]
  have hkl : (rawInt (K : Int) == rawInt (L : Int)) = false := by
    rw [beq_eq_false_iff_ne]
    intro z
    have z2 : ((K : Nat) : Int) = (L : Nat) := by unfold rawInt at z; injection z
    exact hKL (Int.ofNat.inj z2)
  refine wpAny_bind (wpAny_field r1 r3 r4 ?_)
  rw [if_pos (by simp)]
  refine wpAny_bind (wpAny_field r7 r8 r9 ?_)
  rw [if_neg (by rw [hkl]; simp)]
  refine wpAny_bind (wpAny_setField r7 r8 (Array.getElem?_eq_some_iff.mp r9).1 ?_)
  have oth : ∀ b, b ≠ T → (s.heap.update T (Obj.mapFields (·.setIfInBounds 3 Value.none))).get? b = s.heap.get? b := fun b hb => Heap.get?_update_other _ _ (fun z => hb z.symm)
  have nrec : ∀ b o, s.heap.get? b = some o → (∀ xs, o.data ≠ .fields xs) → b ≠ T := fun b o hb hn z => by
    subst z
    rw [r7] at hb
    cases hb
    exact hn ts r8
  refine HandSPX.wpAny_entryZ hZ hfr (q3.of_keeps fun b o hb hn => ⟨o, by rw [oth b (nrec b o hb hn)]; exact hb, rfl⟩) hf (by rw [oth e (fun z => r6 z.symm)]; exact r1)
    (fun b o hbo => by rw [oth b (fun z => by rw [z, r5] at hbo; cases hbo)]; exact q1 b o hbo) q2 r3 (Array.getElem?_eq_some_iff.mp r4).1 r2 fun g hN => ?_
  obtain ⟨x1, x2, x3, x4⟩ := hN
  exact hQ g ⟨x1, q2, x2, x3⟩ fun b o hb hn => x4 b o (by rw [oth b (nrec b o hb hn)]; exact hb) hn
end
section
variable {X : Cx}
theorem noteOf {B : Heap} {a F K : Addr} {Zp : Obj → Prop} {Q : Unit → Shared → Prop} {E : Value → Shared → Prop} {s : Shared} (hZ : HandSPX.Steady Zp) (hfr : X.A.frames = some (X.env :: X.outer)) (hf : X.env.frame = some F) (hK : K ≠ F) (sky : Sky B (X.env :: X.outer) a Zp K s.heap)
    (hQ : ∀ g, HandSPX.HeldZ B (X.env :: X.outer) a Zp F g → s.heap.UpToSlots g → Q () { s with heap := g }) : wpAny (model X.prog X.w) X.A (noteFrame (.ref a) X.env) Q E s := by
  rcases sky with ⟨c1, c2, c3, oe, vs, c4, c5, c6, c7⟩ | fl | hd
  · exact HandSPX.look_newZ hZ hfr c3 hf c4 c1 c2 c6 c7 c5 hQ
  · exact HandSPX.looks_onZ hZ hfr hf fl hQ
  · exact note_other hZ hfr hf hK hd hQ
theorem inv_ofTr {pn pins : List (Addr × Obj)} {xe : Value → Shared → Prop} {σ : L2.St} {H : Hp} {s : Shared} (hp : ∀ p ∈ X.pn, p ∈ pn) (I : Inv (X.tr pn xe) pins σ H s) : Inv X pins σ H s :=
  ⟨Cx.Ok.ofTry I.ok, I.os, I.bare, I.base, I.loc, I.cell, I.free, I.freeC, fun p h => I.pin p (by
    rcases List.mem_append.mp h with h | h
    · exact List.mem_append_left _ (hp p h)
    · exact List.mem_append_right _ h), I.hok, I.len⟩
/-- what a block lets out comes to the def -/
theorem blk_out {pins : List (Addr × Obj)} {σ : L2.St} {H3 : Hp} {s3 s6 : Shared} {scope : Scope} {ce : PySem.Env} {fp : List Addr} {C : Addr} {W : WX} {u : Value} (I3 : Inv X pins σ H3 s3) (hst : X.stack = X.env :: X.outer) (hfe : X.env.frame = some X.env.locals)
    (f3 : ∀ b ∈ fp, FpOk X pins H3 b) (hC : C = s3.heap.objs.size) (hcl : ce.locals = C) (hcf : ce.frame = X.env.frame) (tk : Takes X W)
    (x : XE (X.blk s3 H3 scope ce fp) (fun c d _ H => W c d σ H) u s6) : notedBy (model X.prog X.w) X.A ce (CompFails (model X.prog X.w) X.A X.xe ce) u s6 := by
  obtain ⟨a, B, sI, pins8, σ8, H8, cls, d, rfl, I8, nb, up, sky, na, os, ag, wx⟩ := x
  have hfr : X.A.frames = some (X.env :: X.outer) := by rw [I3.ok.frames, hst]
  have IX : Inv X pins σ H8 sI := I3.call' (ch := fp) I8.os I8.base I8.hok I8.bare fun b hb => by
    obtain ⟨_, y1, _, y2, y3, y4⟩ := f3 b hb
    exact ⟨y2, y1, y3, y4⟩
  have nC : H8 C = none := by
    have z : H8 ce.locals = none := I8.free
    rwa [hcl] at z
  obtain ⟨m, hn, _⟩ := I8.loc
  have hn : sI.heap.Ns ce.locals m := hn
  rw [hcl] at hn
  obtain ⟨f0, f1, f2, f3', f4, f5⟩ := I3.fpOk (b := C) (by rw [hC]; exact Nat.le_refl _) nC
  show wpAny _ _ (noteFrame (.ref a) ce) _ _ s6
  rw [noteFrame_env _ hcf]
  have sky : Sky B X.stack a (Zc cls d) ce.locals s6.heap := sky
  rw [hcl, hst] at sky
  refine noteOf Zc.steady hfr hfe f1 sky fun g hh up1 => ?_
  have nm : g.Ns C m := (hn.upToSlots up).upToSlots up1
  refine ⟨m, by rw [hcl]; exact nm, fun h' m' hn' hs' => ?_⟩
  rw [hcl] at hn' hs'
  obtain ⟨hsz, hsame⟩ := hs'
  obtain ⟨k1, k2, k3, oe, vs, T, oT, ts, r1, r2, r3, r4, r5, r6, r7, r8, r9⟩ := hh
  obtain ⟨B', b1, b2⟩ := restrict B fun b => !decide (b = C)
  obtain ⟨G, g1, g2⟩ := restrict sI.heap fun b => !decide (b = C)
  have bn : ∀ b, B.get? b = none → B'.get? b = none := fun b z => by
    by_cases q : b = C
    · exact b2 b (by simp [q])
    · rw [b1 b (by simp [q])]; exact z
  have bs : ∀ b o, B'.get? b = some o → b ≠ C ∧ B.get? b = some o := fun b o z => by
    by_cases q : b = C
    · rw [b2 b (by simp [q])] at z; cases z
    · exact ⟨q, by rw [b1 b (by simp [q])] at z; exact z⟩
  have gs : ∀ b o, G.get? b = some o → b ≠ C ∧ sI.heap.get? b = some o := fun b o z => by
    by_cases q : b = C
    · rw [g2 b (by simp [q])] at z; cases z
    · exact ⟨q, by rw [g1 b (by simp [q])] at z; exact z⟩
  have neC : ∀ (b : Addr) (o : Obj) (xs : Array Value), g.get? b = some o → o.data = .fields xs → b ≠ C := fun b o xs z1 z2 q => by
    subst q
    obtain ⟨oC, es, ep, w1, w2, _⟩ := nm
    rw [w1] at z1
    cases z1
    rw [w2] at z2
    cases z2
  have aC := neC a oe vs r1 r3
  have tC := neC T oT ts r7 r8
  have hl' : HandSPX.HeldZ B' (X.env :: X.outer) a (Zc cls d) X.env.locals h' := by
    refine ⟨fun b o z => ?_, bn a k2, ?_, oe, vs, T, oT, ts, by rw [hsame a aC]; exact r1, r2, r3, r4, bn T r5, r6, by rw [hsame T tC]; exact r7, r8, r9⟩
    · obtain ⟨z1, z2⟩ := bs b o z
      rw [hsame b z1]
      exact k1 b o z2
    · exact Heap.FunFrames.sameBut ⟨hsz, hsame⟩ hn' (funFrames_none k3 fun b hb => bn b (k3.mem hb).1)
  unfold PySem.passOn
  refine wpAny_bind (wpAny_field (by rw [hsame a aC]; exact r1) r3 r4 ?_)
  rw [if_neg (by simp), hcf, hfe]
  refine wpAny_bind (HandSPX.setFlight_onZ hl' fun h2 hh2 up2 => wpAny_throw (tk _ _ ?_))
  have IG := IX.turned (h' := G) (t' := sI.toks) (it := C) (fun b o q z => by rw [g1 b (by simp [q])]; exact z) f0 f1 f3' f4 f5
  refine ⟨a, B', _, pins, σ, H8, cls, d, rfl, IG, fun b o z hb => ?_, fun b o z hd => ?_, by rw [hst]; exact .inr (.inr hh2), na, os, ag, wx⟩
  · obtain ⟨z1, z2⟩ := gs b o z
    rw [b1 b (by simp [z1])]
    exact nb b o z2 hb
  · obtain ⟨z1, z2⟩ := gs b o z
    obtain ⟨l1, v1⟩ := up b o z2 hd
    obtain ⟨l2, v2⟩ := up1 b _ v1 hd
    have v3 : h'.get? b = some { o with slots := l2 } := by rw [hsame b z1]; exact v2
    exact up2 b { o with slots := l2 } v3 hd
/-- [elt for target in iter], the element may raise -/
theorem pe_lcX {elt tg iter : Expr} {scope : Scope} {own : List (Str × Nat)} {pos : Pos} {wi : TI} {g : TG} {te : WX → TE} {W : WX} (hc : X.calm = true) (hN : X.N.Nodup) (hst : X.stack = X.env :: X.outer) (hfe : X.env.frame = some X.env.locals) (tk : Takes X W)
    (hi : PI X tg iter wi) (ok : BlkOk X.N X.env.scope scope own)
    (hg : ∀ (s : Shared) (H : Hp) (C : Addr) (cl : List (Str × Addr)) (fp : List Addr), PG (X.blk s H scope (compEnvC scope cl C X.env) fp) tg g)
    (he : ∀ (W' : WX) (s : Shared) (H : Hp) (C : Addr) (cl : List (Str × Addr)) (fp : List Addr) (pn : List (Addr × Obj)) (xe : Value → Shared → Prop), Takes ((X.blk s H scope (compEnvC scope cl C X.env) fp).tr pn xe) W' → PE ((X.blk s H scope (compEnvC scope cl C X.env) fp).tr pn xe) elt (te W'))
    (hs : ∀ x, foldedSetIterable iter X.env x = pure x) :
    PE X (.ListComp elt [⟨tg, iter, [], 0⟩] scope pos) (fun σ H Q => tLc wi g tYes (te fun c d _ H => W c d σ H) (own.map (·.2)) σ H Q) := by
  refine ⟨fun pins s σ H Q I hw => ?_⟩
  rw [eval_ListComp]
  have hfree : ∀ y ∈ scope.names, y.2 = .free → ∃ c, X.env.cells.lookup y.1 = some c := fun y hy e => by
    rcases ok.free y hy e with k | k
    · exact I.ok.has _ (.inl k)
    · exact I.ok.has _ (.inr k)
  refine comprehension_at (use := none) rfl hs (closure_ok hfree) ok.kind (fun y hy e => by rw [ok.uniq y hy, e])
    (thn (hi.run pins s σ H _ I hw) fun xv s1 hx => thn hx fun itv s2 h2 => ?_)
  obtain ⟨it, fp, tn, J, H2, e0, I2, T, st2, f2, q⟩ := h2
  subst e0
  refine wpAny_newObj_type (newEnv_comp ?_) (show 0 ≤ sizeLine from Nat.zero_le _)
  obtain ⟨D, hD⟩ : ∃ D, D = s2.heap.objs.size := ⟨_, rfl⟩
  obtain ⟨V, ⟨m0, w0⟩, turn⟩ := q D (I2.hok.fresh (Nat.le_of_eq hD.symm))
  obtain ⟨s3, hs3⟩ : ∃ s3 : Shared, s3 = { s2 with heap := s2.heap.push { cls := .type "list", data := .seq ([] : List Value).toArray } } := ⟨_, rfl⟩
  have hp3 : s3.heap = s2.heap.push { cls := .type "list", data := .seq ([] : List Value).toArray } := by rw [hs3]
  have I3 : Inv X pins σ (upd H2 D (.lst [])) s3 := by
    rw [hs3, hD]
    exact I2.laid (t' := s2.toks) (fun b o e => Heap.get?_push_of_some _ e) (Nat.le_refl _) ⟨Nat.zero_le _, [], 0, .nil, Heap.get?_push_size _ rfl⟩
  have lt2 : ∀ b ∈ fp, b < s2.heap.objs.size := fun b hb => by
    obtain ⟨o, e, _⟩ := T.obj _ _ st2 b hb
    exact Heap.lt_size e
  have f3 : ∀ b ∈ fp, FpOk X pins (upd H2 D (.lst [])) b ∧ b < s3.heap.objs.size := fun b hb => by
    have hlt := lt2 b hb
    refine ⟨⟨by rw [upd_ne (by rw [hD]; exact Nat.ne_of_lt hlt)]; exact (f2 b hb).1, (f2 b hb).2⟩, ?_⟩
    rw [hp3, Heap.size_push]
    exact Nat.lt_succ_of_lt hlt
  have st3 : tn 0 s3.heap := T.keep _ _ _ st2 fun b _ o e => by rw [hp3]; exact Heap.get?_push_of_some _ e
  have I4 := block_start I3 ok hN f3
  obtain ⟨C, hC⟩ : ∃ C, C = s3.heap.objs.size := ⟨_, rfl⟩
  have pg := hg s3 (upd H2 D (.lst [])) s3.heap.objs.size (cellsFrom (s3.heap.objs.size + 1) scope.names (cloFrom X.env.cells scope.names [])) fp
  have pe := fun W' => he W' s3 (upd H2 D (.lst [])) s3.heap.objs.size (cellsFrom (s3.heap.objs.size + 1) scope.names (cloFrom X.env.cells scope.names [])) fp
  have goal0 : s2.heap.objs.size = D := hD.symm
  rw [goal0, ← hs3]
  obtain ⟨ce, hce⟩ : ∃ ce, ce = compEnvC scope (cellsFrom (s3.heap.objs.size + 1) scope.names (cloFrom X.env.cells scope.names [])) s3.heap.objs.size X.env := ⟨_, rfl⟩
  show codeAny _ _ (.compStart (.ListComp elt [⟨tg, iter, [], 0⟩] scope pos) 0 (.ref it) (.ref D) (compEnvC scope (cellsFrom (s3.heap.objs.size + 1) scope.names (cloFrom X.env.cells scope.names [])) s3.heap.objs.size X.env)) (compEnds (model X.prog X.w) X.A X.xe none _ (.ref D) (compEnvC scope (cellsFrom (s3.heap.objs.size + 1) scope.names (cloFrom X.env.cells scope.names [])) s3.heap.objs.size X.env)) { s3 with heap := pushCells (s3.heap.push { cls := .type "dict", data := .dict #[] }) scope.names }
  have cL : ce.locals = C := by rw [hce, hC]; rfl
  have cF : ce.frame = X.env.frame := by rw [hce]; rfl
  obtain ⟨H3, hH3⟩ : ∃ H3, H3 = upd H2 D (.lst []) := ⟨_, rfl⟩
  have nf3 : ∀ b ∈ fp, H3 b = none := fun b hb => by rw [hH3]; exact (f3 b hb).1.1
  rw [← hce]
  rw [← hce, ← hH3] at I4 pg pe
  rw [← hH3] at I3 f3 w0
  obtain ⟨s4, hs4⟩ : ∃ s4 : Shared, s4 = { s3 with heap := pushCells (s3.heap.push { cls := .type "dict", data := .dict #[] }) scope.names } := ⟨_, rfl⟩
  rw [← hs4] at I4 ⊢
  have st4 : tn 0 s4.heap := T.keep _ _ _ st3 fun b _ o e => by rw [hs4]; exact pushCells_keeps _ _ _ _ (Heap.get?_push_of_some _ e)
  obtain ⟨Xb, hXb⟩ : ∃ Xb, Xb = X.blk s3 H3 scope ce fp := ⟨_, rfl⟩
  have stat : ∀ {σ' : L2.St} {H' : Hp} {s' : Shared}, Inv (X.blk s3 H3 scope ce fp) [] σ' H' s' → (∀ b ∈ fp, H' b = none) → ∀ b ∈ fp, FpOk (X.blk s3 H3 scope ce fp) [] H' b := fun {σ' H' s'} I' hn b hb =>
    ⟨hn b hb, (I'.ok.exf b hb).1, I'.ok.exfs b hb, .inl hb, fun x c e => (I'.ok.exf b hb).2 x c e, fun p hp => by simp at hp⟩
  have loop : codeAny (model X.prog X.w) X.A (.compLoop (.ListComp elt [⟨tg, iter, [], 0⟩] scope pos) 0 (.ref it) (.ref D) ce) (compEnds (model X.prog X.w) X.A X.xe none (fun v s' => EP X pins σ Q v s') (.ref D) ce) s4 := by
    refine compLoop_any (fun n s' => ∃ i H', Inv (X.blk s3 H3 scope ce fp) [] (wipe σ (own.map (·.2))) H' s' ∧ tn i s'.heap ∧ (∀ b ∈ fp, H' b = none) ∧ V i n H') ?_ m0 ⟨0, H3, I4, st4, nf3, w0⟩
    rintro n s5 ⟨i, H5, I5, st5, n5, w5⟩
    rcases turn i n H5 w5 with ⟨stop, qq⟩ | ⟨go, Nx, hNx, step⟩
    · refine thnF (T.done (X.blk s3 H3 scope ce fp) rfl rfl rfl hc i [] s5 _ H5 (fun _ _ => False) I5 (stat I5 n5) st5 stop) fun r s6 ⟨hr, I6⟩ => ?_
      subst hr
      have IX : Inv X pins σ H5 s6 := I3.call' (ch := fp) I6.os I6.base I6.hok I6.bare fun b hb => by
        obtain ⟨⟨_, y1, _, y2, y3, y4⟩, _⟩ := f3 b hb
        exact ⟨y2, y1, y3, y4⟩
      have nC : H5 C = none := by
        have z : H5 ce.locals = none := I6.free
        rwa [cL] at z
      obtain ⟨m, hn, _⟩ := I6.loc
      have hn : s6.heap.Ns ce.locals m := hn
      obtain ⟨f0, f1, _, f3', f4, f5⟩ := I3.fpOk (b := C) (by rw [hC]; exact Nat.le_refl _) nC
      refine ⟨m, hn, fun h2 sb => ?_⟩
      exact ⟨.ref D, H5, IX.turned (t' := s6.toks) (it := C) (fun b o hb e => by rw [cL] at sb; exact (sb.2 b hb).trans e) f0 f1 f3' f4 f5, rfl, qq⟩
    · refine thnF (T.item (X.blk s3 H3 scope ce fp) rfl rfl rfl hc i [] s5 _ H5 (fun _ _ => False) I5 (stat I5 n5) st5 go) fun r s6 ⟨u, hr, h6⟩ => ?_
      subst hr
      refine thnF h6 fun _ s7 ⟨x, H7, I7, r7, y7, st7, n7⟩ => ?_
      have I7' := I7.pinned (stat I7 n7) (T.obj _ _ st7)
      refine thnF (pg.run _ s7 _ H7 x u _ I7' r7 (step x H7 y7)) fun _ s8 ⟨σ8, H8, I8, hw8, q8⟩ => ?_
      refine wpAny_tests_nil ?_
      rw [if_pos rfl]
      have q8 : te (fun c d _ H => W c d σ H) σ8 H8 fun y H4 => ∃ acc, H4 D = some (.lst acc) ∧ acc.length < sizeLine ∧ Nx (upd H4 D (.lst (acc ++ [y]))) := by
        have t := q8
        unfold tYes at t
        simp only [↓reduceIte] at t
        exact t
      -- the element, its exception let out
      have I8t := I8.toTry (XE (X.blk s3 H3 scope ce fp) fun c d _ H => W c d σ H)
      have tkb : Takes ((X.blk s3 H3 scope ce fp).tr ((X.blk s3 H3 scope ce fp).pn ++ ([] ++ pinsAt fp s7.heap)) (XE (X.blk s3 H3 scope ce fp) fun c d _ H => W c d σ H)) (fun c d _ H => W c d σ H) := fun v t ⟨a, B, sI, p8, σ9, H9, cls, dd, e, I9, nb, up, sky, na, os, ag, wx⟩ =>
        ⟨a, B, sI, p8, σ9, H9, cls, dd, e, inv_ofTr (X := X.blk s3 H3 scope ce fp) (fun p hp => List.mem_append_left _ hp) I9, nb, up, sky, na, os, ag, wx⟩
      refine wpAny_mono ((pe _ _ _ tkb).run [] s8 σ8 H8 _ I8t q8) (fun z s10 hz => ?_) fun v t hx => ?_
      · obtain ⟨yv, H10, I10, r10, acc, hD10, hz10, nx⟩ := hz
        have I10 := I10.ofTry I8.ok
        refine app_ok (X := X.blk s3 H3 scope ce fp) I10 hD10 hz10 r10 fun s11 I11 => ?_
        obtain ⟨m', hm, w'⟩ := hNx _ nx
        have pin' : ∀ b ∈ fp, ∀ o, s7.heap.get? b = some o → s11.heap.get? b = some o ∧ (upd H10 D (.lst (acc ++ [yv]))) b = none := fun b hb o e => by
          have z := I11.pin (b, o) (List.mem_append_right _ (List.mem_append_right _ (mem_pinsAt hb e)))
          exact ⟨z.1, z.2.1⟩
        have hl : (wipe σ (own.map (·.2))).length = σ8.length := by rw [← hw8, wipe_length]
        refine ⟨m', hm, i + 1, _, (I11.unpinned (pins := [])).weak hl (fun j v e => ?_), T.keep _ _ _ st7 (fun b hb o e => (pin' b hb o e).1), fun b hb => ?_, w'⟩
        · rw [← hw8] at e
          exact (wipe_some e).1
        · obtain ⟨o, e, _⟩ := T.obj _ _ st7 b hb
          exact (pin' b hb o e).2
      · exact blk_out I3 hst hfe (fun b hb => (f3 b hb).1) hC cL cF tk hx
  exact codeAny_compStart_list loop (T.self X.A 0 _ _ _ st4 loop)
end
end Pv

end
section
namespace Pv
open PySem PySem.Spec PyProof.Rows L2

/-! ### the reading of a list comprehension whose element may raise -/
def lcLX (asg : D → Res Env) (elt : Env → Res D) : List D → Res (List D)
  | [] => .ok []
  | d :: ds => do
    let ρ' ← noex (asg d)
    let y ← elt ρ'
    let r ← lcLX asg elt ds
    pure (y :: r)
def lcXE (own : List Nat) (t : Tg) (fi : EvL) (fe : EvE) : EvE := fun Φ ρ => do
  let ds ← fi Φ ρ
  if sm ds.length then do
    let r ← lcLX (fun d => asgT t d (wipeE ρ own)) (fe Φ) ds
    pure (.list r)
  else .st
section
variable {c : Ctx} {a e iter tg : Expr} {fa fc fe : EvE} {fi : EvL} {pos : Pos}
theorem ok_trX {X : Cx} {Φ : Calls} (ok : Ok c X Φ) (pn : List (Addr × Obj)) (xe : Value → Shared → Prop) : Ok c (X.tr pn xe) Φ :=
  ⟨ok.hN, ok.nd, ok.sc, ok.calm, ok.hu, ok.blt, ok.gl, ok.fns, ok.exc, ok.isx, ok.stk, ok.cok⟩
theorem lcX_read {K : PySem.W.Frag} {mg : Str → Option Value} {W : WX} {B : List Addr} {wi : TI} {t : Tg} {Φ : Calls} {own : List Nat} (ht : ∀ i ∈ t.slots, i ∈ own) {A : List Addr} {O : List (List Addr)} {ρ : Env} {σ : L2.St} {H : Hp} {Q : VK} (hA : AOk H A) (hρ : EnvOk K H A O σ ρ)
    (hw : ∀ R, RtI K mg W A B H σ R (fi Φ ρ) → wi σ H R) (q : RtF K mg W A H σ Q (lcXE own t fi fe Φ ρ)) : tLc wi (tG K t) tYes (tX K mg (fun c d _ H => W c d σ H) pE (fe Φ)) own σ H Q := by
  refine hw _ ?_
  unfold lcXE at q
  cases hi : fi Φ ρ with
  | st => rw [hi] at q; exact q
  | ex z => rw [hi] at q; exact q
  | ok ds =>
    rw [hi, Res.ok_bind] at q
    intro J H1 s1 wk D nD
    have hsm : sm ds.length = true := by
      by_cases h : sm ds.length = true
      · exact h
      · rw [if_neg h] at q; exact q.elim
    rw [if_pos hsm] at q
    have hA1 := hA.same s1
    have hρ1 := hρ.same s1
    have hz : ds.length ≤ 1000000 := of_decide_eq_true hsm
    have hS := sizeLine_eq
    obtain ⟨f, hf⟩ : ∃ f, f = lcLX (fun d => asgT t d (wipeE ρ own)) (fe Φ) := ⟨_, rfl⟩
    have fcons : ∀ d r, f (d :: r) = (noex (asgT t d (wipeE ρ own)) >>= fun ρ' => fe Φ ρ' >>= fun y => f r >>= fun r => pure (y :: r)) := fun d r => by rw [hf]; rfl
    have fnil : f [] = .ok [] := by rw [hf]; rfl
    rw [← hf] at q
    refine ⟨fun i m H2 => m = ds.length - i ∧ i ≤ ds.length ∧ Same H1 H2 ∧ ∃ acc accD, H2 D = some (.lst acc) ∧ RpL K H2 (D :: A) acc accD ∧ (f (ds.drop i) >>= fun r => Res.ok (accD ++ r)) = f ds ∧ accD.length ≤ i,
      ⟨ds.length, by simp, Nat.zero_le _, same_upd nD, [], [], upd_same, .nil, by rw [List.drop_zero]; cases f ds <;> rfl, Nat.le_refl _⟩, ?_⟩
    rintro i m H2 ⟨rfl, hi, s2, acc, accD, hD, hacc, hrest, hlen⟩
    have hA2 : AOk H2 (D :: A) := fun p hp => by
      rcases List.mem_cons.mp hp with rfl | hp
      · exact ⟨_, hD, trivial⟩
      · exact (hA1.same s2) p hp
    have hρ2 : EnvOk K H2 (D :: A) O σ ρ := (hρ1.new nD).same s2
    obtain ⟨wgo, wst⟩ := wk i H2 (D :: A) (fun b o _ e => s2 b o e) fun p hp => by
      rcases List.mem_cons.mp hp with rfl | hp
      · exact .inr nD
      · exact .inl hp
    by_cases hlt : i < ds.length
    · have hd : ds[i]? = some ds[i] := List.getElem?_eq_getElem hlt
      obtain ⟨go, yl⟩ := wgo _ hd
      have hdrop : ds.drop i = ds[i] :: ds.drop (i + 1) := List.drop_eq_getElem_cons hlt
      rw [hdrop, fcons] at hrest
      cases h1 : asgT t ds[i] (wipeE ρ own) with
      | st =>
        rw [h1] at hrest
        have hrest : Res.st = f ds := hrest
        rw [← hrest] at q
        exact q.elim
      | ex z =>
        rw [h1] at hrest
        have hrest : Res.st = f ds := hrest
        rw [← hrest] at q
        exact q.elim
      | ok ρ' =>
        have e1 : noex (asgT t ds[i] (wipeE ρ own)) = .ok ρ' := by rw [h1]; rfl
        rw [e1, Res.ok_bind] at hrest
        refine .inr ⟨go, fun H' => Same H1 H' ∧ ∃ acc accD, H' D = some (.lst acc) ∧ RpL K H' (D :: A) acc accD ∧ (f (ds.drop (i + 1)) >>= fun r => Res.ok (accD ++ r)) = f ds ∧ accD.length ≤ i + 1,
          fun H' ⟨s', x⟩ => ⟨ds.length - (i + 1), by omega, rfl, hlt, s', x⟩, fun x H' hy => ?_⟩
        obtain ⟨s3, hx⟩ := yl x H' hy
        refine ⟨D :: A, wipeO O own, wipeE ρ own, ds[i], hA2.same s3, (hρ2.same s3).wipe own, hx, ?_⟩
        rw [h1]
        refine fun σ' O' e4 _ e5 => ⟨?_, ?_⟩
        · have e6 := e5 own ht
          rw [e6]
          have idem : ∀ vs : List Nat, wipe (wipe σ vs) vs = wipe σ vs := fun vs => by
            apply List.ext_getElem?
            intro j
            by_cases hj : j < σ.length
            · rw [wipe_at (by rw [wipe_length]; exact hj), wipe_at hj]
              by_cases hm : j ∈ vs
              · rw [if_pos hm, if_pos hm]
              · rw [if_neg hm, if_neg hm]
            · rw [List.getElem?_eq_none (by rw [wipe_length, wipe_length]; omega), List.getElem?_eq_none (by rw [wipe_length]; omega)]
          exact idem own
        · unfold tYes
          simp only [↓reduceIte]
          refine ⟨D :: A, O', ρ', hA2.same s3, e4, ?_⟩
          cases h3 : fe Φ ρ' with
          | st =>
            rw [h3] at hrest
            have hrest : Res.st = f ds := hrest
            rw [← hrest] at q
            exact q.elim
          | ex z =>
            rw [h3] at hrest
            have hrest : Res.ex z = f ds := hrest
            rw [← hrest] at q
            exact fun C H' s5 hm => q C H' (fun b o hb => s5 _ _ (s3 _ _ (s2 _ _ (s1 _ _ hb)))) hm
          | ok y =>
            rw [h3, Res.ok_bind] at hrest
            intro v H4 s5 hv
            have sAll := s3.trans s5
            have hD4 : H4 D = some (.lst acc) := sAll _ _ hD
            have hacc4 : RpL K H4 (D :: A) acc accD := hacc.same sAll
            have hAD : AOk H4 [D] := fun p hp => by
              have : p = D := by simpa using hp
              subst this
              exact ⟨_, hD4, trivial⟩
            have bt : But [D] H4 (upd H4 D (.lst (acc ++ [v]))) := But.upd (by simp)
            have hnew : RpL K (upd H4 D (.lst (acc ++ [v]))) (D :: A) (acc ++ [v]) (accD ++ [y]) :=
              (hacc4.append (.cons hv .nil)).but bt hAD (by simp)
            refine ⟨acc, hD4, ?_, ?_, acc ++ [v], accD ++ [y], upd_same, hnew, ?_, by rw [List.length_append]; simp; omega⟩
            · rw [hacc4.length, hS]; omega
            · intro b o hb
              have hb4 : H4 b = some o := (s5 _ _ (s3 _ _ (s2 _ _ hb)))
              rw [upd_ne (fun z => by rw [z, nD] at hb; cases hb)]
              exact hb4
            · rw [← hrest]
              cases f (ds.drop (i + 1)) with
              | st => rfl
              | ex z => rfl
              | ok r => show Res.ok (accD ++ [y] ++ r) = Res.ok (accD ++ (y :: r)); simp
    · have e : i = ds.length := by omega
      subst e
      rw [List.drop_length, fnil] at hrest
      have hrest : Res.ok (accD ++ []) = f ds := hrest
      rw [List.append_nil] at hrest
      rw [← hrest] at q
      have q : ∀ p xs H', Same H H' → H p = none → H' p = some (.lst xs) → RpL K H' (p :: A) xs accD → Q (.ref p) H' := q
      exact .inl ⟨wst (Nat.le_refl _), q _ _ _ (s1.trans s2) (s1.free nD) hD hacc⟩
theorem lcX_toF {K : PySem.W.Frag} {mg : Str → Option Value} {W : WX} {t : Tg} {Φ : Calls} {own : List Nat} {A : List Addr} {ρ : Env} {σ : L2.St} {H : Hp} {Q : VK} (hA : AOk H A)
    (q : Rt mg W (pE K A) H σ Q (lcXE own t fi fe Φ ρ)) : RtF K mg W A H σ Q (lcXE own t fi fe Φ ρ) := by
  have fin : ∀ r : Res D, Rt mg W (pE K A) H σ Q r → (∀ d, r = .ok d → ∃ ds, d = .list ds) → RtF K mg W A H σ Q r := fun r h hl => by
    cases r with
    | st => exact h
    | ex z => exact h
    | ok d =>
      obtain ⟨ds, rfl⟩ := hl d rfl
      exact fun p xs H' s np e r => h _ H' s (.lst (.inl ⟨.inl e, hA.fresh np⟩) (r.sub fun _ z => List.mem_cons_of_mem _ z))
  refine fin _ q fun d hd => ?_
  unfold lcXE at hd
  cases h1 : fi Φ ρ with
  | st => rw [h1] at hd; cases hd
  | ex z => rw [h1] at hd; cases hd
  | ok ds =>
    rw [h1, Res.ok_bind] at hd
    split at hd
    · cases h2 : lcLX (fun d => asgT t d (wipeE ρ own)) (fe Φ) ds with
      | st => rw [h2] at hd; cases hd
      | ex z => rw [h2] at hd; cases hd
      | ok r => rw [h2] at hd; cases hd; exact ⟨_, rfl⟩
    · cases hd
theorem se_lcX {scope : Scope} {own : List (Str × Nat)} {t : Tg} (bor : Bool) (hx : c.isx ≠ []) (hi : SI bor c tg iter fi) (bo : BlkOk c.N c.sc scope own) (hg : SG (c.blk scope) tg t) (ht : ∀ i ∈ t.slots, i ∈ own.map (·.2)) (he : SE (c.blk scope) e fe)
    (hs : ∀ env x, foldedSetIterable iter env x = pure x) : SE c (.ListComp e [⟨tg, iter, [], 0⟩] scope pos) (lcXE (own.map (·.2)) t fi fe) := fun X Φ W ok tk =>
  peI (pe_lcX (te := fun W' => tX X.K X.mg W' pE (fe Φ)) ok.calm (by rw [ok.hN]; exact ok.nd) (ok.stk hx).1 (ok.stk hx).2 tk (hi X Φ W ok tk) (by rw [ok.hN, ok.sc]; exact bo)
    (fun s H C cl fp => hg _ Φ (ok_blk ok bo s H C cl fp)) (fun W' s H C cl fp pn xe tk' => he _ Φ W' (ok_trX (ok_blk ok bo s H C cl fp) pn xe) tk') (hs _))
    fun σ H Q ⟨A, O, ρ, hA, hρ, q⟩ => lcX_read (B := if bor then [] else A) ht hA hρ (fun R h => ⟨A, O, ρ, hA, hρ, h⟩) (lcX_toF hA q)
end
end Pv

end
section
namespace Pv
open PySem PySem.Spec PyProof.Rows L2

/-! ### the text, as it is computed -/
mutual
inductive E where
  | cst (d : D)
  | var (i : Nat) | varB (i : Nat)
  | glob (d : D)
  | bin (op : Operator) (a b : E)
  | un (op : UnaryOp) (a : E)
  | cmp (op : CmpOp) (a b : E)
  | one (a : E) | and (a b : E) | or (a b : E) | not (a : E)
  | ite (t a b : E)
  | tup (es : Es) | lst (es : Es)
  | ix (a b : E) | slc (a : E) (lo hi : Eo)
  | blt (b : Bn) (es : Es) | isi (k : Cl) (a : E)
  | bits (a : E)
  | lset (a : E)
  | rg1 (k : Bool) (a : E) | rg2 (k : Bool) (a b : E) | trev (a : E)
  | chain (a : E) (op : CmpOp) (b : E) (r : Ch)
  | call (f : Str) (es : Es) | lent (f : Str) (es : Es)
  | lc (own : List Nat) (t : Tg) (it : It) (cond : Eo) (elt : E) | lcx (own : List Nat) (t : Tg) (it : It) (elt : E)
  | dc (own : List Nat) (t : Tg) (it : It) (cond : Eo) (k v : E)
  | dnil | sset (a : E) | idx (a b : E) | cntT (a b : E) | idxT (a b : E) | idxS (a b : E)
  | dcp (a : E) | dd2 (x y : Str) (a b : E)
  | join (z : Str) (a : E) | split (a b : E)
  | inK (neg : Bool) (i : Nat) (a : E) | lcd (own : List Nat) (t : Tg) (j : Nat) (cond : Eo) (elt : E)
inductive Ch where
  | last (op : CmpOp) (b : E) | link (op : CmpOp) (b : E) (r : Ch)
inductive Es where
  | nil | cons (a : E) (es : Es)
inductive Eo where
  | none | some (a : E)
inductive It where
  | val (a : E) | rev (a : E) | enm (a : E)
  | rng1 (a : E) | rng2 (a b : E) | rng3 (a b d : E)
end
def kfn (k : Bool) : List D → D := if k then .tuple else .list
mutual
def ev : E → EvE
  | .cst d => fun _ _ => .ok d
  | .var i => fun _ ρ => rdV i ρ
  | .varB i => fun _ ρ => rdB i ρ
  | .glob d => fun _ _ => .ok d
  | .bin op a b => fun Φ ρ => do let x ← ev a Φ ρ; let y ← ev b Φ ρ; Res.ofO (binop op x y)
  | .un op a => fun Φ ρ => do let x ← ev a Φ ρ; Res.ofO (unop op x)
  | .cmp op a b => fun Φ ρ => do let x ← ev a Φ ρ; let y ← ev b Φ ρ; cmpR op x y
  | .one a => ev a
  | .and a b => fun Φ ρ => andR (ev a Φ ρ) (ev b Φ ρ)
  | .or a b => fun Φ ρ => orR (ev a Φ ρ) (ev b Φ ρ)
  | .not a => fun Φ ρ => notR (ev a Φ ρ)
  | .ite t a b => fun Φ ρ => iteR (ev t Φ ρ) (ev a Φ ρ) (ev b Φ ρ)
  | .tup es => fun Φ ρ => do let r ← evs es Φ ρ; smL r .tuple
  | .lst es => fun Φ ρ => do let r ← evs es Φ ρ; smL r .list
  | .ix a b => fun Φ ρ => do let x ← ev a Φ ρ; let y ← ev b Φ ρ; Res.ofO (ixop x y)
  | .slc a lo hi => fun Φ ρ => do let x ← ev a Φ ρ; let l ← evo lo Φ ρ; let h ← evo hi Φ ρ; Res.ofO (slop x l h)
  | .blt b es => fun Φ ρ => do let r ← evs es Φ ρ; Res.ofO (bltop b r)
  | .isi k a => fun Φ ρ => do let x ← ev a Φ ρ; isiR k x
  | .bits a => fun Φ ρ => do let x ← ev a Φ ρ; bitR x
  | .rg1 k a => fun Φ ρ => do let x ← ev a Φ ρ; Res.ofO (rgop (kfn k) [x])
  | .rg2 k a b => fun Φ ρ => do let x ← ev a Φ ρ; let y ← ev b Φ ρ; Res.ofO (rgop (kfn k) [x, y])
  | .lset a => fun Φ ρ => do let x ← ev a Φ ρ; lsR2 x
  | .sset a => fun Φ ρ => do let x ← ev a Φ ρ; ssR x
  | .idx a b => fun Φ ρ => do let x ← ev a Φ ρ; idxR x (ev b Φ ρ)
  | .cntT a b => fun Φ ρ => do let x ← ev a Φ ρ; cntR x (ev b Φ ρ)
  | .idxT a b => fun Φ ρ => do let x ← ev a Φ ρ; idxTR x (ev b Φ ρ)
  | .idxS a b => fun Φ ρ => do let x ← ev a Φ ρ; idxSR x (ev b Φ ρ)
  | .dnil => dNil
  | .dcp a => fun Φ ρ => do let x ← ev a Φ ρ; dcpR x
  | .join z a => fun Φ ρ => do let x ← ev a Φ ρ; joinR z x
  | .split a b => fun Φ ρ => do let x ← ev a Φ ρ; splitR x (ev b Φ ρ)
  | .dd2 x y a b => fun Φ ρ => do let u ← ev a Φ ρ; let v ← ev b Φ ρ; dd2R x y u v
  | .inK neg i a => fun Φ ρ => inKR neg i ρ (ev a Φ ρ)
  | .lcd own t j cond elt => lcD own t j (evc cond) (ev elt)
  | .dc own t it cond k v => dcE own t (evi it) (evc cond) (ev k) (ev v)
  | .trev a => fun Φ ρ => do let x ← ev a Φ ρ; trev x
  | .chain a op b r => fun Φ ρ => do let x ← ev a Φ ρ; linkC op (ev b) (evch r) Φ ρ x
  | .call f es => fun Φ ρ => do let r ← evs es Φ ρ; Φ f r
  | .lent f es => fun Φ ρ => do let r ← evs es Φ ρ; purR (Φ f r)
  | .lc own t it cond elt => lcE own t (evi it) (evc cond) (ev elt)
  | .lcx own t it elt => lcXE own t (evi it) (ev elt)
def evch : Ch → Calls → Env → D → Res D
  | .last op b => lastC op (ev b)
  | .link op b r => linkC op (ev b) (evch r)
def evs : Es → EvL
  | .nil => fun _ _ => .ok []
  | .cons a es => fun Φ ρ => do let x ← ev a Φ ρ; let r ← evs es Φ ρ; pure (x :: r)
def evo : Eo → EvO
  | .none => fun _ _ => .ok none
  | .some a => fun Φ ρ => intR (ev a Φ ρ)
def evc : Eo → EvE
  | .none => fun _ _ => .ok (.bool true)
  | .some a => ev a
def evi : It → EvL
  | .val a => fun Φ ρ => do let d ← ev a Φ ρ; itemsOf d
  | .rev a => fun Φ ρ => do let d ← ev a Φ ρ; let r ← seqOf d; pure r.reverse
  | .enm a => fun Φ ρ => do let d ← ev a Φ ρ; let r ← seqOf d; pure (enumFrom 0 r)
  | .rng1 a => fun Φ ρ => do let x ← ev a Φ ρ; rng [x]
  | .rng2 a b => fun Φ ρ => do let x ← ev a Φ ρ; let y ← ev b Φ ρ; rng [x, y]
  | .rng3 a b d => fun Φ ρ => do let x ← ev a Φ ρ; let y ← ev b Φ ρ; let z ← ev d Φ ρ; rng [x, y, z]
end

/-! ### side conditions -/
inductive Md where
  | v | b | t | w
  deriving DecidableEq
def Snd : Md → Ctx → Expr → EvE → Prop
  | .v => SE
  | .b => SB
  | .t => ST
  | .w => SW
def plainT : Expr → Bool
  | .Name .. => true
  | .Call .. => true
  | .Constant .. => true
  | .Subscript .. => true
  | .BinOp .. => true
  | _ => false
theorem plainT_ok {e : Expr} (h : plainT e = true) : ∀ env whole, isTrue e env whole = (do let v ← whole; standAt e.pos; holding [v] (truthy v)) := by
  cases e <;> first
    | (cases h; done)
    | exact fun _ _ => rfl
def okM (m : Md) (e : Expr) : Bool := match m with
  | .v => true
  | .b => true
  | .t => plainT e
  | .w => false
theorem snd_of {m : Md} {c : Ctx} {e : Expr} {f : EvE} (h : SE c e f) (k : okM m e = true) : Snd m c e f := by
  cases m with
  | v => exact h
  | b => exact sx_b h
  | t => exact st_val h (plainT_ok k)
  | w => cases k
def nmB (c : Ctx) (i : Nat) (x : Str) : Bool := decide (c.N[i]? = some x) && (match c.sc.names.lookup x with | some .local => true | some .cell => true | some .free => true | _ => false) && ((x == ("__debug__" : Str)) == false) && ((x == ("__classdict__" : Str)) == false)
theorem nmB_ok {c : Ctx} {i : Nat} {x : Str} (h : nmB c i x = true) : c.N[i]? = some x ∧ Vis c.sc x ∧ (x == ("__debug__" : Str)) = false ∧ (x == ("__classdict__" : Str)) = false := by
  unfold nmB at h
  rw [Bool.and_eq_true, Bool.and_eq_true, Bool.and_eq_true] at h
  obtain ⟨⟨⟨h1, h2⟩, h3⟩, h4⟩ := h
  refine ⟨of_decide_eq_true h1, ?_, beq_iff_eq.mp h3, beq_iff_eq.mp h4⟩
  unfold Vis
  split at h2
  · rename_i e; exact .inl e
  · rename_i e; exact .inr (.inl e)
  · rename_i e; exact .inr (.inr e)
  · cases h2
def locB (c : Ctx) (x : Str) : Bool := match c.sc.names.lookup x with | some .local => true | some .cell => decide (x ∈ c.cok) | _ => false
theorem locB_ok {c : Ctx} {x : Str} (h : locB c x = true) : LocC c x := by
  unfold locB at h
  unfold LocC
  split at h
  · rename_i e; exact .inl e
  · rename_i e; exact .inr ⟨e, of_decide_eq_true h⟩
  · cases h
def glB (c : Ctx) (x : Str) : Bool := decide (c.sc.names.lookup x = some .globalImplicit) && ((x == ("__debug__" : Str)) == false)
theorem glB_ok {c : Ctx} {x : Str} (h : glB c x = true) : c.sc.names.lookup x = some .globalImplicit ∧ (x == ("__debug__" : Str)) = false := by
  unfold glB at h
  rw [Bool.and_eq_true] at h
  exact ⟨of_decide_eq_true h.1, beq_iff_eq.mp h.2⟩
def bltB (c : Ctx) (x : Str) : Bool := decide (x ∈ c.blts) && decide (c.sc.names.lookup x = some .globalImplicit)
theorem bltB_ok {c : Ctx} {x : Str} (h : bltB c x = true) : x ∈ c.blts ∧ c.sc.names.lookup x = some .globalImplicit := by
  unfold bltB at h
  rw [Bool.and_eq_true] at h
  exact ⟨of_decide_eq_true h.1, of_decide_eq_true h.2⟩
def rgN (k : Bool) : Str := if k then "tuple" else "list"
def cstB : Const → D → Bool
  | .none, .none => true
  | .bool a, .bool b => a == b
  | .int a, .int b => decide (a = b)
  | .str a, .str b => decide (a = b)
  | _, _ => false
theorem cstB_ok {c : Ctx} {k : Const} {d : D} {j : Nat} {pos : Pos} (h : cstB k d = true) : SE c (.Constant k j pos) (fun _ _ => .ok d) := by
  cases k <;> cases d <;> first
    | (cases h; done)
    | exact se_none
    | (have := beq_iff_eq.mp h; subst this; exact se_bool)
    | (have := of_decide_eq_true h; subst this; first | exact se_int | exact se_str)
def globD : D → Bool
  | .int _ => true | .bool _ => true | .str _ => true | .none => true
  | _ => false
def strsB : List D → List D → Bool
  | [], [] => true
  | .str a :: r, .str b :: q => decide (a = b) && strsB r q
  | _, _ => false
theorem strsB_ok : ∀ {a b : List D}, strsB a b = true → a = b
  | [], [], _ => rfl
  | x :: r, y :: q, h => by
    cases x <;> cases y <;> first | (cases h; done) | skip
    have h := (Bool.and_eq_true _ _).mp h
    rw [of_decide_eq_true h.1, strsB_ok h.2]
  | [], y :: q, h => by cases h
  | x :: r, [], h => by cases x <;> cases h
def memG (c : Ctx) (x : Str) (d : D) : Bool := c.gl.any fun p => decide (p.1 = x) && (match p.2, d with
  | .int a, .int b => decide (a = b)
  | .str a, .str b => decide (a = b)
  | .tuple a, .tuple b => strsB a b
  | _, _ => false)
theorem memG_ok {c : Ctx} {x : Str} {d : D} (h : memG c x d = true) : (x, d) ∈ c.gl := by
  unfold memG at h
  obtain ⟨⟨y, e⟩, h1, h2⟩ := List.any_eq_true.mp h
  rw [Bool.and_eq_true] at h2
  have e1 : y = x := of_decide_eq_true h2.1
  subst e1
  have h3 := h2.2
  cases e <;> cases d <;> first
    | (cases h3; done)
    | (have := of_decide_eq_true h3; subst this; exact h1)
    | (have := strsB_ok h3; subst this; exact h1)
def plainIx : Expr → Bool
  | .Slice .. => false
  | _ => true
theorem plainIx_ok {e : Expr} (h : plainIx e = true) : PlainIx e := by
  cases e <;> first
    | (cases h; done)
    | exact fun _ _ => rfl
def notSet : Expr → Bool
  | .Set .. => false
  | _ => true
theorem notSet_fold {e : Expr} (h : notSet e = true) : ∀ env x, foldedSetIterable e env x = pure x := by
  cases e <;> first
    | (cases h; done)
    | exact fun _ _ => rfl
theorem notSet_mark {e : Expr} (op : CmpOp) (h : notSet e = true) : behindInMarks op e = false := by
  cases e <;> first
    | (cases h; done)
    | with_unfolding_all rfl
def blkB (N : List Str) (sc scope : Scope) (own : List (Str × Nat)) : Bool :=
  decide (scope.kind = .function) && scope.names.all (fun y => decide (scope.names.lookup y.1 = some y.2)) && own.all (fun p => decide (N[p.2]? = some p.1))
  && scope.names.all (fun y => if y.2 = .free then decide (sc.names.lookup y.1 = some .cell ∨ sc.names.lookup y.1 = some .free) else true)
  && scope.names.all (fun y => if y.2 = .local ∨ y.2 = .cell then decide (y.1 ∈ own.map (·.1) ∨ y.1 ∉ N) else true)
theorem blkB_ok {N : List Str} {sc scope : Scope} {own : List (Str × Nat)} (h : blkB N sc scope own = true) : BlkOk N sc scope own := by
  unfold blkB at h
  simp only [Bool.and_eq_true] at h
  obtain ⟨⟨⟨⟨h1, h2⟩, h3⟩, h4⟩, h5⟩ := h
  refine ⟨of_decide_eq_true h1, fun y hy => of_decide_eq_true (List.all_eq_true.mp h2 y hy), fun y hy => of_decide_eq_true (List.all_eq_true.mp h3 y hy), fun y hy e => ?_, fun y hy e => ?_⟩
  · have := List.all_eq_true.mp h4 y hy
    rw [if_pos e] at this
    exact of_decide_eq_true this
  · have := List.all_eq_true.mp h5 y hy
    rw [if_pos e] at this
    exact of_decide_eq_true this
def ownN (c : Ctx) (own : List Nat) : List (Str × Nat) := own.map fun i => ((c.N[i]?).getD "", i)
theorem ownN_snd (c : Ctx) (own : List Nat) : (ownN c own).map (·.2) = own := by
  unfold ownN
  rw [List.map_map]
  show own.map (fun i => i) = own
  exact List.map_id' own
/-! targets -/
mutual
def chkG : Tg → Ctx → Expr → Bool
  | .var i, c, e => match e with
    | .Name x _ => decide (c.N[i]? = some x) && locB c x
    | _ => false
  | .tup ts, c, e => match e with
    | .Tuple es _ _ => chkGs ts c es && es.all notStar && (es.length == ts.len)
    | _ => false
def chkGs : Tgs → Ctx → List Expr → Bool
  | .nil, _, es => match es with
    | [] => true
    | _ => false
  | .cons t ts, c, es => match es with
    | [] => false
    | e :: es => chkG t c e && chkGs ts c es && notStar e
end
mutual
theorem chkG_ok : ∀ (t : Tg) (c : Ctx) (e : Expr), chkG t c e = true → SG c e t
  | .var i, c, e, h => by
    cases e <;> first
      | (cases h; done)
      | (rename_i x _
         have h : (decide (c.N[i]? = some x) && locB c x) = true := h
         rw [Bool.and_eq_true] at h
         exact sg_var (of_decide_eq_true h.1) (locB_ok h.2))
  | .tup ts, c, e, h => by
    cases e <;> first
      | (cases h; done)
      | (rename_i es _ _
         have h : (chkGs ts c es && es.all notStar && (es.length == ts.len)) = true := h
         rw [Bool.and_eq_true, Bool.and_eq_true] at h
         exact sg_tup (chkGs_ok ts c es h.1.1) h.1.2 (beq_iff_eq.mp h.2))
theorem chkGs_ok : ∀ (t : Tgs) (c : Ctx) (es : List Expr), chkGs t c es = true → SGs c es t
  | .nil, c, es, h => by
    cases es with
    | nil => exact sgs_nil
    | cons _ _ => cases h
  | .cons t ts, c, es, h => by
    cases es with
    | nil => cases h
    | cons e es =>
      have h : (chkG t c e && chkGs ts c es && notStar e) = true := h
      rw [Bool.and_eq_true, Bool.and_eq_true] at h
      exact sgs_cons (chkG_ok t c e h.1.1) (chkGs_ok ts c es h.1.2) h.2
end
def mB (bor : Bool) : Md := if bor then .b else .v
def slB (t : Tg) (own : List Nat) : Bool := t.slots.all fun i => decide (i ∈ own)
theorem slB_ok {t : Tg} {own : List Nat} (h : slB t own = true) : ∀ i ∈ t.slots, i ∈ own := fun i hi => of_decide_eq_true (List.all_eq_true.mp h i hi)
/-! expressions -/
def mdA : Md → Md
  | .w => .t
  | .t => .t
  | _ => .v
def mdR : Md → Md
  | .w => .w
  | .t => .w
  | _ => .v
def mdN : Md → Md
  | .t => .t
  | _ => .v
mutual
def chk : E → Md → Ctx → Expr → Bool
  | .cst d, m, c, e => okM m e && match e with
    | .Constant k _ _ => cstB k d
    | _ => false
  | .var i, m, c, e => okM m e && match e with
    | .Name x _ => nmB c i x
    | _ => false
  | .varB i, m, c, e => decide (m = .b) && match e with
    | .Name x _ => nmB c i x
    | _ => false
  | .glob d, m, c, e => okM m e && match e with
    | .Name x _ => memG c x d && glB c x
    | _ => false
  | .bin op a b, m, c, e => okM m e && match e with
    | .BinOp x o y _ => decide (op = o) && chk a .b c x && chk b .b c y
    | _ => false
  | .un op a, m, c, e => okM m e && match e with
    | .UnaryOp o x _ => decide (op ≠ .Not) && decide (op = o) && chk a .v c x
    | _ => false
  | .cmp op a b, m, c, e => decide (m ≠ .w) && match e with
    | .Compare x [o] [y] _ => decide (op = o) && notSet y && chk a .b c x && chk b .b c y
    | _ => false
  | .one a, m, c, e => match e with
    | .BoolOp _ [x] _ => chk a (mdA m) c x
    | _ => false
  | .and a b, m, c, e => match e with
    | .BoolOp .And (x :: y :: r) p => chk a (mdA m) c x && chk b (mdR m) c (.BoolOp .And (y :: r) p)
    | _ => false
  | .or a b, m, c, e => match e with
    | .BoolOp .Or (x :: y :: r) p => chk a (mdA m) c x && chk b (mdR m) c (.BoolOp .Or (y :: r) p)
    | _ => false
  | .not a, m, c, e => decide (m ≠ .w) && match e with
    | .UnaryOp .Not x _ => chk a (mdN m) c x
    | _ => false
  | .ite t a b, m, c, e => okM m e && match e with
    | .IfExp d x y _ => chk t .t c d && chk a .v c x && chk b .v c y
    | _ => false
  | .tup es, m, c, e => okM m e && match e with
    | .Tuple xs _ _ => chks es .v c xs
    | _ => false
  | .lst es, m, c, e => okM m e && match e with
    | .List xs _ => chks es .v c xs
    | _ => false
  | .ix a b, m, c, e => okM m e && match e with
    | .Subscript x y _ => plainIx y && chk a .b c x && chk b .b c y
    | _ => false
  | .slc a lo hi, m, c, e => okM m e && match e with
    | .Subscript x (.Slice l h none _) _ => chk a .b c x && chko lo c l && chko hi c h
    | _ => false
  | .blt k es, m, c, e => okM m e && match e with
    | .Call (.Name x _) (y :: ys) [] _ => decide (x = bName k) && bltB c x && notStar y && ys.all notStar && chks es .b c (y :: ys)
    | _ => false
  | .isi k a, m, c, e => okM m e && match e with
    | .Call (.Name x _) [y, .Name z _] [] _ => decide (x = ("isinstance" : Str)) && decide (z = k.sn) && bltB c x && bltB c z && notStar y && chk a .b c y
    | _ => false
  | .bits a, m, c, e => okM m e && match e with
    | .Call (.Attribute (.Name x p) k ap) [] [] cp => decide (k = ("bit_length" : Str)) && (ap.endLine == cp.line) && chk a .b c (.Name x p)
    | _ => false
  | .rg1 k a, m, c, e => okM m e && match e with
    | .Call (.Name x _) [.Call (.Name y _) [z] [] _] [] _ => decide (x = rgN k) && decide (y = ("range" : Str)) && bltB c x && bltB c y && notStar z && chk a .v c z
    | _ => false
  | .rg2 k a b, m, c, e => okM m e && match e with
    | .Call (.Name x _) [.Call (.Name y _) [z, w] [] _] [] _ => decide (x = rgN k) && decide (y = ("range" : Str)) && bltB c x && bltB c y && notStar z && notStar w && chk a .v c z && chk b .v c w
    | _ => false
  | .lset a, m, c, e => okM m e && match e with
    | .Call (.Name x _) [.Call (.Name y _) [z] [] _] [] _ => decide (x = ("len" : Str)) && decide (y = ("set" : Str)) && bltB c x && bltB c y && notStar z && chk a .b c z
    | _ => false
  | .sset a, m, c, e => okM m e && match e with
    | .Call (.Name x _) [.Call (.Name y _) [z] [] _] [] _ => decide (x = ("sorted" : Str)) && decide (y = ("set" : Str)) && bltB c x && bltB c y && notStar z && chk a .b c z
    | _ => false
  | .idx a b, m, c, e => okM m e && match e with
    | .Call (.Attribute (.Name x p) k ap) [y] [] cp => decide (k = ("index" : Str)) && (ap.endLine == cp.line) && notStar y && chk a .b c (.Name x p) && chk b .b c y
    | _ => false
  | .cntT a b, m, c, e => okM m e && match e with
    | .Call (.Attribute (.Subscript x j p) k ap) [y] [] cp => decide (k = ("count" : Str)) && (ap.endLine == cp.line) && notStar y && chk a .b c (.Subscript x j p) && chk b .b c y
    | _ => false
  | .idxT a b, m, c, e => okM m e && match e with
    | .Call (.Attribute (.Subscript x j p) k ap) [y] [] cp => decide (k = ("index" : Str)) && (ap.endLine == cp.line) && notStar y && chk a .b c (.Subscript x j p) && chk b .b c y
    | .Call (.Attribute (.Name x p) k ap) [y] [] cp => decide (k = ("index" : Str)) && (ap.endLine == cp.line) && notStar y && chk a .b c (.Name x p) && chk b .b c y
    | _ => false
  | .idxS a b, m, c, e => okM m e && match e with
    | .Call (.Attribute (.Name x p) k ap) [y] [] cp => decide (k = ("index" : Str)) && (ap.endLine == cp.line) && notStar y && chk a .b c (.Name x p) && chk b .b c y
    | _ => false
  | .dnil, m, c, e => okM m e && match e with
    | .Dict [] [] _ => true
    | _ => false
  | .dcp _, _, _, _ => false
  | .join z a, m, c, e => okM m e && match e with
    | .Call (.Attribute (.Constant (.str y) _ _) k ap) [x] [] cp => decide (k = ("join" : Str)) && decide (y = z) && (ap.endLine == cp.line) && notStar x && chk a .b c x
    | _ => false
  | .split a b, m, c, e => okM m e && match e with
    | .Call (.Attribute (.Name x p) k ap) [y] [] cp => decide (k = ("split" : Str)) && (ap.endLine == cp.line) && notStar y && chk a .b c (.Name x p) && chk b .b c y
    | _ => false
  | .dd2 _ _ _ _, _, _, _ => false
  | .inK neg i a, m, c, e => decide (m ≠ .w) && match e with
    | .Compare y [o] [.Name x _] _ => decide (o = if neg then .NotIn else .In) && nmB c i x && chk a .v c y
    | _ => false
  | .lcd own t j cond elt, m, c, e => okM m e && match e with
    | .ListComp x [⟨tg, .Name y _, ifs, 0⟩] scope _ => nmB c j y && blkB c.N c.sc scope (ownN c own) && slB t own && chkG t (c.blk scope) tg && chkc cond (c.blk scope) ifs && chk elt .v (c.blk scope) x
    | _ => false
  | .trev a, m, c, e => okM m e && match e with
    | .Call (.Name x _) [.Call (.Name y _) [z] [] _] [] _ => decide (x = ("tuple" : Str)) && decide (y = ("reversed" : Str)) && bltB c x && bltB c y && notStar z && chk a .b c z
    | _ => false
  | .chain a op b r, m, c, e => decide (m ≠ .w) && match e with
    | .Compare x (o :: o2 :: os) (y :: y2 :: ys) _ => decide (op = o) && chk a .b c x && chk b .b c y && chkch r c (o2 :: os) (y2 :: ys)
    | _ => false
  | .call f es, m, c, e => okM m e && match e with
    | .Call (.Name x _) (y :: ys) [] _ => decide (x = f) && decide (x ∈ c.fns) && glB c x && notStar y && ys.all notStar && chks es .v c (y :: ys)
    | _ => false
  | .lent f es, m, c, e => okM m e && match e with
    | .Call (.Name x _) (y :: ys) [] _ => decide (x = f) && decide (x ∈ c.fns) && glB c x && notStar y && ys.all notStar && chks es .b c (y :: ys)
    | _ => false
  | .lcx own t it elt, m, c, e => okM m e && match e with
    | .ListComp x [⟨tg, iter, [], 0⟩] scope _ => !c.isx.isEmpty && notSet iter && blkB c.N c.sc scope (ownN c own) && slB t own && chkG t (c.blk scope) tg && chki it true c tg iter && chk elt .v (c.blk scope) x
    | _ => false
  | .lc own t it cond elt, m, c, e => okM m e && match e with
    | .ListComp x [⟨tg, iter, ifs, 0⟩] scope _ => notSet iter && blkB c.N c.sc scope (ownN c own) && slB t own && chkG t (c.blk scope) tg && chki it true c tg iter && chkc cond (c.blk scope) ifs && chk elt .v (c.blk scope) x
    | _ => false
  | .dc own t it cond k v, m, c, e => okM m e && match e with
    | .DictComp x y [⟨tg, iter, ifs, 0⟩] scope _ => notSet iter && blkB c.N c.sc scope (ownN c own) && slB t own && chkG t (c.blk scope) tg && chki it true c tg iter && chkc cond (c.blk scope) ifs && chk k .v (c.blk scope) x && chk v .v (c.blk scope) y
    | _ => false
def chkch : Ch → Ctx → List CmpOp → List Expr → Bool
  | .last op b, c, os, es => match os, es with
    | [o], [y] => decide (op = o) && notSet y && chk b .b c y
    | _, _ => false
  | .link op b r, c, os, es => match os, es with
    | o :: o2 :: os, y :: y2 :: ys => decide (op = o) && chk b .b c y && chkch r c (o2 :: os) (y2 :: ys)
    | _, _ => false
def chks : Es → Md → Ctx → List Expr → Bool
  | .nil, _, _, es => match es with
    | [] => true
    | _ => false
  | .cons a as, m, c, es => match es with
    | [] => false
    | e :: es => notStar e && chk a m c e && chks as m c es
def chko : Eo → Ctx → Option Expr → Bool
  | .none, _, e => match e with
    | none => true
    | some _ => false
  | .some a, c, e => match e with
    | none => false
    | some e => chk a .v c e
def chkc : Eo → Ctx → List Expr → Bool
  | .none, _, e => match e with
    | [] => true
    | _ => false
  | .some a, c, e => match e with
    | [e] => chk a .t c e
    | _ => false
def chki : It → Bool → Ctx → Expr → Expr → Bool
  | .val a, bor, c, _, e => chk a (mB bor) c e
  | .rev a, bor, c, _, e => match e with
    | .Call (.Name x _) [y] [] _ => decide (x = ("reversed" : Str)) && bltB c x && notStar y && chk a (mB bor) c y
    | _ => false
  | .enm a, bor, c, tg, e => match e, tg with
    | .Call (.Name x _) [y] [] _, .Tuple _ _ _ => decide (x = ("enumerate" : Str)) && bltB c x && notStar y && chk a (mB bor) c y
    | _, _ => false
  | .rng1 a, bor, c, _, e => match e with
    | .Call (.Name x _) [y] [] _ => decide (x = ("range" : Str)) && bltB c x && notStar y && chk a .v c y
    | _ => false
  | .rng2 a b, bor, c, _, e => match e with
    | .Call (.Name x _) [y, z] [] _ => decide (x = ("range" : Str)) && bltB c x && notStar y && notStar z && chk a .v c y && chk b .v c z
    | _ => false
  | .rng3 a b d, bor, c, _, e => match e with
    | .Call (.Name x _) [y, z, u] [] _ => decide (x = ("range" : Str)) && bltB c x && notStar y && notStar z && notStar u && chk a .v c y && chk b .v c z && chk d .v c u
    | _ => false
end
end Pv

end
section
namespace Pv
open PySem PySem.Spec PyProof.Rows L2

/-! ### the check is sound -/
def SndL : Md → Ctx → List Expr → EvL → Prop
  | .v => SXs pEs
  | .b => SXs pBs
  | _ => fun _ _ _ => True
theorem si_of_eq {bor : Bool} {c : Ctx} {tg e : Expr} {f g : EvL} (h : SI bor c tg e f) (q : ∀ Φ ρ, f Φ ρ = g Φ ρ) : SI bor c tg e g := by
  have : f = g := by funext Φ ρ; exact q Φ ρ
  rw [← this]; exact h
theorem a2 {a b : Bool} (h : (a && b) = true) : a = true ∧ b = true := and2 h
mutual
theorem chk_ok : ∀ (x : E) (m : Md) (c : Ctx) (e : Expr), chk x m c e = true → Snd m c e (ev x)
  | .cst d, m, c, e, h => by
    obtain ⟨h0, h⟩ := a2 h
    cases e <;> first
      | (cases h; done)
      | exact snd_of (cstB_ok h) h0
  | .var i, m, c, e, h => by
    obtain ⟨h0, h⟩ := a2 h
    cases e <;> first
      | (cases h; done)
      | exact snd_of (se_var (nmB_ok h).1 (nmB_ok h).2.1 (nmB_ok h).2.2.1 (nmB_ok h).2.2.2) h0
  | .varB i, m, c, e, h => by
    obtain ⟨h0, h⟩ := a2 h
    have hm : m = .b := of_decide_eq_true h0
    subst hm
    cases e <;> first
      | (cases h; done)
      | exact sb_var (nmB_ok h).1 (nmB_ok h).2.1 (nmB_ok h).2.2.1 (nmB_ok h).2.2.2
  | .glob d, m, c, e, h => by
    obtain ⟨h0, h⟩ := a2 h
    cases e <;> first
      | (cases h; done)
      | exact snd_of (se_glob (memG_ok (a2 h).1) (glB_ok (a2 h).2).1 (glB_ok (a2 h).2).2) h0
  | .bin op a b, m, c, e, h => by
    obtain ⟨h0, h⟩ := a2 h
    cases e <;> first
      | (cases h; done)
      | (obtain ⟨h1, h3⟩ := a2 h
         obtain ⟨h1, h2⟩ := a2 h1
         have := of_decide_eq_true h1
         subst this
         exact snd_of (se_bin (chk_ok a .b c _ h2) (chk_ok b .b c _ h3)) h0)
  | .un op a, m, c, e, h => by
    obtain ⟨h0, h⟩ := a2 h
    cases e <;> first
      | (cases h; done)
      | (obtain ⟨h9, h3⟩ := a2 h
         obtain ⟨h1, h2⟩ := a2 h9
         have := of_decide_eq_true h2
         subst this
         exact snd_of (se_un (of_decide_eq_true h1) (chk_ok a .v c _ h3)) h0)
  | .cmp op a b, m, c, e, h => by
    obtain ⟨h0, h⟩ := a2 h
    have hm : m ≠ .w := of_decide_eq_true h0
    cases e with
    | Compare x os ys p =>
      match os, ys, h with
      | [o], [y], h =>
        obtain ⟨h1, h4⟩ := a2 h
        obtain ⟨h1, h3⟩ := a2 h1
        obtain ⟨h1, h2⟩ := a2 h1
        have := of_decide_eq_true h1
        subst this
        have ha := chk_ok a .b c _ h3
        have hb := chk_ok b .b c _ h4
        have hn := notSet_mark op h2
        cases m with
        | v => exact se_cmp ha hb hn
        | b => exact sx_b (se_cmp ha hb hn)
        | t => exact st_cmp ha hb hn
        | w => exact absurd rfl hm
    | _ => cases h
  | .one a, m, c, e, h => by
    cases e with
    | BoolOp o xs p =>
      match xs, h with
      | [x], h =>
        have h : chk a (mdA m) c x = true := by cases m <;> exact h
        have ha := chk_ok a _ c x h
        cases m with
        | v => exact se_one ha
        | b => exact sx_b (se_one ha)
        | t => cases o with
          | And => exact sw_t (sw_and1 ha)
          | Or => exact sw_t (sw_or1 ha)
        | w => cases o with
          | And => exact sw_and1 ha
          | Or => exact sw_or1 ha
    | _ => cases h
  | .and a b, m, c, e, h => by
    cases e with
    | BoolOp o xs p =>
      match o, xs, h with
      | .And, x :: y :: r, h =>
        obtain ⟨h1, h2⟩ := a2 h
        have h1 : chk a (mdA m) c x = true := by cases m <;> exact h1
        have h2 : chk b (mdR m) c (.BoolOp .And (y :: r) p) = true := by cases m <;> exact h2
        have ha := chk_ok a _ c x h1
        have hb := chk_ok b _ c _ h2
        cases m with
        | v => exact se_and ha hb
        | b => exact sx_b (se_and ha hb)
        | t => exact sw_t (sw_and ha hb)
        | w => exact sw_and ha hb
    | _ => cases h
  | .or a b, m, c, e, h => by
    cases e with
    | BoolOp o xs p =>
      match o, xs, h with
      | .Or, x :: y :: r, h =>
        obtain ⟨h1, h2⟩ := a2 h
        have h1 : chk a (mdA m) c x = true := by cases m <;> exact h1
        have h2 : chk b (mdR m) c (.BoolOp .Or (y :: r) p) = true := by cases m <;> exact h2
        have ha := chk_ok a _ c x h1
        have hb := chk_ok b _ c _ h2
        cases m with
        | v => exact se_or ha hb
        | b => exact sx_b (se_or ha hb)
        | t => exact sw_t (sw_or ha hb)
        | w => exact sw_or ha hb
    | _ => cases h
  | .not a, m, c, e, h => by
    obtain ⟨h0, h⟩ := a2 h
    have hm : m ≠ .w := of_decide_eq_true h0
    cases e with
    | UnaryOp o x p =>
      cases o with
      | Not =>
        have h : chk a (mdN m) c x = true := h
        cases m with
        | v => exact se_not (chk_ok a .v c x h)
        | b => exact sx_b (se_not (chk_ok a .v c x h))
        | t => exact st_not (chk_ok a .t c x h)
        | w => exact absurd rfl hm
      | _ => cases h
    | _ => cases h
  | .ite t a b, m, c, e, h => by
    obtain ⟨h0, h⟩ := a2 h
    cases e <;> first
      | (cases h; done)
      | (obtain ⟨h1, h3⟩ := a2 h
         obtain ⟨h1, h2⟩ := a2 h1
         exact snd_of (se_ite (chk_ok t .t c _ h1) (chk_ok a .v c _ h2) (chk_ok b .v c _ h3)) h0)
  | .tup es, m, c, e, h => by
    obtain ⟨h0, h⟩ := a2 h
    cases e <;> first
      | (cases h; done)
      | exact snd_of (se_tup (chks_ok es .v c _ h)) h0
  | .lst es, m, c, e, h => by
    obtain ⟨h0, h⟩ := a2 h
    cases e <;> first
      | (cases h; done)
      | exact snd_of (se_lst (chks_ok es .v c _ h)) h0
  | .ix a b, m, c, e, h => by
    obtain ⟨h0, h⟩ := a2 h
    cases e <;> first
      | (cases h; done)
      | (obtain ⟨h1, h3⟩ := a2 h
         obtain ⟨h1, h2⟩ := a2 h1
         exact snd_of (se_ix (chk_ok a .b c _ h2) (chk_ok b .b c _ h3) (plainIx_ok h1)) h0)
  | .slc a lo hi, m, c, e, h => by
    obtain ⟨h0, h⟩ := a2 h
    cases e with
    | Subscript x s p =>
      cases s with
      | Slice l hh st p2 =>
        cases st with
        | none =>
          obtain ⟨h1, h3⟩ := a2 h
          obtain ⟨h1, h2⟩ := a2 h1
          exact snd_of (se_slc (chk_ok a .b c _ h1) (chko_ok lo c _ h2) (chko_ok hi c _ h3)) h0
        | some _ => cases h
      | _ => cases h
    | _ => cases h
  | .blt k es, m, c, e, h => by
    obtain ⟨h0, h⟩ := a2 h
    cases e with
    | Call f as ks p =>
      match f, as, ks, h with
      | .Name x p2, y :: ys, [], h =>
        obtain ⟨h1, h5⟩ := a2 h
        obtain ⟨h1, h4⟩ := a2 h1
        obtain ⟨h1, h3⟩ := a2 h1
        obtain ⟨h1, h2⟩ := a2 h1
        have e1 := of_decide_eq_true h1
        subst e1
        exact snd_of (se_blt (bltB_ok h2).1 (bltB_ok h2).2 (chks_ok es .b c _ h5) h3 h4) h0
    | _ => cases h
  | .isi k a, m, c, e, h => by
    obtain ⟨h0, h⟩ := a2 h
    cases e with
    | Call f as ks p =>
      match f, as, ks, h with
      | .Name x p2, [y, .Name z p3], [], h =>
        obtain ⟨h1, h6⟩ := a2 h
        obtain ⟨h1, h5⟩ := a2 h1
        obtain ⟨h1, h4⟩ := a2 h1
        obtain ⟨h1, h3⟩ := a2 h1
        obtain ⟨h1, h2⟩ := a2 h1
        have e1 := of_decide_eq_true h1
        have e2 := of_decide_eq_true h2
        subst e1
        subst e2
        exact snd_of (se_isi k (bltB_ok h3).1 (bltB_ok h3).2 (bltB_ok h4).1 (bltB_ok h4).2 (chk_ok a .b c _ h6) h5) h0
    | _ => cases h
  | .bits a, m, c, e, h => by
    obtain ⟨h0, h⟩ := a2 h
    cases e with
    | Call f as ks p =>
      match f, as, ks, h with
      | .Attribute (.Name x p2) k ap, [], [], h =>
        obtain ⟨h1, h3⟩ := a2 h
        obtain ⟨h1, h2⟩ := a2 h1
        have e1 := of_decide_eq_true h1
        subst e1
        exact snd_of (se_bits (chk_ok a .b c _ h3) h2) h0
    | _ => cases h
  | .rg1 k a, m, c, e, h => by
    obtain ⟨h0, h⟩ := a2 h
    cases e with
    | Call f as ks p =>
      match f, as, ks, h with
      | .Name x p2, [.Call (.Name y p3) [z] [] p4], [], h =>
        obtain ⟨h1, h6⟩ := a2 h
        obtain ⟨h1, h5⟩ := a2 h1
        obtain ⟨h1, h4⟩ := a2 h1
        obtain ⟨h1, h3⟩ := a2 h1
        obtain ⟨h1, h2⟩ := a2 h1
        have e1 := of_decide_eq_true h1
        have e2 := of_decide_eq_true h2
        subst e1
        subst e2
        cases k with
        | false => exact snd_of (se_lrg1 (bltB_ok h4).1 (bltB_ok h4).2 (bltB_ok h3).1 (bltB_ok h3).2 (chk_ok a .v c _ h6) h5) h0
        | true => exact snd_of (se_trg1 (bltB_ok h4).1 (bltB_ok h4).2 (bltB_ok h3).1 (bltB_ok h3).2 (chk_ok a .v c _ h6) h5) h0
    | _ => cases h
  | .rg2 k a b, m, c, e, h => by
    obtain ⟨h0, h⟩ := a2 h
    cases e with
    | Call f as ks p =>
      match f, as, ks, h with
      | .Name x p2, [.Call (.Name y p3) [z, w] [] p4], [], h =>
        obtain ⟨h1, h8⟩ := a2 h
        obtain ⟨h1, h7⟩ := a2 h1
        obtain ⟨h1, h6⟩ := a2 h1
        obtain ⟨h1, h5⟩ := a2 h1
        obtain ⟨h1, h4⟩ := a2 h1
        obtain ⟨h1, h3⟩ := a2 h1
        obtain ⟨h1, h2⟩ := a2 h1
        have e1 := of_decide_eq_true h1
        have e2 := of_decide_eq_true h2
        subst e1
        subst e2
        cases k with
        | false => exact snd_of (se_lrg2 (bltB_ok h4).1 (bltB_ok h4).2 (bltB_ok h3).1 (bltB_ok h3).2 (chk_ok a .v c _ h7) (chk_ok b .v c _ h8) h5 h6) h0
        | true => exact snd_of (se_trg2 (bltB_ok h4).1 (bltB_ok h4).2 (bltB_ok h3).1 (bltB_ok h3).2 (chk_ok a .v c _ h7) (chk_ok b .v c _ h8) h5 h6) h0
    | _ => cases h
  | .trev a, m, c, e, h => by
    obtain ⟨h0, h⟩ := a2 h
    cases e with
    | Call f as ks p =>
      match f, as, ks, h with
      | .Name x p2, [.Call (.Name y p3) [z] [] p4], [], h =>
        obtain ⟨h1, h6⟩ := a2 h
        obtain ⟨h1, h5⟩ := a2 h1
        obtain ⟨h1, h4⟩ := a2 h1
        obtain ⟨h1, h3⟩ := a2 h1
        obtain ⟨h1, h2⟩ := a2 h1
        have e1 := of_decide_eq_true h1
        have e2 := of_decide_eq_true h2
        subst e1
        subst e2
        exact snd_of (se_trev (bltB_ok h4).1 (bltB_ok h4).2 (bltB_ok h3).1 (bltB_ok h3).2 (chk_ok a .b c _ h6) h5) h0
    | _ => cases h
  | .lset a, m, c, e, h => by
    obtain ⟨h0, h⟩ := a2 h
    cases e with
    | Call f as ks p =>
      match f, as, ks, h with
      | .Name x p2, [.Call (.Name y p3) [z] [] p4], [], h =>
        obtain ⟨h1, h6⟩ := a2 h
        obtain ⟨h1, h5⟩ := a2 h1
        obtain ⟨h1, h4⟩ := a2 h1
        obtain ⟨h1, h3⟩ := a2 h1
        obtain ⟨h1, h2⟩ := a2 h1
        have e1 := of_decide_eq_true h1
        have e2 := of_decide_eq_true h2
        subst e1
        subst e2
        exact snd_of (se_lenset2 (bltB_ok h3).1 (bltB_ok h3).2 (bltB_ok h4).1 (bltB_ok h4).2 (chk_ok a .b c _ h6) h5) h0
    | _ => cases h
  | .sset a, m, c, e, h => by
    obtain ⟨h0, h⟩ := a2 h
    cases e with
    | Call f as ks p =>
      match f, as, ks, h with
      | .Name x p2, [.Call (.Name y p3) [z] [] p4], [], h =>
        obtain ⟨h1, h6⟩ := a2 h
        obtain ⟨h1, h5⟩ := a2 h1
        obtain ⟨h1, h4⟩ := a2 h1
        obtain ⟨h1, h3⟩ := a2 h1
        obtain ⟨h1, h2⟩ := a2 h1
        have e1 := of_decide_eq_true h1
        have e2 := of_decide_eq_true h2
        subst e1
        subst e2
        exact snd_of (se_sset (bltB_ok h3).1 (bltB_ok h3).2 (bltB_ok h4).1 (bltB_ok h4).2 (chk_ok a .b c _ h6) h5) h0
    | _ => cases h
  | .inK neg i a, m, c, e, h => by
    obtain ⟨h0, h⟩ := a2 h
    have hm : m ≠ .w := of_decide_eq_true h0
    cases e with
    | Compare y os ys p =>
      match os, ys, h with
      | [o], [.Name x p2], h =>
        obtain ⟨h1, h3⟩ := a2 h
        obtain ⟨h1, h2⟩ := a2 h1
        have e1 := of_decide_eq_true h1
        subst e1
        cases m with
        | v => exact se_inK (nmB_ok h2).1 (nmB_ok h2).2.1 (nmB_ok h2).2.2.1 (nmB_ok h2).2.2.2 (chk_ok a .v c _ h3)
        | b => exact sx_b (se_inK (nmB_ok h2).1 (nmB_ok h2).2.1 (nmB_ok h2).2.2.1 (nmB_ok h2).2.2.2 (chk_ok a .v c _ h3))
        | t => exact st_inK (nmB_ok h2).1 (nmB_ok h2).2.1 (nmB_ok h2).2.2.1 (nmB_ok h2).2.2.2 (chk_ok a .v c _ h3)
        | w => exact absurd rfl hm
    | _ => cases h
  | .lcd own t j cond elt, m, c, e, h => by
    obtain ⟨h0, h⟩ := a2 h
    cases e with
    | ListComp x gs scope p =>
      match gs, h with
      | [⟨tg, .Name y p2, ifs, 0⟩], h =>
        obtain ⟨h1, h6⟩ := a2 h
        obtain ⟨h1, h5⟩ := a2 h1
        obtain ⟨h1, h4⟩ := a2 h1
        obtain ⟨h1, h3⟩ := a2 h1
        obtain ⟨h1, h2⟩ := a2 h1
        have ow := ownN_snd c own
        have := se_lcD (pos := p) (p := p2) (nmB_ok h1).1 (nmB_ok h1).2.1 (nmB_ok h1).2.2.1 (nmB_ok h1).2.2.2 (blkB_ok h2) (chkG_ok t _ _ h4) (by rw [ow]; exact slB_ok h3) (chkc_ok cond _ _ h5) (chk_ok elt .v _ _ h6)
        rw [ow] at this
        exact snd_of this h0
    | _ => cases h
  | .dcp _, m, c, e, h => by cases h
  | .join z a, m, c, e, h => by
    obtain ⟨h0, h⟩ := a2 h
    cases e with
    | Call f as ks p =>
      match f, as, ks, h with
      | .Attribute (.Constant (.str y) _ _) k ap, [x], [], h =>
        obtain ⟨h1, h5⟩ := a2 h
        obtain ⟨h1, h4⟩ := a2 h1
        obtain ⟨h1, h3⟩ := a2 h1
        obtain ⟨h1, h2⟩ := a2 h1
        have e1 := of_decide_eq_true h1
        have e2 := of_decide_eq_true h2
        subst e1 e2
        exact snd_of (se_join (chk_ok a .b c _ h5) h4 h3) h0
    | _ => cases h
  | .split a b, m, c, e, h => by
    obtain ⟨h0, h⟩ := a2 h
    cases e with
    | Call f as ks p =>
      match f, as, ks, h with
      | .Attribute (.Name x p2) k ap, [y], [], h =>
        obtain ⟨h1, h5⟩ := a2 h
        obtain ⟨h1, h4⟩ := a2 h1
        obtain ⟨h1, h3⟩ := a2 h1
        obtain ⟨h1, h2⟩ := a2 h1
        have e1 := of_decide_eq_true h1
        subst e1
        exact snd_of (se_split (chk_ok a .b c _ h4) (chk_ok b .b c _ h5) h3 h2) h0
    | _ => cases h
  | .dd2 _ _ _ _, m, c, e, h => by cases h
  | .dnil, m, c, e, h => by
    obtain ⟨h0, h⟩ := a2 h
    cases e with
    | Dict ks vs p =>
      match ks, vs, h with
      | [], [], h => exact snd_of se_dnil h0
    | _ => cases h
  | .idx a b, m, c, e, h => by
    obtain ⟨h0, h⟩ := a2 h
    cases e with
    | Call f as ks p =>
      match f, as, ks, h with
      | .Attribute (.Name x p2) k ap, [y], [], h =>
        obtain ⟨h1, h5⟩ := a2 h
        obtain ⟨h1, h4⟩ := a2 h1
        obtain ⟨h1, h3⟩ := a2 h1
        obtain ⟨h1, h2⟩ := a2 h1
        have e1 := of_decide_eq_true h1
        subst e1
        exact snd_of (se_idx (chk_ok a .b c _ h4) (chk_ok b .b c _ h5) h3 h2) h0
    | _ => cases h
  | .cntT a b, m, c, e, h => by
    obtain ⟨h0, h⟩ := a2 h
    cases e with
    | Call f as ks p =>
      match f, as, ks, h with
      | .Attribute (.Subscript x j2 p2) k ap, [y], [], h =>
        obtain ⟨h1, h5⟩ := a2 h
        obtain ⟨h1, h4⟩ := a2 h1
        obtain ⟨h1, h3⟩ := a2 h1
        obtain ⟨h1, h2⟩ := a2 h1
        have e1 := of_decide_eq_true h1
        subst e1
        exact snd_of (se_cntT (chk_ok a .b c _ h4) (chk_ok b .b c _ h5) h3 h2) h0
    | _ => cases h
  | .idxT a b, m, c, e, h => by
    obtain ⟨h0, h⟩ := a2 h
    cases e with
    | Call f as ks p =>
      match f, as, ks, h with
      | .Attribute (.Subscript x j2 p2) k ap, [y], [], h =>
        obtain ⟨h1, h5⟩ := a2 h
        obtain ⟨h1, h4⟩ := a2 h1
        obtain ⟨h1, h3⟩ := a2 h1
        obtain ⟨h1, h2⟩ := a2 h1
        have e1 := of_decide_eq_true h1
        subst e1
        exact snd_of (se_idxTS (chk_ok a .b c _ h4) (chk_ok b .b c _ h5) h3 h2) h0
      | .Attribute (.Name x p2) k ap, [y], [], h =>
        obtain ⟨h1, h5⟩ := a2 h
        obtain ⟨h1, h4⟩ := a2 h1
        obtain ⟨h1, h3⟩ := a2 h1
        obtain ⟨h1, h2⟩ := a2 h1
        have e1 := of_decide_eq_true h1
        subst e1
        exact snd_of (se_idxTN (chk_ok a .b c _ h4) (chk_ok b .b c _ h5) h3 h2) h0
    | _ => cases h
  | .idxS a b, m, c, e, h => by
    obtain ⟨h0, h⟩ := a2 h
    cases e with
    | Call f as ks p =>
      match f, as, ks, h with
      | .Attribute (.Name x p2) k ap, [y], [], h =>
        obtain ⟨h1, h5⟩ := a2 h
        obtain ⟨h1, h4⟩ := a2 h1
        obtain ⟨h1, h3⟩ := a2 h1
        obtain ⟨h1, h2⟩ := a2 h1
        have e1 := of_decide_eq_true h1
        subst e1
        exact snd_of (se_idxS (chk_ok a .b c _ h4) (chk_ok b .b c _ h5) h3 h2) h0
    | _ => cases h
  | .dc own t it cond k v, m, c, e, h => by
    obtain ⟨h0, h⟩ := a2 h
    cases e with
    | DictComp x y gs scope p =>
      match gs, h with
      | [⟨tg, iter, ifs, 0⟩], h =>
        obtain ⟨h1, h8⟩ := a2 h
        obtain ⟨h1, h7⟩ := a2 h1
        obtain ⟨h1, h6⟩ := a2 h1
        obtain ⟨h1, h5⟩ := a2 h1
        obtain ⟨h1, h4⟩ := a2 h1
        obtain ⟨h1, h3⟩ := a2 h1
        obtain ⟨h1, h2⟩ := a2 h1
        have ow := ownN_snd c own
        have := se_dc (pos := p) true (chki_ok it true c tg _ h5) (blkB_ok h2) (chkG_ok t _ _ h4) (by rw [ow]; exact slB_ok h3) (chkc_ok cond _ _ h6) (chk_ok k .v _ _ h7) (chk_ok v .v _ _ h8) (notSet_fold h1)
        rw [ow] at this
        exact snd_of this h0
    | _ => cases h
  | .chain a op b r, m, c, e, h => by
    obtain ⟨h0, h⟩ := a2 h
    have hm : m ≠ .w := of_decide_eq_true h0
    cases e with
    | Compare x os ys p =>
      match os, ys, h with
      | o :: o2 :: os, y :: y2 :: ys, h =>
        obtain ⟨h1, h4⟩ := a2 h
        obtain ⟨h1, h3⟩ := a2 h1
        obtain ⟨h1, h2⟩ := a2 h1
        have := of_decide_eq_true h1
        subst this
        have ha := chk_ok a .b c _ h2
        have hb := chk_ok b .b c _ h3
        obtain ⟨hr, hl⟩ := chkch_ok r c _ _ h4
        have hl2 : lastMarks (op :: o2 :: os) (y :: y2 :: ys) = false := hl
        cases m with
        | v => exact se_chain ha (jc_link hb hr) hl2
        | b => exact sx_b (se_chain ha (jc_link hb hr) hl2)
        | t => exact st_chain ha (jc_link hb hr) hl2
        | w => exact absurd rfl hm
    | _ => cases h
  | .call g es, m, c, e, h => by
    obtain ⟨h0, h⟩ := a2 h
    cases e with
    | Call f as ks p =>
      match f, as, ks, h with
      | .Name x p2, y :: ys, [], h =>
        obtain ⟨h1, h6⟩ := a2 h
        obtain ⟨h1, h5⟩ := a2 h1
        obtain ⟨h1, h4⟩ := a2 h1
        obtain ⟨h1, h3⟩ := a2 h1
        obtain ⟨h1, h2⟩ := a2 h1
        have e1 := of_decide_eq_true h1
        subst e1
        exact snd_of (se_call (of_decide_eq_true h2) (glB_ok h3).1 (glB_ok h3).2 (chks_ok es .v c _ h6) h4 h5) h0
    | _ => cases h
  | .lent g es, m, c, e, h => by
    obtain ⟨h0, h⟩ := a2 h
    cases e with
    | Call f as ks p =>
      match f, as, ks, h with
      | .Name x p2, y :: ys, [], h =>
        obtain ⟨h1, h6⟩ := a2 h
        obtain ⟨h1, h5⟩ := a2 h1
        obtain ⟨h1, h4⟩ := a2 h1
        obtain ⟨h1, h3⟩ := a2 h1
        obtain ⟨h1, h2⟩ := a2 h1
        have e1 := of_decide_eq_true h1
        subst e1
        exact snd_of (se_lent (of_decide_eq_true h2) (glB_ok h3).1 (glB_ok h3).2 (chks_ok es .b c _ h6) h4 h5) h0
    | _ => cases h
  | .lcx own t it elt, m, c, e, h => by
    obtain ⟨h0, h⟩ := a2 h
    cases e with
    | ListComp x gs scope p =>
      match gs, h with
      | [⟨tg, iter, [], 0⟩], h =>
        obtain ⟨h1, h7⟩ := a2 h
        obtain ⟨h1, h5⟩ := a2 h1
        obtain ⟨h1, h4⟩ := a2 h1
        obtain ⟨h1, h3⟩ := a2 h1
        obtain ⟨h1, h2⟩ := a2 h1
        obtain ⟨h8, h1⟩ := a2 h1
        have hne : c.isx ≠ [] := fun z => by rw [z] at h8; cases h8
        have ow := ownN_snd c own
        have := se_lcX (pos := p) true hne (chki_ok it true c tg _ h5) (blkB_ok h2) (chkG_ok t _ _ h4) (by rw [ow]; exact slB_ok h3) (chk_ok elt .v _ _ h7) (notSet_fold h1)
        rw [ow] at this
        exact snd_of this h0
    | _ => cases h
  | .lc own t it cond elt, m, c, e, h => by
    obtain ⟨h0, h⟩ := a2 h
    cases e with
    | ListComp x gs scope p =>
      match gs, h with
      | [⟨tg, iter, ifs, 0⟩], h =>
        obtain ⟨h1, h7⟩ := a2 h
        obtain ⟨h1, h6⟩ := a2 h1
        obtain ⟨h1, h5⟩ := a2 h1
        obtain ⟨h1, h4⟩ := a2 h1
        obtain ⟨h1, h3⟩ := a2 h1
        obtain ⟨h1, h2⟩ := a2 h1
        have ow := ownN_snd c own
        have := se_lc (pos := p) true (chki_ok it true c tg _ h5) (blkB_ok h2) (chkG_ok t _ _ h4) (by rw [ow]; exact slB_ok h3) (chkc_ok cond _ _ h6) (chk_ok elt .v _ _ h7) (notSet_fold h1)
        rw [ow] at this
        exact snd_of this h0
    | _ => cases h
theorem chkch_ok : ∀ (x : Ch) (c : Ctx) (os : List CmpOp) (es : List Expr), chkch x c os es = true → JC c os es (evch x) ∧ lastMarks os es = false
  | .last op b, c, os, es, h => by
    match os, es, h with
    | [o], [y], h =>
      obtain ⟨h9, h3⟩ := a2 h
      obtain ⟨h1, h2⟩ := a2 h9
      have := of_decide_eq_true h1
      subst this
      exact ⟨jc_last (chk_ok b .b c _ h3), notSet_mark op h2⟩
  | .link op b r, c, os, es, h => by
    match os, es, h with
    | o :: o2 :: os, y :: y2 :: ys, h =>
      obtain ⟨h9, h3⟩ := a2 h
      obtain ⟨h1, h2⟩ := a2 h9
      have := of_decide_eq_true h1
      subst this
      obtain ⟨hr, hl⟩ := chkch_ok r c _ _ h3
      exact ⟨jc_link (chk_ok b .b c _ h2) hr, hl⟩
theorem chks_ok : ∀ (x : Es) (m : Md) (c : Ctx) (e : List Expr), chks x m c e = true → SndL m c e (evs x)
  | .nil, m, c, e, h => by
    cases e with
    | nil => cases m <;> first | exact trivial | exact ss_nil fun _ _ _ => .nil
    | cons _ _ => cases h
  | .cons a as, m, c, e, h => by
    cases e with
    | nil => cases h
    | cons e es =>
      obtain ⟨h9, h3⟩ := a2 h
      obtain ⟨h1, h2⟩ := a2 h9
      have ha := chk_ok a m c e h2
      have hs := chks_ok as m c es h3
      cases m with
      | v => exact ses_cons ha hs h1
      | b => exact sbs_cons ha hs h1
      | t => exact trivial
      | w => exact trivial
theorem chko_ok : ∀ (x : Eo) (c : Ctx) (e : Option Expr), chko x c e = true → SO c e (evo x)
  | .none, c, e, h => by
    cases e with
    | none => exact so_none
    | some _ => cases h
  | .some a, c, e, h => by
    cases e with
    | none => cases h
    | some e => exact so_some (chk_ok a .v c e h)
theorem chkc_ok : ∀ (x : Eo) (c : Ctx) (e : List Expr), chkc x c e = true → STs c e (evc x)
  | .none, c, e, h => by
    cases e with
    | nil => exact sts_nil
    | cons _ _ => cases h
  | .some a, c, e, h => by
    match e, h with
    | [e], h => exact sts_one (chk_ok a .t c e h)
theorem chki_ok : ∀ (x : It) (bor : Bool) (c : Ctx) (tg e : Expr), chki x bor c tg e = true → SI bor c tg e (evi x)
  | .val a, bor, c, tg, e, h => by
    have ha := chk_ok a (mB bor) c e h
    exact si_val bor (by cases bor <;> exact ha)
  | .rev a, bor, c, tg, e, h => by
    cases e with
    | Call f as ks p =>
      match f, as, ks, h with
      | .Name x p2, [y], [], h =>
        obtain ⟨h1, h4⟩ := a2 h
        obtain ⟨h1, h3⟩ := a2 h1
        obtain ⟨h1, h2⟩ := a2 h1
        have e1 := of_decide_eq_true h1
        subst e1
        have ha := chk_ok a (mB bor) c y h4
        exact si_rev bor (bltB_ok h2).1 (bltB_ok h2).2 (by cases bor <;> exact ha) h3
    | _ => cases h
  | .enm a, bor, c, tg, e, h => by
    cases e with
    | Call f as ks p =>
      match f, as, ks, tg, h with
      | .Name x p2, [y], [], .Tuple _ _ _, h =>
        obtain ⟨h1, h4⟩ := a2 h
        obtain ⟨h1, h3⟩ := a2 h1
        obtain ⟨h1, h2⟩ := a2 h1
        have e1 := of_decide_eq_true h1
        subst e1
        have ha := chk_ok a (mB bor) c y h4
        exact si_enm bor (bltB_ok h2).1 (bltB_ok h2).2 (by cases bor <;> exact ha) h3
    | _ => cases h
  | .rng1 a, bor, c, tg, e, h => by
    cases e with
    | Call f as ks p =>
      match f, as, ks, h with
      | .Name x p2, [y], [], h =>
        obtain ⟨h1, h4⟩ := a2 h
        obtain ⟨h1, h3⟩ := a2 h1
        obtain ⟨h1, h2⟩ := a2 h1
        have e1 := of_decide_eq_true h1
        subst e1
        have := si_rng1 (tg := tg) (p := p2) (pos := p) bor (bltB_ok h2).1 (bltB_ok h2).2 (ses_cons (chk_ok a .v c y h4) (ss_nil fun _ _ _ => .nil) h3) h3
        exact si_of_eq this fun Φ ρ => by
          show _ = (ev a Φ ρ >>= fun x => rng [x])
          cases ev a Φ ρ <;> rfl
    | _ => cases h
  | .rng2 a b, bor, c, tg, e, h => by
    cases e with
    | Call f as ks p =>
      match f, as, ks, h with
      | .Name x p2, [y, z], [], h =>
        obtain ⟨h1, h6⟩ := a2 h
        obtain ⟨h1, h5⟩ := a2 h1
        obtain ⟨h1, h4⟩ := a2 h1
        obtain ⟨h1, h3⟩ := a2 h1
        obtain ⟨h1, h2⟩ := a2 h1
        have e1 := of_decide_eq_true h1
        subst e1
        have := si_rng2 (tg := tg) (p := p2) (pos := p) bor (bltB_ok h2).1 (bltB_ok h2).2 (ses_cons (chk_ok a .v c y h5) (ses_cons (chk_ok b .v c z h6) (ss_nil fun _ _ _ => .nil) h4) h3) h3 h4
        exact si_of_eq this fun Φ ρ => by
          show _ = (ev a Φ ρ >>= fun x => ev b Φ ρ >>= fun y => rng [x, y])
          cases ev a Φ ρ <;> cases ev b Φ ρ <;> rfl
    | _ => cases h
  | .rng3 a b d, bor, c, tg, e, h => by
    cases e with
    | Call f as ks p =>
      match f, as, ks, h with
      | .Name x p2, [y, z, u], [], h =>
        obtain ⟨h1, h8⟩ := a2 h
        obtain ⟨h1, h7⟩ := a2 h1
        obtain ⟨h1, h6⟩ := a2 h1
        obtain ⟨h1, h5⟩ := a2 h1
        obtain ⟨h1, h4⟩ := a2 h1
        obtain ⟨h1, h3⟩ := a2 h1
        obtain ⟨h1, h2⟩ := a2 h1
        have e1 := of_decide_eq_true h1
        subst e1
        have := si_rng3 (tg := tg) (p := p2) (pos := p) bor (bltB_ok h2).1 (bltB_ok h2).2 (ses_cons (chk_ok a .v c y h6) (ses_cons (chk_ok b .v c z h7) (ses_cons (chk_ok d .v c u h8) (ss_nil fun _ _ _ => .nil) h5) h4) h3) h3 h4 h5
        exact si_of_eq this fun Φ ρ => by
          show _ = (ev a Φ ρ >>= fun x => ev b Φ ρ >>= fun y => ev d Φ ρ >>= fun z => rng [x, y, z])
          cases ev a Φ ρ <;> cases ev b Φ ρ <;> cases ev d Φ ρ <;> rfl
    | _ => cases h
end
end Pv

end
section
namespace Pv
open PySem PySem.Spec PyProof.Rows L2

/-! ### what a handler says: expressions with a known value -/
inductive He where
  | bl (b : Bool) | int (i : Int) | non | str (s : Str)
  | neg (a : He) | not (a : He) | intb (a : He) | sub (a b : He) | orr (a b : He) | andd (a b : He) | one (a : He)
  | isi (y : Str) | isiT (ys : List Str) | var (i : Nat)
abbrev Itab := List (Str × Str × Bool)
def isxL : Itab → Str → Str → Option Bool
  | [], _, _ => none
  | (a, b, r) :: t, x, y => if a = x ∧ b = y then some r else isxL t x y
theorem isxL_mem {x y : Str} {b : Bool} : ∀ {t : Itab}, isxL t x y = some b → (x, y, b) ∈ t
  | [], h => by cases h
  | (a, c, r) :: t, h => by
    unfold isxL at h
    split at h
    · rename_i q
      obtain ⟨rfl, rfl⟩ := q
      cases h
      exact List.mem_cons_self
    · exact List.mem_cons_of_mem _ (isxL_mem h)
def anyX (t : Itab) (x : Str) : List Str → Option Bool
  | [] => some false
  | y :: ys => match isxL t x y, anyX t x ys with
    | some b, some r => some (b || r)
    | _, _ => none
abbrev Gm := List (Option V)
def hv (t : Itab) (x : Str) (γ : Gm) : He → Option V
  | .bl b => some (.bl b)
  | .int i => some (.int i)
  | .non => some .non
  | .str s => some (.str s)
  | .neg a => match hv t x γ a with | some (.int i) => some (.int (-i)) | _ => none
  | .not a => match hv t x γ a with | some (.bl b) => some (.bl !b) | _ => none
  | .intb a => match hv t x γ a with | some (.bl b) => some (.int (if b then 1 else 0)) | _ => none
  | .sub a b => match hv t x γ a, hv t x γ b with | some (.int i), some (.int j) => some (.int (i - j)) | _, _ => none
  | .orr a b => match hv t x γ a, hv t x γ b with | some (.bl false), some (.bl r) => some (.bl r) | _, _ => none
  | .andd a b => match hv t x γ a, hv t x γ b with | some (.bl true), some (.bl r) => some (.bl r) | _, _ => none
  | .one a => hv t x γ a
  | .isi y => match isxL t x y with | some b => some (.bl b) | none => none
  | .isiT ys => match anyX t x ys with | some b => some (.bl b) | none => none
  | .var i => match γ[i]? with | some (some v) => some v | _ => none
def chNs (c : Ctx) : List Str → List Expr → Bool
  | [], es => match es with
    | [] => true
    | _ => false
  | y :: ys, es => match es with
    | .Name z _ :: es => decide (z = y) && glB c y && chNs c ys es
    | _ => false
def chHe (c : Ctx) (n : Option Str) : He → Expr → Bool
  | .bl b, e => match e with | .Constant (.bool r) _ _ => decide (r = b) | _ => false
  | .int b, e => match e with | .Constant (.int r) _ _ => decide (r = b) | _ => false
  | .non, e => match e with | .Constant .none _ _ => true | _ => false
  | .str b, e => match e with | .Constant (.str r) _ _ => decide (r = b) | _ => false
  | .neg a, e => match e with | .UnaryOp .USub y _ => chHe c n a y | _ => false
  | .not a, e => match e with | .UnaryOp .Not y _ => chHe c n a y | _ => false
  | .intb a, e => match e with | .Call (.Name f _) [y] [] _ => decide (f = ("int" : Str)) && bltB c "int" && notStar y && chHe c n a y | _ => false
  | .sub a b, e => match e with | .BinOp x .Sub y _ => chHe c n a x && chHe c n b y | _ => false
  | .orr a b, e => match e with | .BoolOp .Or (x :: y :: ys) p => chHe c n a x && chHe c n b (.BoolOp .Or (y :: ys) p) | _ => false
  | .andd a b, e => match e with | .BoolOp .And (x :: y :: ys) p => chHe c n a x && chHe c n b (.BoolOp .And (y :: ys) p) | _ => false
  | .one a, e => match e with | .BoolOp _ [x] _ => chHe c n a x | _ => false
  | .isi y, e => match e with | .Call (.Name f _) [.Name m _, .Name z _] [] _ => decide (f = ("isinstance" : Str)) && bltB c "isinstance" && decide (n = some m) && decide (z = y) && glB c y | _ => false
  | .isiT ys, e => match e with | .Call (.Name f _) [.Name m _, .Tuple es _ _] [] _ => decide (f = ("isinstance" : Str)) && bltB c "isinstance" && decide (n = some m) && decide (ys.length < 9) && chNs c ys es | _ => false
  | .var i, e => match e with | .Name x _ => nmB c i x | _ => false
/-- what is known of the slots -/
def Gam (γ : Gm) (σ : L2.St) : Prop := ∀ (i : Nat) (v : V), γ[i]? = some (some v) → σ[i]? = some (some v)
section
variable {X : Cx} {a D : Addr} {oe : Obj} {pn : List (Addr × Obj)} {c : Ctx} {t : Itab} {x : Str} {n : Option Str} {iE : Nat}
theorem rel_cls {k : V} {u : Value} (h : ClsV k u) : RelV k u := by
  cases h with
  | ty n => rfl
  | own C => rfl
theorem pe_clsN {Y : Cx} {y : Str} {p : Pos} {k : V} {u : Value} (hg : Gl Y y) (hd : (y == ("__debug__" : Str)) = false) (h : ClsN Y.mg y k u) : PE Y (.Name y p) (tC k) := by
  obtain ⟨h1, h2 | ⟨h2, h3, h4⟩⟩ := h
  · exact pe_glob hg h2 (rel_cls h1) hd
  · exact pe_bltn hg h2 h3 (rel_cls h1) h4 hd
/-- the ground that a handler's expressions stand on -/
structure HGr (c : Ctx) (X : Cx) (t : Itab) (x : Str) (n : Option Str) (iE : Nat) (D : Addr) : Prop where
  hN : X.N = c.N
  sc : X.env.scope = c.sc
  blt : ∀ y, y ∈ c.blts → X.mg y = none
  isx : ∀ y b, (x, y, b) ∈ t → IsxHas X.K X.mg x y b
  mx : X.mg x = some (.ref D)
  ec : ExcC X.K D
  hn : ∀ m, n = some m → nmB c iE m = true
theorem HGr.gl (g : HGr c X t x n iE D) {y : Str} (hk : c.sc.names.lookup y = some .globalImplicit) : Gl X y := by
  unfold Gl Env.kindOf
  rw [g.sc]
  exact hk
theorem HGr.cls (g : HGr c X t x n iE D) {y : Str} {b : Bool} (h : isxL t x y = some b) : ∃ k u, ClsN X.mg y k u ∧ PySem.W.kitOne X.K (.ref D) u = some b := by
  obtain ⟨C, k, u, h1, h2, _, _, h3, h4⟩ := g.isx y b (isxL_mem h)
  rw [g.mx] at h1
  cases h1
  exact ⟨k, u, h3, h4⟩
theorem HGr.clss (g : HGr c X t x n iE D) : ∀ {ys : List Str} {es : List Expr} {b : Bool}, anyX t x ys = some b → chNs c ys es = true → ∃ vs us, PAc (X.suite a ((a, oe) :: pn)) es vs ∧ Paired ClsV vs us ∧ vs.length = ys.length ∧ PySem.W.kitAny X.K (.ref D) us = some b
  | [], es, b, h, hc => by
    cases h
    cases es with
    | nil => exact ⟨[], [], pac_nil, .nil, rfl, kitAny_nil⟩
    | cons e es => cases hc
  | y :: ys, es, b, h, hc => by
    unfold anyX at h
    cases h1 : isxL t x y with
    | none => rw [h1] at h; cases h
    | some b1 =>
      cases h2 : anyX t x ys with
      | none => rw [h1, h2] at h; cases h
      | some r =>
        rw [h1, h2] at h
        cases h
        unfold chNs at hc
        split at hc
        · rename_i z p es
          obtain ⟨hc, h5⟩ := a2 hc
          obtain ⟨h3, h4⟩ := a2 hc
          have := of_decide_eq_true h3
          subst this
          obtain ⟨k, u, h6, h7⟩ := g.cls h1
          obtain ⟨vs, us, i1, i2, i3, i4⟩ := g.clss h2 h5
          refine ⟨k :: vs, u :: us, pac_cons (pe_clsN (g.gl (glB_ok h4).1) (glB_ok h4).2 h6) i1 (star_of rfl _ _), .cons h6.1 i2, by simp [i3], ?_⟩
          refine kitAny_cons h7 (fun e => ?_) (fun e => ?_)
          · rw [e]; exact i4
          · rw [e]; rfl
        · cases hc
def notLcH : Expr → Bool
  | .ListComp .. => false
  | .SetComp .. => false
  | .DictComp .. => false
  | _ => true
theorem notLcH_sw {e : Expr} (h : notLcH e = true) (t : Option Expr) (l : Nat) (env : PySem.Env) : swapsWith e t l env = pure false := by
  cases e <;> first
    | (cases h; done)
    | rfl
inductive Hs where
  | ret (e : He) | retT (es : List He) | retN | set (i : Nat) (e : He) (r : Hs)
  | nx | ifF (e : He) (r : Hs)
def isTW : Bool → He → Bool
  | w, .isi _ => !w
  | w, .isiT _ => !w
  | w, .not q => !w && isTW false q
  | _, .orr q r => isTW false q && isTW true r
  | w, .one q => w && isTW false q
  | _, _ => false
def vD : V → Option PyData
  | .bl b => some (.bool b)
  | .int b => some (.int b)
  | .str b => some (.str b)
  | .non => some .none
  | _ => none
def vDs : List V → Option (List PyData)
  | [] => some []
  | v :: vs => match vD v, vDs vs with
    | some d, some ds => some (d :: ds)
    | _, _ => none
def hvs (t : Itab) (x : Str) (γ : Gm) : List He → Option (List V)
  | [] => some []
  | h :: hs => match hv t x γ h, hvs t x γ hs with
    | some d, some ds => some (d :: ds)
    | _, _ => none
def hrun (t : Itab) (x : Str) : Hs → Gm → Option PyData
  | .ret e => fun γ => match hv t x γ e with
    | some v => vD v
    | none => none
  | .retT es => fun γ => match hvs t x γ es with
    | some vs => (vDs vs).map .tuple
    | none => none
  | .retN => fun _ => some .none
  | .set i e r => fun γ => match hv t x γ e with
    | some v => hrun t x r (γ.set i (some v))
    | none => none
  | .nx => fun _ => none
  | .ifF e r => fun γ => match hv t x γ e with
    | some (.bl false) => hrun t x r γ
    | _ => none
/-- a handler that falls through -/
def hnx (t : Itab) (x : Str) : Hs → Gm → Bool
  | .nx => fun _ => true
  | .ifF e r => fun γ => match hv t x γ e with
    | some (.bl false) => hnx t x r γ
    | _ => false
  | _ => fun _ => false
def chHes (c : Ctx) (n : Option Str) : List He → List Expr → Bool
  | [], es => match es with
    | [] => true
    | _ => false
  | h :: hs, es => match es with
    | e :: es => notStar e && chHe c n h e && chHes c n hs es
    | _ => false
def chHs (c : Ctx) (n : Option Str) (iE : Nat) : Hs → List Stmt → Bool
  | .ret e, s => match s with
    | [.Return (some y) _] => chHe c n e y
    | _ => false
  | .retT es, s => match s with
    | [.Return (some (.Tuple ys _ _)) _] => decide (es.length < 9) && chHes c n es ys
    | _ => false
  | .retN, s => match s with
    | [.Return none _] => true
    | _ => false
  | .set i e r, s => match s with
    | .Assign [.Name y _] v _ :: s => decide (c.N[i]? = some y) && decide (c.sc.names.lookup y = some .local) && notLcH v && decide (i ≠ iE) && chHe c n e v && chHs c n iE r s
    | _ => false
  | .nx, s => match s with
    | [] => true
    | _ => false
  | .ifF e r, s => match s with
    | .If y _ [] _ :: s => isTW false e && chHe c n e y && chHs c n iE r s
    | _ => false
/-! soundness -/
def GamE (n : Option Str) (γ : Gm) (iE : Nat) (a : Addr) (σ : L2.St) : Prop := Gam γ σ ∧ (∀ m, n = some m → σ[iE]? = some (some (.ref a))) ∧ σ.length = γ.length
theorem he_neg {Y : Cx} {Γ : L2.St → Prop} {e : Expr} {p : Pos} {i : Int} (h : HE Y e Γ (.int i)) : HE Y (.UnaryOp .USub e p) Γ (.int (-i)) :=
  peI (pe_un un_neg h) fun σ H Q ⟨g, q⟩ => ⟨g, fun H' s => ⟨i, rfl, q H' s⟩⟩
theorem he_and {Y : Cx} {Γ : L2.St → Prop} {e1 e2 : Expr} {rest : List Expr} {pos : Pos} {b : Bool} (h1 : HE Y e1 Γ (.bl true)) (h2 : HE Y (.BoolOp .And (e2 :: rest) pos) Γ (.bl b)) : HE Y (.BoolOp .And (e1 :: e2 :: rest) pos) Γ (.bl b) :=
  peI (pe_and h1 h2) fun σ H Q ⟨g, q⟩ => ⟨g, fun H1 s1 => ⟨true, rfl, by rw [if_pos rfl]; exact ⟨g, fun H2 s2 => q H2 (s1.trans s2)⟩⟩⟩
theorem he_pure {Y : Cx} {Γ : L2.St → Prop} {e : Expr} {v : V} (h : PE Y e (tC v)) : HE Y e Γ v := peI h fun σ H Q ⟨g, q⟩ => q H (Same.refl _)
theorem he_ok {γ : Gm} (g : HGr c X t x n iE D) (hz : Zc (.ref D) none oe) (hf : ∃ vs, oe.data = .fields vs) : ∀ (h : He) (e : Expr) (v : V), hv t x γ h = some v → chHe c n h e = true → HE (X.suite a ((a, oe) :: pn)) e (GamE n γ iE a) v
  | .bl b, e, v, hh, hc => by
    cases hh
    unfold chHe at hc
    split at hc
    · have := of_decide_eq_true hc
      subst this
      exact he_pure pe_bl
    · cases hc
  | .int b, e, v, hh, hc => by
    cases hh
    unfold chHe at hc
    split at hc
    · have := of_decide_eq_true hc
      subst this
      exact he_pure pe_int
    · cases hc
  | .non, e, v, hh, hc => by
    cases hh
    unfold chHe at hc
    split at hc
    · exact he_pure pe_non
    · cases hc
  | .str b, e, v, hh, hc => by
    cases hh
    unfold chHe at hc
    split at hc
    · have := of_decide_eq_true hc
      subst this
      exact he_pure pe_str
    · cases hc
  | .neg q, e, v, hh, hc => by
    unfold hv at hh
    split at hh
    · rename_i i hi
      cases hh
      unfold chHe at hc
      split at hc
      · exact he_neg (he_ok g hz hf q _ _ hi hc)
      · cases hc
    · cases hh
  | .not q, e, v, hh, hc => by
    unfold hv at hh
    split at hh
    · rename_i i hi
      cases hh
      unfold chHe at hc
      split at hc
      · exact he_not (he_ok g hz hf q _ _ hi hc)
      · cases hc
    · cases hh
  | .intb q, e, v, hh, hc => by
    unfold hv at hh
    split at hh
    · rename_i i hi
      cases hh
      unfold chHe at hc
      split at hc
      · obtain ⟨hc, h4⟩ := a2 hc
        obtain ⟨hc, h3⟩ := a2 hc
        obtain ⟨h1, h2⟩ := a2 hc
        have := of_decide_eq_true h1
        subst this
        exact he_intb (show Gl (X.suite a ((a, oe) :: pn)) "int" from g.gl (bltB_ok h2).2) (g.blt _ (bltB_ok h2).1) (he_ok g hz hf q _ _ hi h4) (star_of h3 _ _)
      · cases hc
    · cases hh
  | .sub q r, e, v, hh, hc => by
    unfold hv at hh
    split at hh
    · rename_i i j hi hj
      cases hh
      unfold chHe at hc
      split at hc
      · exact he_sub (he_ok g hz hf q _ _ hi (a2 hc).1) (he_ok g hz hf r _ _ hj (a2 hc).2)
      · cases hc
    · cases hh
  | .orr q r, e, v, hh, hc => by
    unfold hv at hh
    split at hh
    · rename_i j hi hj
      cases hh
      unfold chHe at hc
      split at hc
      · exact he_or (he_ok g hz hf q _ _ hi (a2 hc).1) (he_ok g hz hf r _ _ hj (a2 hc).2)
      · cases hc
    · cases hh
  | .andd q r, e, v, hh, hc => by
    unfold hv at hh
    split at hh
    · rename_i j hi hj
      cases hh
      unfold chHe at hc
      split at hc
      · exact he_and (he_ok g hz hf q _ _ hi (a2 hc).1) (he_ok g hz hf r _ _ hj (a2 hc).2)
      · cases hc
    · cases hh
  | .one q, e, v, hh, hc => by
    unfold hv at hh
    unfold chHe at hc
    split at hc
    · exact he_one (he_ok g hz hf q _ _ hh hc)
    · cases hc
  | .isi y, e, v, hh, hc => by
    unfold hv at hh
    split at hh
    · rename_i b hb
      cases hh
      unfold chHe at hc
      split at hc
      · obtain ⟨hc, h5⟩ := a2 hc
        obtain ⟨hc, h4⟩ := a2 hc
        obtain ⟨hc, h3⟩ := a2 hc
        obtain ⟨h1, h2⟩ := a2 hc
        have e1 := of_decide_eq_true h1
        have e2 := of_decide_eq_true h3
        have e3 := of_decide_eq_true h4
        subst e1 e2 e3
        obtain ⟨k, u, h6, h7⟩ := g.cls hb
        obtain ⟨n1, n2, n3, n4⟩ := nmB_ok (g.hn _ rfl)
        exact he_isi g.ec hz hf (g.gl (bltB_ok h2).2) (g.blt _ (bltB_ok h2).1) (he_var (by show X.N[iE]? = _; rw [g.hN]; exact n1) (by show Vis X.env.scope _; rw [g.sc]; exact n2) n3 n4 fun σ h => h.2.1 _ rfl) (pe_clsN (g.gl (glB_ok h5).1) (glB_ok h5).2 h6) h6.1 h7 (star_of rfl _ _) (star_of rfl _ _) (stars_of rfl)
      · cases hc
    · cases hh
  | .isiT ys, e, v, hh, hc => by
    unfold hv at hh
    split at hh
    · rename_i b hb
      cases hh
      unfold chHe at hc
      split at hc
      · obtain ⟨hc, h5⟩ := a2 hc
        obtain ⟨hc, h4⟩ := a2 hc
        obtain ⟨hc, h3⟩ := a2 hc
        obtain ⟨h1, h2⟩ := a2 hc
        have e1 := of_decide_eq_true h1
        have e2 := of_decide_eq_true h3
        subst e1 e2
        obtain ⟨vs, us, i1, i2, i3, i4⟩ := g.clss (a := a) (oe := oe) (pn := pn) hb h5
        obtain ⟨n1, n2, n3, n4⟩ := nmB_ok (g.hn _ rfl)
        exact he_isiT g.ec hz hf (g.gl (bltB_ok h2).2) (g.blt _ (bltB_ok h2).1) (he_var (by show X.N[iE]? = _; rw [g.hN]; exact n1) (by show Vis X.env.scope _; rw [g.sc]; exact n2) n3 n4 fun σ h => h.2.1 _ rfl) i1 i2 (by
          have := of_decide_eq_true h4
          have e : 9 ≤ sizeLine := by decide
          omega) i4 (star_of rfl _ _) (star_of rfl _ _) (stars_of rfl)
      · cases hc
    · cases hh
  | .var i, e, v, hh, hc => by
    unfold hv at hh
    split at hh
    · rename_i w hw
      cases hh
      unfold chHe at hc
      split at hc
      · obtain ⟨n1, n2, n3, n4⟩ := nmB_ok hc
        exact he_var (by show X.N[i]? = _; rw [g.hN]; exact n1) (by show Vis X.env.scope _; rw [g.sc]; exact n2) n3 n4 fun σ h => h.1 _ _ hw
      · cases hc
    · cases hh
/-! ### a handler's tests -/
def tKn (Γ : L2.St → Prop) (b : Bool) : TT := fun σ H Q => Γ σ ∧ ∀ H', Same H H' → Q b H'
theorem ht_val {Y : Cx} {Γ : L2.St → Prop} {e : Expr} {b : Bool} (h : HE Y e Γ (.bl b)) (he : ∀ whole, isTrue e Y.env whole = (do let v ← whole; standAt e.pos; holding [v] (truthy v))) : PT Y e (tKn Γ b) :=
  ptI (pt_val h he) fun σ H Q ⟨g, q⟩ => ⟨g, fun H' s => ⟨b, rfl, q H' s⟩⟩
theorem ht_ok {γ : Gm} (g : HGr c X t x n iE D) (hz : Zc (.ref D) none oe) (hf : ∃ vs, oe.data = .fields vs) : ∀ (h : He) (e : Expr) (b : Bool), hv t x γ h = some (.bl b) → chHe c n h e = true →
    (isTW false h = true → PT (X.suite a ((a, oe) :: pn)) e (tKn (GamE n γ iE a) b)) ∧ (isTW true h = true → PW (X.suite a ((a, oe) :: pn)) e (tKn (GamE n γ iE a) b))
  | .bl _, e, b, _, _ => ⟨fun z => (nomatch z), fun z => (nomatch z)⟩
  | .int _, e, b, _, _ => ⟨fun z => (nomatch z), fun z => (nomatch z)⟩
  | .non, e, b, _, _ => ⟨fun z => (nomatch z), fun z => (nomatch z)⟩
  | .str _, e, b, _, _ => ⟨fun z => (nomatch z), fun z => (nomatch z)⟩
  | .neg _, e, b, _, _ => ⟨fun z => (nomatch z), fun z => (nomatch z)⟩
  | .intb _, e, b, _, _ => ⟨fun z => (nomatch z), fun z => (nomatch z)⟩
  | .sub _ _, e, b, _, _ => ⟨fun z => (nomatch z), fun z => (nomatch z)⟩
  | .andd _ _, e, b, _, _ => ⟨fun z => (nomatch z), fun z => (nomatch z)⟩
  | .var _, e, b, _, _ => ⟨fun z => (nomatch z), fun z => (nomatch z)⟩
  | .isi y, e, b, hh, hc => ⟨fun _ => ht_val (he_ok g hz hf (.isi y) e _ hh hc) (by
      unfold chHe at hc
      split at hc
      · intro _; rfl
      · cases hc), fun z => (nomatch z)⟩
  | .isiT y, e, b, hh, hc => ⟨fun _ => ht_val (he_ok g hz hf (.isiT y) e _ hh hc) (by
      unfold chHe at hc
      split at hc
      · intro _; rfl
      · cases hc), fun z => (nomatch z)⟩
  | .not q, e, b, hh, hc => by
    unfold hv at hh
    split at hh
    · rename_i i hi
      cases hh
      unfold chHe at hc
      split at hc
      · exact ⟨fun z => ptI (pt_not ((ht_ok g hz hf q _ _ hi hc).1 z)) fun σ H Q ⟨g, q⟩ => ⟨g, fun H' s => q H' s⟩, fun z => (nomatch z)⟩
      · cases hc
    · cases hh
  | .one q, e, b, hh, hc => by
    unfold hv at hh
    unfold chHe at hc
    split at hc
    · rename_i op y p
      cases op with
      | Or => exact ⟨fun z => (nomatch z), fun z => pw_or1 ((ht_ok g hz hf q _ _ hh hc).1 z)⟩
      | And => exact ⟨fun z => (nomatch z), fun z => pw_and1 ((ht_ok g hz hf q _ _ hh hc).1 z)⟩
    · cases hc
  | .orr q r, e, b, hh, hc => by
    unfold hv at hh
    split at hh
    · rename_i j hi hj
      cases hh
      unfold chHe at hc
      split at hc
      · have m : isTW false q = true → isTW true r = true → PW (X.suite a ((a, oe) :: pn)) _ (tKn (GamE n γ iE a) b) := fun z1 z2 =>
          pwI (pw_or ((ht_ok g hz hf q _ _ hi (a2 hc).1).1 z1) ((ht_ok g hz hf r _ _ hj (a2 hc).2).2 z2)) fun σ H Q ⟨g, q⟩ => ⟨g, fun H1 s1 => ⟨g, fun H2 s2 => q H2 (s1.trans s2)⟩⟩
        exact ⟨fun z => (m (a2 z).1 (a2 z).2).pt, fun z => m (a2 z).1 (a2 z).2⟩
      · cases hc
    · cases hh
/-! ### a handler's statements -/
theorem hes_ok {γ : Gm} (g : HGr c X t x n iE D) (hz : Zc (.ref D) none oe) (hf : ∃ vs, oe.data = .fields vs) : ∀ (h : List He) (es : List Expr) (vs : List V), hvs t x γ h = some vs → chHes c n h es = true → PA (X.suite a ((a, oe) :: pn)) es (fun σ H Q => GamE n γ iE a σ ∧ ∀ H', Same H H' → Q vs H')
  | [], es, vs, hh, hc => by
    cases hh
    cases es with
    | nil => exact paI pa_nil fun σ H Q ⟨_, q⟩ => q H (Same.refl _)
    | cons e es => cases hc
  | q :: qs, es, vs, hh, hc => by
    unfold hvs at hh
    split at hh
    · rename_i v ws h1 h2
      cases hh
      unfold chHes at hc
      split at hc
      · obtain ⟨hc, h5⟩ := a2 hc
        obtain ⟨h3, h4⟩ := a2 hc
        exact paI (pa_cons (he_ok g hz hf q _ _ h1 h4) (hes_ok g hz hf qs _ _ h2 h5) (star_of h3 _ _)) fun σ H Q ⟨gm, z⟩ => ⟨gm, fun H1 s1 => ⟨gm, fun H2 s2 => z H2 (s1.trans s2)⟩⟩
      · cases hc
    · cases hh
theorem rp_vD {K : PySem.W.Frag} {H : Hp} {A : List Addr} {v : V} {d : PyData} (h : vD v = some d) : Rp K H A v d := by
  cases v <;> first
    | (cases h; done)
    | (cases h; constructor)
theorem rp_vDs {K : PySem.W.Frag} {H : Hp} {A : List Addr} : ∀ {vs : List V} {ds : List PyData}, vDs vs = some ds → RpL K H A vs ds
  | [], _, h => by cases h; exact .nil
  | v :: vs, _, h => by
    unfold vDs at h
    split at h
    · rename_i d es h1 h2
      cases h
      exact .cons (rp_vD h1) (rp_vDs h2)
    · cases h
theorem hvs_len {γ : Gm} : ∀ {h : List He} {vs : List V}, hvs t x γ h = some vs → vs.length = h.length
  | [], vs, hh => by cases hh; rfl
  | q :: qs, vs, hh => by
    unfold hvs at hh
    split at hh
    · rename_i v ws h1 h2
      cases hh
      simp [hvs_len h2]
    · cases hh
theorem GamE.set {γ : Gm} {σ : L2.St} {i : Nat} {v : V} (h : GamE n γ iE a σ) (hi : i ≠ iE) : GamE n (γ.set i (some v)) iE a (σ.set i (some v)) := by
  refine ⟨fun j w e => ?_, fun m hm => by rw [List.getElem?_set_ne hi]; exact h.2.1 m hm, by simp [h.2.2]⟩
  rw [List.getElem?_set] at e ⊢
  split at e
  · rename_i q
    rw [if_pos q, h.2.2]
    exact e
  · rename_i q
    rw [if_neg q]
    exact h.1 j w e
theorem hs_ok (g : HGr c X t x n iE D) (hz : Zc (.ref D) none oe) (hf : ∃ vs, oe.data = .fields vs) (nd : X.N.Nodup) : ∀ (h : Hs) (γ : Gm) (ss : List Stmt) (d : PyData), hrun t x h γ = some d → chHs c n iE h ss = true →
    PSs (X.suite a ((a, oe) :: pn)) ss (fun Dn σ H => GamE n γ iE a σ ∧ ∃ A, ∀ v H', Same H H' → Rp X.K H' A v d → Dn.rt v H')
  | .ret e, γ, ss, d, hh, hc => by
    unfold hrun at hh
    unfold chHs at hc
    split at hc
    · cases q : hv t x γ e with
      | none => simp only [q] at hh; cases hh
      | some v =>
        simp only [q] at hh
        exact pssI (pss_cons (ps_ret (he_ok g hz hf e _ v q hc)) pss_nil) fun Dn σ H ⟨gm, A, z⟩ => ⟨gm, fun H' s => z v H' s (rp_vD hh)⟩
    · cases hc
  | .retT es, γ, ss, d, hh, hc => by
    unfold hrun at hh
    unfold chHs at hc
    split at hc
    · cases q : hvs t x γ es with
      | none => simp only [q] at hh; cases hh
      | some vs =>
        simp only [q] at hh
        cases q2 : vDs vs with
        | none => rw [q2] at hh; cases hh
        | some ds =>
          rw [q2] at hh
          cases hh
          exact pssI (pss_cons (ps_ret (pe_tupE (hes_ok g hz hf es _ vs q (a2 hc).2))) pss_nil) fun Dn σ H ⟨gm, A, z⟩ => ⟨gm, fun H' s => ⟨by
            have := of_decide_eq_true (a2 hc).1
            rw [hvs_len q]
            have e : 9 ≤ sizeLine := by decide
            omega, fun p o np on => z _ _ (s.trans (same_upd np)) (.tup (.inl ⟨o, upd_same, on⟩) (rp_vDs q2))⟩⟩
    · cases hc
  | .retN, γ, ss, d, hh, hc => by
    unfold hrun at hh
    unfold chHs at hc
    cases hh
    split at hc
    · exact pssI (pss_cons ps_retN pss_nil) fun Dn σ H ⟨gm, A, z⟩ => z _ _ (Same.refl _) .non
    · cases hc
  | .set i e r, γ, ss, d, hh, hc => by
    unfold hrun at hh
    unfold chHs at hc
    split at hc
    · obtain ⟨hc, h6⟩ := a2 hc
      obtain ⟨hc, h5⟩ := a2 hc
      obtain ⟨hc, h4⟩ := a2 hc
      obtain ⟨hc, h3⟩ := a2 hc
      obtain ⟨h1, h2⟩ := a2 hc
      cases q : hv t x γ e with
      | none => simp only [q] at hh; cases hh
      | some v =>
        simp only [q] at hh
        have hl := of_decide_eq_true h2
        rw [← g.sc] at hl
        exact pssI (pss_cons (ps_set (i := i) nd (by show X.N[i]? = _; rw [g.hN]; exact of_decide_eq_true h1) (.inl hl) (he_ok g hz hf e _ v q h5) (notLcH_sw h3 _ _ _) (.inr hl)) (hs_ok g hz hf nd r _ _ d hh h6)) fun Dn σ H ⟨gm, A, z⟩ => ⟨gm, fun H' s => ⟨gm.set (of_decide_eq_true h4), A, fun v H'' s2 r => z v H'' (s.trans s2) r⟩⟩
    · cases hc
  | .nx, γ, ss, d, hh, hc => by cases hh
  | .ifF e r, γ, ss, d, hh, hc => by
    unfold hrun at hh
    unfold chHs at hc
    split at hc
    · obtain ⟨hc, h3⟩ := a2 hc
      obtain ⟨h1, h2⟩ := a2 hc
      split at hh
      · rename_i q
        exact pssI (pss_cons (ps_if ((ht_ok g hz hf e _ _ q h2).1 h1) pss_never pss_nil) (hs_ok g hz hf nd r γ _ d hh h3)) fun Dn σ H ⟨gm, A, z⟩ => ⟨gm, fun H' s => ⟨gm, A, fun v H'' s2 r => z v H'' (s.trans s2) r⟩⟩
      · cases hh
    · cases hc
theorem hs_fall (g : HGr c X t x n iE D) (hz : Zc (.ref D) none oe) (hf : ∃ vs, oe.data = .fields vs) : ∀ (h : Hs) (γ : Gm) (ss : List Stmt), hnx t x h γ = true → chHs c n iE h ss = true →
    PSs (X.suite a ((a, oe) :: pn)) ss (fun Dn σ H => GamE n γ iE a σ ∧ ∀ H', Same H H' → Dn.nx σ H')
  | .nx, γ, ss, hh, hc => by
    unfold chHs at hc
    split at hc
    · exact pssI pss_nil fun Dn σ H ⟨_, q⟩ => q H (Same.refl _)
    · cases hc
  | .ifF e r, γ, ss, hh, hc => by
    unfold hnx at hh
    unfold chHs at hc
    split at hc
    · obtain ⟨hc, h3⟩ := a2 hc
      obtain ⟨h1, h2⟩ := a2 hc
      split at hh
      · rename_i q
        exact pssI (pss_cons (ps_if ((ht_ok g hz hf e _ _ q h2).1 h1) pss_never pss_nil) (hs_fall g hz hf r γ _ hh h3)) fun Dn σ H ⟨gm, z⟩ => ⟨gm, fun H' s => ⟨gm, fun H'' s2 => z H'' (s.trans s2)⟩⟩
      · cases hh
    · cases hc
  | .ret e, γ, ss, hh, hc => nomatch hh
  | .retT e, γ, ss, hh, hc => nomatch hh
  | .retN, γ, ss, hh, hc => nomatch hh
  | .set i e r, γ, ss, hh, hc => nomatch hh
end
/-! ### try -/
def hEnv (n : Option Str) (i : Nat) (ρ : Env) : Env := match n with
  | none => ρ
  | some _ => ρ.set i none
def hSt (n : Option Str) (i : Nat) (σ : L2.St) : L2.St := match n with
  | none => σ
  | some _ => σ.set i none
def tryR (n : Option Str) (iE : Nat) (t : Itab) (x : Str) (h : Hs) (N : Nat) : SR → SR
  | .ex y ρ => if y = x then match hrun t x h (List.replicate N none) with
    | some d => .rt d
    | none => if hnx t x h (List.replicate N none) = true then .nx (hEnv n iE ρ) else .st
    else .st
  | r => r
theorem StO.gone {K : PySem.W.Frag} {F : Fm} {O : List (List Addr)} {σ : L2.St} {H : Hp} {ρ : Env} (h : StO K F O σ H ρ) (x : Option V) (i : Nat) : StO K F (O.set i []) (σ.set i x) H (ρ.set i none) :=
  ⟨(h.env.gone x i).subTo (fun a z => by
      rcases List.mem_append.mp z with z | z
      · exact List.mem_append_left _ z
      · exact List.mem_append_right _ (mem_set_none z)) fun a ha => List.mem_append_right _ ha, h.but, fun a ha => h.own a (mem_set_none ha)⟩
theorem StO.hgone {K : PySem.W.Frag} {F : Fm} {O : List (List Addr)} {σ : L2.St} {H : Hp} {ρ : Env} (h : StO K F O σ H ρ) : ∀ (n : Option Str) (i : Nat), ∃ O', StO K F O' (hSt n i σ) H (hEnv n i ρ)
  | none, _ => ⟨O, h⟩
  | some _, i => ⟨_, h.gone none i⟩
theorem ok_tr {c : Ctx} {X : Cx} {Φ : Calls} (ok : Ok c X Φ) (pn : List (Addr × Obj)) (xe : Value → Shared → Prop) : Ok c (X.tr pn xe) Φ :=
  ⟨ok.hN, ok.nd, ok.sc, ok.calm, ok.hu, ok.blt, ok.gl, ok.fns, ok.exc, ok.isx, ok.stk, ok.cok⟩
theorem s_try {c : Ctx} {t : Itab} {x : Str} {n : Option Str} {iE : Nat} {h : Hs} {body suite : List Stmt} {b₀ : Stmt} {f : EvS} {np pos pos' : Pos} (hb : SSs c body f) (ht : ∀ q ∈ t, q ∈ c.isx) (hx : isxL t x x = some true) (hg : glB c x = true)
    (hn : ∀ m, n = some m → nmB c iE m = true ∧ c.sc.names.lookup m = some .local) (hc : chHs c n iE h (b₀ :: suite) = true) :
    SS c (.Try body [.ExceptHandler (some (.Name x np)) n (b₀ :: suite) pos'] [] [] pos) (fun Φ ρ => tryR n iE t x h c.N.length (f Φ ρ)) := fun X Φ W ok tk hp => by
  have hm := ht _ (isxL_mem hx)
  obtain ⟨D, k, u, m1, ec, ty, sb, -, -⟩ := ok.isx _ _ _ hm
  have g : HGr c X t x n iE D := ⟨ok.hN, ok.sc, ok.blt, fun y b z => ok.isx _ _ _ (ht _ z), m1, ec, fun m e => (hn m e).1⟩
  obtain ⟨hs, hf⟩ := ok.stk (fun z => by rw [z] at hm; cases hm)
  have hN : Names X x (.ref D) := ⟨gl_of ok (glB_ok hg).1, (glB_ok hg).2, .inl m1⟩
  have em : PySem.W.exmOne X.K (.ref D) (.ref D) = some true := PySem.W.exm_ref ec.hs ec.hd ty sb
  have nd : X.N.Nodup := by rw [ok.hN]; exact ok.nd
  let γ0 : Gm := List.replicate c.N.length none
  let ts : Addr → Value → Option Addr → TS := fun a cls d Dn σ H => cls = .ref D ∧ d = none ∧ (∀ m, n = some m → ∃ σ0, σ = List.set σ0 iE (some (V.ref a))) ∧
    ((∃ dd A, hrun t x h γ0 = some dd ∧ ∀ v H', Same H H' → Rp X.K H' A v dd → Dn.rt v H') ∨ (hnx t x h γ0 = true ∧ ∀ H', Same H H' → Dn.nx σ H'))
  have hsu : ∀ (a : Addr) (oe : Obj) (cls : Value) (d : Option Addr) (pn : List (Addr × Obj)), Zc cls d oe → (∃ vs, oe.data = .fields vs) → PSs (X.suite a ((a, oe) :: pn)) (b₀ :: suite) (ts a cls d) := fun a oe cls d pn hz hf => ⟨fun pins s σ H Dn I ⟨e1, e2, e3, q⟩ => by
    subst e1 e2
    have hl : σ.length = c.N.length := by rw [← ok.hN]; exact I.len
    have gm : GamE n γ0 iE a σ := by
      refine ⟨fun i v e => ?_, fun m em => ?_, by rw [hl, List.length_replicate]⟩
      · rw [List.getElem?_replicate] at e
        split at e <;> cases e
      · obtain ⟨σ0, rfl⟩ := e3 m em
        rw [List.length_set] at hl
        have hi := (List.getElem?_eq_some_iff.mp (nmB_ok (hn m em).1).1).1
        rw [List.getElem?_set, if_pos rfl, if_pos (by omega)]
    rcases q with ⟨dd, A, hr, q⟩ | ⟨hr, q⟩
    · exact (hs_ok g hz hf nd h _ _ dd hr hc).run pins s σ H Dn I ⟨gm, A, q⟩
    · exact (hs_fall g hz hf h _ _ hr hc).run pins s σ H Dn I ⟨gm, q⟩⟩
  have rd : ∀ {W' : WX} {Dn : Ends} {F : Fm} {r : SR}, RtS X.K X.mg W F Dn (tryR n iE t x h c.N.length r) → (∀ σ H, ((∃ dd A, hrun t x h γ0 = some dd ∧ ∀ v H', Same H H' → Rp X.K H' A v dd → Dn.rt v H') ∨ (hnx t x h γ0 = true ∧ ∀ H', Same H H' → Dn.nx (hSt n iE σ) H')) → W' (.ref D) none σ H) → RtS X.K X.mg W' F Dn r := fun {W' Dn F r} q w => by
    cases r with
    | ex y ρ =>
      have q : RtS X.K X.mg W F Dn (if y = x then (match hrun t x h γ0 with | some d => .rt d | none => if hnx t x h γ0 = true then .nx (hEnv n iE ρ) else .st) else .st) := q
      by_cases e : y = x
      · subst e
        rw [if_pos rfl] at q
        cases hd : hrun t y h γ0 with
        | none =>
          rw [hd] at q
          by_cases hq : hnx t y h γ0 = true
          · have q : RtS X.K X.mg W F Dn (if hnx t y h γ0 = true then .nx (hEnv n iE ρ) else .st) := q
            rw [if_pos hq] at q
            have q : ∀ σ H O, StO X.K F O σ H (hEnv n iE ρ) → Dn.nx σ H := q
            intro C σ H O hs hC
            rw [m1] at hC
            cases hC
            refine w σ H (.inr ⟨hq, fun H' s => ?_⟩)
            obtain ⟨O', z⟩ := (hs.same s).hgone n iE
            exact q _ _ _ z
          · have q : RtS X.K X.mg W F Dn (if hnx t y h γ0 = true then .nx (hEnv n iE ρ) else .st) := q
            rw [if_neg hq] at q
            exact False.elim q
        | some dd =>
          rw [hd] at q
          have q : ∀ v H, But F.B0 F.H0 H → Rp X.K H F.A0 v dd → Dn.rt v H := q
          intro C σ H O hs hC
          rw [m1] at hC
          cases hC
          exact w σ H (.inl ⟨dd, F.A0, hd, fun v H' s r => q v H' (hs.but.trans (But.of_same s)) r⟩)
      · rw [if_neg e] at q
        exact False.elim q
    | _ => exact q
  cases n with
  | none => exact psI (ps_try_only (tb := fun W => tS X.K X.mg W (f Φ)) hs hf hN tk (fun W pn xe tk hp => hb _ Φ W (ok_tr ok pn xe) tk hp) hsu) fun Dn σ H ⟨F, O, ρ, hF, hst, q⟩ => ⟨F, O, ρ, hF, hst, rd q fun σ H z => ⟨true, em, fun _ a na => ⟨rfl, rfl, fun m e => (nomatch e), z⟩, fun z => nomatch z⟩⟩
  | some m => exact psI (ps_try_as (tb := fun W => tS X.K X.mg W (f Φ)) (i := iE) hs hf nd (by rw [ok.hN]; exact (nmB_ok (hn m rfl).1).1) (by unfold Env.kindOf; rw [ok.sc]; exact (hn m rfl).2) hN tk (fun W pn xe tk hp => hb _ Φ W (ok_tr ok pn xe) tk hp) hsu) fun Dn σ H ⟨F, O, ρ, hF, hst, q⟩ => ⟨F, O, ρ, hF, hst, rd q fun σ H z => ⟨true, em, fun _ a na => ⟨rfl, rfl, fun m e => ⟨σ, rfl⟩, by
      rcases z with z | ⟨z1, z2⟩
      · exact .inl z
      · refine .inr ⟨z1, fun H' s => ?_⟩
        show Dn.nx ((σ.set iE (some (V.ref a))).set iE none) H'
        rw [List.set_set]
        exact z2 H' s⟩, fun z => nomatch z⟩⟩
end Pv

end
section
namespace Pv
open PySem PySem.Spec PyProof.Rows L2

/-! ### statements -/
mutual
inductive S where
  | pass | brk | cont
  | ret (e : E) | expr (e : E)
  | ifs (t : E) (a b : Ss)
  | set (i : Nat) (is : List Nat) (e : E)
  | setF (i : Nat) (is : List Nat) (e : E)
  | asg (is : List Nat) (t : Tg) (e : E)
  | fors (is : List Nat) (t : Tg) (it : It) (b : Ss)
  | whl (t : E) (b : Ss)
  | app (i : Nat) (is : List Nat) (e : E)
  | ext (i : Nat) (is : List Nat) (e : E)
  | rem (i : Nat) (is : List Nat) (e : E)
  | sto (i : Nat) (is : List Nat) (k e : E)
  | setD (i : Nat) (is : List Nat) (e : E)
  | stoD (i : Nat) (is : List Nat) (k e : E)
  | forD (t : Tg) (j : Nat) (b : Ss)
  | pop (i : Nat) (t : Tg)
  | popAt (i : Nat) (is : List Nat) (e : E)
  | ins (i : Nat) (is : List Nat) (k e : E)
  | setNL (i : Nat) (is : List Nat) (own : List Nat) (t : Tg) (it : It)
  | setND (i : Nat) (is : List Nat) (own : List Nat) (t : Tg) (it : It) (k : E)
  | appN (i : Nat) (is : List Nat) (k e : E)
  | dis (is : List Nat) (s : S)
  | rais (x : Str)
  | tryx (x : Str) (n : Option Str) (iE N : Nat) (t : Itab) (h : Hs) (b : Ss)
inductive Ss where
  | nil | cons (s : S) (ss : Ss)
end
mutual
def ex : S → EvS
  | .pass => fun _ ρ => .nx ρ
  | .brk => fun _ ρ => .bk ρ
  | .cont => fun _ ρ => .ct ρ
  | .ret e => fun Φ ρ => onE (ev e Φ (clr ρ)) ρ .rt
  | .expr e => fun Φ ρ => onE (ev e Φ ρ) ρ fun _ => .nx ρ
  | .ifs t a b => fun Φ ρ => onE (ev t Φ ρ) ρ fun d => match d with | .bool k => if k then exs a Φ ρ else exs b Φ ρ | _ => .st
  | .set i is e => fun Φ ρ => onE (ev e Φ (dis is ρ)) (dis is ρ) fun d => .nx ((dis is ρ).set i (some (false, d)))
  | .setF i is e => fun Φ ρ => stF i (ev e Φ (dis is ρ)) (dis is ρ)
  | .asg is t e => fun Φ ρ => onE (ev e Φ (dis is ρ)) (dis is ρ) fun d => asgS t d (dis is ρ) .nx
  | .fors is t it b => fun Φ ρ => onE (evi it Φ (dis is ρ)) (dis is ρ) fun ds => forL t (exs b Φ) ds (dis is ρ)
  | .whl t b => fun Φ ρ => whileN (ev t Φ) (exs b Φ) FUEL ρ
  | .app i is e => fun Φ ρ => apS i (dis is ρ) (ev e Φ (dis is ρ))
  | .ext i is e => fun Φ ρ => exS i (dis is ρ) (ev e Φ (dis is ρ))
  | .rem i is e => fun Φ ρ => remS i (dis is ρ) (ev e Φ (dis is ρ))
  | .sto i is k e => fun Φ ρ => setS i (dis is ρ) (ev e Φ (dis is ρ)) (ev k Φ (dis is ρ))
  | .setD i is e => fun Φ ρ => stD i (ev e Φ (dis is ρ)) (dis is ρ)
  | .stoD i is k e => fun Φ ρ => setSD i (dis is ρ) (ev e Φ (dis is ρ)) (ev k Φ (dis is ρ))
  | .forD t j b => fun Φ ρ => forD t j (exs b Φ) ρ
  | .pop i t => fun _ ρ => popS i t ρ
  | .popAt i is e => fun Φ ρ => popAtS i (Pv.dis is ρ) (ev e Φ (Pv.dis is ρ))
  | .ins i is k e => fun Φ ρ => insS i (Pv.dis is ρ) (ev k Φ (Pv.dis is ρ)) (ev e Φ (Pv.dis is ρ))
  | .setNL i is own t it => fun Φ ρ => stNL i own t (evi it) Φ (Pv.dis is ρ)
  | .setND i is own t it k => fun Φ ρ => stND i own t (evi it) (ev k) Φ (Pv.dis is ρ)
  | .appN i is k e => fun Φ ρ => appNS i (Pv.dis is ρ) (ev k Φ (Pv.dis is ρ)) (ev e Φ (Pv.dis is ρ))
  | .dis is s => fun Φ ρ => ex s Φ (Pv.dis is ρ)
  | .rais x => fun _ ρ => .ex x ρ
  | .tryx x n iE N t h b => fun Φ ρ => tryR n iE t x h N (exs b Φ ρ)
def exs : Ss → EvS
  | .nil => fun _ ρ => .nx ρ
  | .cons s ss => fun Φ ρ => (ex s Φ ρ).seq (exs ss Φ)
end

def notLc : Expr → Bool
  | .ListComp .. => false
  | .SetComp .. => false
  | .DictComp .. => false
  | _ => true
theorem notLc_sw {e : Expr} (h : notLc e = true) (t : Option Expr) (l : Nat) (env : PySem.Env) : swapsWith e t l env = pure false := by
  cases e <;> first
    | (cases h; done)
    | rfl
def swL (c : Ctx) (t : Str) (tp vp : Pos) (scope : Scope) : Bool :=
  (if c.sc.kind.isAnnotationScope then ScopeKind.function else c.sc.kind) == .function && c.sc.names.lookup t == some .local && tp.line == vp.line && !(scope.names.any fun (n, k) => n == t && (k == .local || k == .cell))
theorem swL_eq {c : Ctx} {t : Str} {tp vp : Pos} {scope : Scope} {elt : Expr} {gs : List Comprehension} {l : Nat} : ∀ env : PySem.Env, env.scope = c.sc → swapsWith (.ListComp elt gs scope vp) (some (.Name t tp)) l env = pure (swL c t tp vp scope) := fun env h => by
  unfold swL
  rw [← h]
  rfl
def isTupE : Expr → Bool
  | .Tuple .. => true
  | .List .. => true
  | _ => false
theorem notTup_ws {tg e : Expr} (h : isTupE e = false) : ∀ env : PySem.Env, swappedStores [tg] e env = pure none := fun env => by
  cases e <;> first
    | (cases h; done)
    | (cases tg <;> rfl)
def notNameT : Expr → Bool
  | .Tuple .. => true
  | _ => false
theorem sole_sw {tg e : Expr} (h2 : notLc e = true) (l : Nat) (env : PySem.Env) : swapsWithSole [tg] e l env = pure false := notLc_sw h2 _ _ _
theorem sub_sw {a j e : Expr} {p : Pos} (l : Nat) (env : PySem.Env) : swapsWithSole [.Subscript a j p] e l env = pure false := by
  cases e <;> rfl
theorem notName_sw {tg e : Expr} (h : notNameT tg = true) (h2 : notLc e = true) (l : Nat) (env : PySem.Env) : swapsWithSole [tg] e l env = pure false := notLc_sw h2 _ _ _
/-! expressions that give a new list -/
def chkF (x : E) (c : Ctx) (e : Expr) : Bool := match x with
  | .lst es => match e with
    | .List xs _ => chks es .v c xs
    | _ => false
  | .bin op a b => match e with
    | .BinOp x o y _ => decide (op = o) && chk a .b c x && chk b .b c y
    | _ => false
  | .blt .list es => match e with
    | .Call (.Name x _) (y :: ys) [] _ => decide (x = ("list" : Str)) && bltB c x && notStar y && ys.all notStar && chks es .b c (y :: ys)
    | _ => false
  | .lc own t it cond elt => match e with
    | .ListComp x [⟨tg, iter, ifs, 0⟩] scope _ => notSet iter && blkB c.N c.sc scope (ownN c own) && slB t own && chkG t (c.blk scope) tg && chki it true c tg iter && chkc cond (c.blk scope) ifs && chk elt .v (c.blk scope) x
    | _ => false
  | .split a b => match e with
    | .Call (.Attribute (.Name x p) k ap) [y] [] cp => decide (k = ("split" : Str)) && (ap.endLine == cp.line) && notStar y && chk a .b c (.Name x p) && chk b .b c y
    | _ => false
  | _ => false
theorem chkF_ok (x : E) (c : Ctx) (e : Expr) (h : chkF x c e = true) : SF c e (ev x) := by
  cases x <;> first
    | (cases h; done)
    | skip
  case lst es =>
    cases e <;> first
      | (cases h; done)
      | exact sf_lst (chks_ok es .v c _ h)
  case bin op a b =>
    cases e <;> first
      | (cases h; done)
      | (obtain ⟨h1, h3⟩ := a2 h
         obtain ⟨h1, h2⟩ := a2 h1
         have := of_decide_eq_true h1
         subst this
         exact sf_bin (chk_ok a .b c _ h2) (chk_ok b .b c _ h3))
  case blt k es =>
    cases k <;> first
      | (cases h; done)
      | skip
    cases e with
    | Call f as ks p =>
      match f, as, ks, h with
      | .Name x p2, y :: ys, [], h =>
        obtain ⟨h1, h5⟩ := a2 h
        obtain ⟨h1, h4⟩ := a2 h1
        obtain ⟨h1, h3⟩ := a2 h1
        obtain ⟨h1, h2⟩ := a2 h1
        have e1 := of_decide_eq_true h1
        subst e1
        exact sf_list (bltB_ok h2).1 (bltB_ok h2).2 (chks_ok es .b c _ h5) h3 h4
    | _ => cases h
  case split a b =>
    cases e with
    | Call f as ks p =>
      match f, as, ks, h with
      | .Attribute (.Name x p2) k ap, [y], [], h =>
        obtain ⟨h1, h5⟩ := a2 h
        obtain ⟨h1, h4⟩ := a2 h1
        obtain ⟨h1, h3⟩ := a2 h1
        obtain ⟨h1, h2⟩ := a2 h1
        have e1 := of_decide_eq_true h1
        subst e1
        exact sf_split (chk_ok a .b c _ h4) (chk_ok b .b c _ h5) h3 h2
    | _ => cases h
  case lc own t it cond elt =>
    cases e with
    | ListComp x gs scope p =>
      match gs, h with
      | [⟨tg, iter, ifs, 0⟩], h =>
        obtain ⟨h1, h7⟩ := a2 h
        obtain ⟨h1, h6⟩ := a2 h1
        obtain ⟨h1, h5⟩ := a2 h1
        obtain ⟨h1, h4⟩ := a2 h1
        obtain ⟨h1, h3⟩ := a2 h1
        obtain ⟨h1, h2⟩ := a2 h1
        have ow := ownN_snd c own
        have := sf_lc (pos := p) true (chki_ok it true c tg _ h5) (blkB_ok h2) (chkG_ok t _ _ h4) (by rw [ow]; exact slB_ok h3) (chkc_ok cond _ _ h6) (chk_ok elt .v _ _ h7) (notSet_fold h1)
        rw [ow] at this
        exact this
    | _ => cases h
theorem chkF_lc {x : E} {c : Ctx} {y : Expr} {gs : List Comprehension} {scope : Scope} {p : Pos} (h : chkF x c (.ListComp y gs scope p) = true) : ∃ own t it cond elt, x = .lc own t it cond elt := by
  cases x with
  | lc own t it cond elt => exact ⟨_, _, _, _, _, rfl⟩
  | blt k es => cases k <;> cases h
  | _ => cases h
def swD (c : Ctx) (t : Str) (tp vp : Pos) (scope : Scope) : Bool := swL c t tp vp scope
theorem swD_eq {c : Ctx} {t : Str} {tp vp : Pos} {scope : Scope} {kx vx : Expr} {gs : List Comprehension} {l : Nat} : ∀ env : PySem.Env, env.scope = c.sc → swapsWith (.DictComp kx vx gs scope vp) (some (.Name t tp)) l env = pure (swD c t tp vp scope) := fun env h => by
  unfold swD swL
  rw [← h]
  rfl
/-! expressions that give a new dict -/
def chkFd (x : E) (c : Ctx) (e : Expr) : Bool := match x with
  | .dnil => match e with
    | .Dict [] [] _ => true
    | _ => false
  | .dcp a => match e with
    | .Call (.Name n _) [x] [] _ => decide (n = ("dict" : Str)) && bltB c ("dict" : Str) && notStar x && chk a .b c x
    | _ => false
  | .dd2 x y a b => match e with
    | .Dict [some (.Constant (.str u) _ _), some (.Constant (.str v) _ _)] [p, q] _ => decide (x = u) && decide (y = v) && chk a .v c p && chk b .v c q
    | _ => false
  | .dc own t it cond k v => match e with
    | .DictComp x y [⟨tg, iter, ifs, 0⟩] scope _ => notSet iter && blkB c.N c.sc scope (ownN c own) && slB t own && chkG t (c.blk scope) tg && chki it true c tg iter && chkc cond (c.blk scope) ifs && chk k .v (c.blk scope) x && chk v .v (c.blk scope) y
    | _ => false
  | _ => false
theorem chkFd_ok (x : E) (c : Ctx) (e : Expr) (h : chkFd x c e = true) : SFd c e (ev x) := by
  cases x <;> first
    | (cases h; done)
    | skip
  case dnil =>
    cases e with
    | Dict ks vs p =>
      match ks, vs, h with
      | [], [], h => exact sfd_nil
    | _ => cases h
  case dcp a =>
    cases e with
    | Call f as ks p =>
      match f, as, ks, h with
      | .Name n p2, [x], [], h =>
        obtain ⟨h1, h4⟩ := a2 h
        obtain ⟨h1, h3⟩ := a2 h1
        obtain ⟨h1, h2⟩ := a2 h1
        have := of_decide_eq_true h1
        subst this
        exact sfd_copy (bltB_ok h2).1 (bltB_ok h2).2 (chk_ok a .b c _ h4) h3
    | _ => cases h
  case dd2 x y a b =>
    cases e with
    | Dict ks vs p =>
      match ks, vs, h with
      | [some (.Constant (.str u) _ _), some (.Constant (.str v) _ _)], [k, l], h =>
        obtain ⟨h1, h4⟩ := a2 h
        obtain ⟨h1, h3⟩ := a2 h1
        obtain ⟨h1, h2⟩ := a2 h1
        have e1 := of_decide_eq_true h1
        have e2 := of_decide_eq_true h2
        subst e1 e2
        exact sfd_dd2 (chk_ok a .v c _ h3) (chk_ok b .v c _ h4)
    | _ => cases h
  case dc own t it cond k v =>
    cases e with
    | DictComp x y gs scope p =>
      match gs, h with
      | [⟨tg, iter, ifs, 0⟩], h =>
        obtain ⟨h1, h8⟩ := a2 h
        obtain ⟨h1, h7⟩ := a2 h1
        obtain ⟨h1, h6⟩ := a2 h1
        obtain ⟨h1, h5⟩ := a2 h1
        obtain ⟨h1, h4⟩ := a2 h1
        obtain ⟨h1, h3⟩ := a2 h1
        obtain ⟨h1, h2⟩ := a2 h1
        have ow := ownN_snd c own
        have := sfd_dc (pos := p) true (chki_ok it true c tg _ h5) (blkB_ok h2) (chkG_ok t _ _ h4) (by rw [ow]; exact slB_ok h3) (chkc_ok cond _ _ h6) (chk_ok k .v _ _ h7) (chk_ok v .v _ _ h8) (notSet_fold h1)
        rw [ow] at this
        exact this
    | _ => cases h
theorem chkFd_dc {x : E} {c : Ctx} {y z : Expr} {gs : List Comprehension} {scope : Scope} {p : Pos} (h : chkFd x c (.DictComp y z gs scope p) = true) : ∃ own t it cond k v, x = .dc own t it cond k v := by
  cases x with
  | dc own t it cond k v => exact ⟨_, _, _, _, _, _, rfl⟩
  | _ => cases h
def okNm (c : Ctx) (iE : Nat) : Option Str → Bool
  | none => true
  | some m => nmB c iE m && decide (c.sc.names.lookup m = some .local)
theorem okNm_ok {c : Ctx} {iE : Nat} {n : Option Str} (h : okNm c iE n = true) : ∀ m, n = some m → nmB c iE m = true ∧ c.sc.names.lookup m = some .local := fun m e => by
  subst e
  exact ⟨(a2 h).1, of_decide_eq_true (a2 h).2⟩
/-- x = [[] for t in it] -/
theorem s_setNL {c : Ctx} {tg iter : Expr} {fi : EvL} {pos pos' pl spos : Pos} {i : Nat} {x : Str} {scope : Scope} {own : List (Str × Nat)} {t : Tg} (bor : Bool) (is : List Nat) (hi' : c.N[i]? = some x) (hx : LocC c x)
    (hi : SI bor c tg iter fi) (bo : BlkOk c.N c.sc scope own) (hg : SG (c.blk scope) tg t) (ht : ∀ i ∈ t.slots, i ∈ own.map (·.2)) (hs : ∀ env x, foldedSetIterable iter env x = pure x) :
    SS c (.Assign [.Name x pos'] (.ListComp (.List [] pl) [⟨tg, iter, [], 0⟩] scope pos) spos) (fun Φ ρ => stNL i (own.map (·.2)) t fi Φ (Pv.dis is ρ)) := fun X Φ W ok tk hp => by
  have hL : ∀ (s : Shared) (H : Hp) (C : Addr) (cl : List (Str × Addr)) (fp : List Addr), PE (X.blk s H scope (compEnvC scope cl C X.env) fp) (.List [] pl) (tLst tNil) := fun s H C cl fp => pe_lst pa_nil
  by_cases hw : swL c x pos' pos scope = true
  · have hloc : c.sc.names.lookup x = some .local := by
      have hw2 := hw
      unfold swL at hw2
      exact beq_iff_eq.mp (a2 (a2 (a2 hw2).1).1).2
    exact psI (ps_setLc (i := i) ok.calm (by rw [ok.hN]; exact ok.nd) (by rw [ok.hN]; exact hi') (by rw [ok.sc]; exact hloc) (by rw [swL_eq X.env ok.sc, hw]) (hi X Φ W ok tk) (by rw [ok.hN, ok.sc]; exact bo)
      (fun s H C cl fp => hg _ Φ (ok_blk ok bo s H C cl fp)) (fun s H C cl fp => pts_nil) hL (hs _)) fun Dn σ H ⟨F, O, ρ, hF, hs, q⟩ => by
        obtain ⟨O', hs'⟩ := hs.dis hF is
        exact stNL_read ht hF hs' q
  · exact psI (ps_set (i := i) (by rw [ok.hN]; exact ok.nd) (by rw [ok.hN]; exact hi') (hx.loc ok).1 (pe_lc ok.calm (by rw [ok.hN]; exact ok.nd) (hi X Φ W ok tk) (by rw [ok.hN, ok.sc]; exact bo)
      (fun s H C cl fp => hg _ Φ (ok_blk ok bo s H C cl fp)) (fun s H C cl fp => pts_nil) hL (hs _)) (by rw [swL_eq X.env ok.sc, Bool.eq_false_iff.mpr hw]) (hx.loc ok).2) fun Dn σ H ⟨F, O, ρ, hF, hs, q⟩ => by
        obtain ⟨O', hs'⟩ := hs.dis hF is
        exact stNL_read ht hF hs' q
/-- x = {k: [] for t in it} -/
theorem s_setND {c : Ctx} {tg iter kx : Expr} {fi : EvL} {fk : EvE} {pos pos' pl spos : Pos} {i : Nat} {x : Str} {scope : Scope} {own : List (Str × Nat)} {t : Tg} (bor : Bool) (is : List Nat) (hi' : c.N[i]? = some x) (hx : LocC c x)
    (hi : SI bor c tg iter fi) (bo : BlkOk c.N c.sc scope own) (hg : SG (c.blk scope) tg t) (ht : ∀ i ∈ t.slots, i ∈ own.map (·.2)) (hk : SE (c.blk scope) kx fk) (hs : ∀ env x, foldedSetIterable iter env x = pure x) :
    SS c (.Assign [.Name x pos'] (.DictComp kx (.List [] pl) [⟨tg, iter, [], 0⟩] scope pos) spos) (fun Φ ρ => stND i (own.map (·.2)) t fi fk Φ (Pv.dis is ρ)) := fun X Φ W ok tk hp => by
  have hL : ∀ (s : Shared) (H : Hp) (C : Addr) (cl : List (Str × Addr)) (fp : List Addr), PE (X.blk s H scope (compEnvC scope cl C X.env) fp) (.List [] pl) (tLst tNil) := fun s H C cl fp => pe_lst pa_nil
  by_cases hw : swD c x pos' pos scope = true
  · have hloc : c.sc.names.lookup x = some .local := by
      have hw2 := hw
      unfold swD swL at hw2
      exact beq_iff_eq.mp (a2 (a2 (a2 hw2).1).1).2
    exact psI (ps_setDc (i := i) ok.calm (by rw [ok.hN]; exact ok.nd) (by rw [ok.hN]; exact hi') (by rw [ok.sc]; exact hloc) (by rw [swD_eq X.env ok.sc, hw]) (hi X Φ W ok tk) (by rw [ok.hN, ok.sc]; exact bo)
      (fun s H C cl fp => hg _ Φ (ok_blk ok bo s H C cl fp)) (fun s H C cl fp => pts_nil) (fun s H C cl fp => hk _ Φ W0 (ok_blk ok bo s H C cl fp) takes0) hL (hs _)) fun Dn σ H ⟨F, O, ρ, hF, hs, q⟩ => by
        obtain ⟨O', hs'⟩ := hs.dis hF is
        exact stND_read ht hF hs' q
  · exact psI (ps_set (i := i) (by rw [ok.hN]; exact ok.nd) (by rw [ok.hN]; exact hi') (hx.loc ok).1 (pe_dc ok.calm (by rw [ok.hN]; exact ok.nd) (hi X Φ W ok tk) (by rw [ok.hN, ok.sc]; exact bo)
      (fun s H C cl fp => hg _ Φ (ok_blk ok bo s H C cl fp)) (fun s H C cl fp => pts_nil) (fun s H C cl fp => hk _ Φ W0 (ok_blk ok bo s H C cl fp) takes0) hL (hs _)) (by rw [swD_eq X.env ok.sc, Bool.eq_false_iff.mpr hw]) (hx.loc ok).2) fun Dn σ H ⟨F, O, ρ, hF, hs, q⟩ => by
        obtain ⟨O', hs'⟩ := hs.dis hF is
        exact stND_read ht hF hs' q
mutual
def chS : S → Ctx → Stmt → Bool
  | .pass, _, s => match s with
    | .Pass _ => true
    | _ => false
  | .brk, _, s => match s with
    | .Break _ => true
    | _ => false
  | .cont, _, s => match s with
    | .Continue _ => true
    | _ => false
  | .ret e, c, s => match s with
    | .Return (some x) _ => chk e .v c x
    | _ => false
  | .expr e, c, s => match s with
    | .Expr x _ => notLc x && chk e .v c x
    | _ => false
  | .forD t j b, c, s => match s with
    | .For tg (.Name x _) body [] _ => nmB c j x && chkG t c tg && chSs b c body
    | _ => false
  | .pop i t, c, s => match s with
    | .Assign [tg] (.Call (.Attribute (.Name x _) m ap) [] [] cp) _ => decide (m = ("pop" : Str)) && nmB c i x && (ap.endLine == cp.line) && notStar tg && chkG t c tg
    | _ => false
  | .popAt i is e, c, s => match s with
    | .Expr (.Call (.Attribute (.Name x _) m ap) [v] [] cp) _ => decide (m = ("pop" : Str)) && nmB c i x && (ap.endLine == cp.line) && notStar v && chk e .v c v
    | _ => false
  | .ins i is k e, c, s => match s with
    | .Expr (.Call (.Attribute (.Name x _) m ap) [j, v] [] cp) _ => decide (m = ("insert" : Str)) && nmB c i x && (ap.endLine == cp.line) && notStar j && notStar v && chk k .v c j && chk e .v c v
    | _ => false
  | .setNL i is own t it, c, s => match s with
    | .Assign [.Name x tp] (.ListComp (.List [] _) [⟨tg, iter, [], 0⟩] scope vp) _ => decide (c.N[i]? = some x) && locB c x && notSet iter && blkB c.N c.sc scope (ownN c own) && slB t own && chkG t (c.blk scope) tg && chki it true c tg iter
    | _ => false
  | .setND i is own t it k, c, s => match s with
    | .Assign [.Name x tp] (.DictComp kx (.List [] _) [⟨tg, iter, [], 0⟩] scope vp) _ => decide (c.N[i]? = some x) && locB c x && notSet iter && blkB c.N c.sc scope (ownN c own) && slB t own && chkG t (c.blk scope) tg && chki it true c tg iter && chk k .v (c.blk scope) kx
    | _ => false
  | .appN i is k e, c, s => match s with
    | .Expr (.Call (.Attribute (.Subscript (.Name x _) j _) m ap) [v] [] cp) _ => decide (m = ("append" : Str)) && nmB c i x && (ap.endLine == cp.line) && plainIx j && notStar v && chk k .v c j && chk e .v c v
    | _ => false
  | .dis is a, c, s => chS a c s
  | .rais x, c, s => match s with
    | .Raise (some (.Call (.Name y _) [] [] _)) none _ => decide (y = x) && decide (x ∈ c.exc) && decide (c.sc.names.lookup x = some .globalImplicit) && !(x == ("__debug__" : Str))
    | _ => false
  | .tryx x n iE N t h b, c, s => match s with
    | .Try body [.ExceptHandler (some (.Name y _)) m (b₀ :: suite) _] [] [] _ => decide (y = x) && decide (m = n) && decide (N = c.N.length) && t.all (fun q => decide (q ∈ c.isx)) && decide (isxL t x x = some true) && glB c x && okNm c iE n && chHs c n iE h (b₀ :: suite) && chSs b c body
    | _ => false
  | .ifs t a b, c, s => match s with
    | .If x y z _ => chk t .t c x && chSs a c y && chSs b c z
    | _ => false
  | .set i is e, c, s => match s with
    | .Assign [.Name x _] v _ => decide (c.N[i]? = some x) && locB c x && notLc v && chk e .v c v
    | _ => false
  | .setF i is e, c, s => match s with
    | .Assign [.Name x tp] v _ => decide (c.N[i]? = some x) && locB c x && chkF e c v && (match v with
      | .ListComp _ _ scope vp => true
      | _ => notLc v)
    | _ => false
  | .asg is t e, c, s => match s with
    | .Assign [tg] v _ => notNameT tg && !isTupE v && notLc v && chk e .v c v && chkG t c tg
    | _ => false
  | .fors is t it b, c, s => match s with
    | .For tg iter body [] _ => notSet iter && chki it false c tg iter && chkG t c tg && chSs b c body
    | _ => false
  | .whl t b, c, s => match s with
    | .While x body [] _ => chk t .t c x && chSs b c body
    | _ => false
  | .app i is e, c, s => match s with
    | .Expr (.Call (.Attribute (.Name x _) m ap) [v] [] cp) _ => decide (m = ("append" : Str)) && nmB c i x && (ap.endLine == cp.line) && notStar v && chk e .v c v
    | _ => false
  | .ext i is e, c, s => match s with
    | .Expr (.Call (.Attribute (.Name x _) m ap) [v] [] cp) _ => decide (m = ("extend" : Str)) && nmB c i x && (ap.endLine == cp.line) && notStar v && chk e .v c v
    | _ => false
  | .rem i is e, c, s => match s with
    | .Expr (.Call (.Attribute (.Name x _) m ap) [v] [] cp) _ => decide (m = ("remove" : Str)) && nmB c i x && (ap.endLine == cp.line) && notStar v && chk e .v c v
    | _ => false
  | .sto i is k e, c, s => match s with
    | .Assign [.Subscript (.Name x _) j _] v _ => nmB c i x && true && plainIx j && true && chk k .v c j && chk e .v c v
    | _ => false
  | .setD i is e, c, s => match s with
    | .Assign [.Name x tp] v _ => decide (c.N[i]? = some x) && locB c x && chkFd e c v && (match v with
      | .DictComp _ _ _ scope vp => true
      | _ => notLc v)
    | _ => false
  | .stoD i is k e, c, s => match s with
    | .Assign [.Subscript (.Name x _) j _] v _ => nmB c i x && true && plainIx j && true && chk k .v c j && chk e .v c v
    | _ => false
def chSs : Ss → Ctx → List Stmt → Bool
  | .nil, _, s => match s with
    | [] => true
    | _ => false
  | .cons a as, c, s => match s with
    | [] => false
    | s :: ss => chS a c s && chSs as c ss
end
mutual
theorem chS_ok : ∀ (x : S) (c : Ctx) (s : Stmt), chS x c s = true → SS c s (ex x)
  | .pass, c, s, h => by
    cases s <;> first
      | (cases h; done)
      | exact s_pass
  | .brk, c, s, h => by
    cases s <;> first
      | (cases h; done)
      | exact s_brk
  | .cont, c, s, h => by
    cases s <;> first
      | (cases h; done)
      | exact s_cont
  | .ret e, c, s, h => by
    cases s with
    | Return v p =>
      cases v with
      | none => cases h
      | some v => exact s_ret (chk_ok e .v c v h)
    | _ => cases h
  | .expr e, c, s, h => by
    cases s <;> first
      | (cases h; done)
      | exact s_expr (chk_ok e .v c _ (a2 h).2) fun env _ => notLc_sw (a2 h).1 _ _ _
  | .rais x, c, s, h => by
    unfold chS at h
    split at h
    · obtain ⟨h1, h4⟩ := a2 h
      obtain ⟨h1, h3⟩ := a2 h1
      obtain ⟨h1, h2⟩ := a2 h1
      have e := of_decide_eq_true h1
      subst e
      exact s_raise (of_decide_eq_true h2) (of_decide_eq_true h3) (by simpa using h4)
    · cases h
  | .tryx x n iE N t hh b, c, s, h => by
    unfold chS at h
    split at h
    · obtain ⟨h, h9⟩ := a2 h
      obtain ⟨h, h8⟩ := a2 h
      obtain ⟨h, h7⟩ := a2 h
      obtain ⟨h, h6⟩ := a2 h
      obtain ⟨h, h5⟩ := a2 h
      obtain ⟨h, h4⟩ := a2 h
      obtain ⟨h, h3⟩ := a2 h
      obtain ⟨h1, h2⟩ := a2 h
      have e1 := of_decide_eq_true h1
      have e2 := of_decide_eq_true h2
      have e3 := of_decide_eq_true h3
      subst e1 e2 e3
      exact s_try (chSs_ok b c _ h9) (fun q hq => of_decide_eq_true (List.all_eq_true.mp h4 q hq)) (of_decide_eq_true h5) h6 (okNm_ok h7) h8
    · cases h
  | .ifs t a b, c, s, h => by
    cases s <;> first
      | (cases h; done)
      | (obtain ⟨h9, h3⟩ := a2 h
         obtain ⟨h1, h2⟩ := a2 h9
         exact s_if (chk_ok t .t c _ h1) (chSs_ok a c _ h2) (chSs_ok b c _ h3))
  | .set i is e, c, s, h => by
    cases s with
    | Assign ts v p =>
      match ts, h with
      | [.Name x tp], h =>
        obtain ⟨h9, h4⟩ := a2 h
        obtain ⟨h8, h3⟩ := a2 h9
        obtain ⟨h1, h2⟩ := a2 h8
        exact s_set is (of_decide_eq_true h1) (locB_ok h2) (chk_ok e .v c _ h4) fun env _ => notLc_sw h3 _ _ _
    | _ => cases h
  | .setF i is e, c, s, h => by
    cases s with
    | Assign ts v p =>
      match ts, h with
      | [.Name x tp], h =>
        obtain ⟨h9, h4⟩ := a2 h
        obtain ⟨h8, h3⟩ := a2 h9
        obtain ⟨h1, h2⟩ := a2 h8
        have hs := of_decide_eq_true h1
        by_cases hl : notLc v = true
        · exact s_setF is hs (locB_ok h2) (chkF_ok e c v h3) fun env _ => notLc_sw hl _ _ _
        · cases v with
          | ListComp y gs scope vp =>
            by_cases hw : swL c x tp vp scope = true
            · obtain ⟨own, t, it, cond, elt, rfl⟩ := chkF_lc h3
              match gs, h3 with
              | [⟨tg, iter, ifs, 0⟩], h =>
                obtain ⟨h1, h7⟩ := a2 h
                obtain ⟨h1, h6⟩ := a2 h1
                obtain ⟨h1, h5⟩ := a2 h1
                obtain ⟨h1, h4⟩ := a2 h1
                obtain ⟨h1, h3⟩ := a2 h1
                obtain ⟨h1, h2⟩ := a2 h1
                have ow := ownN_snd c own
                have hloc : c.sc.names.lookup x = some .local := by
                  have hw2 := hw
                  unfold swL at hw2
                  exact beq_iff_eq.mp (a2 (a2 (a2 hw2).1).1).2
                have := s_setLc (i := i) (pos' := tp) (spos := p) (pos := vp) true is hs hloc (fun env he => by rw [swL_eq env he, hw]) (chki_ok it true c tg _ h5) (blkB_ok h2) (chkG_ok t _ _ h4) (by rw [ow]; exact slB_ok h3) (chkc_ok cond _ _ h6) (chk_ok elt .v _ _ h7) (notSet_fold h1)
                rw [ow] at this
                exact this
            · exact s_setF is hs (locB_ok h2) (chkF_ok e c _ h3) fun env he => by
                rw [swL_eq env he, Bool.eq_false_iff.mpr hw]
          | _ => exact absurd h4 hl
    | _ => cases h
  | .asg is t e, c, s, h => by
    cases s with
    | Assign ts v p =>
      match ts, h with
      | [tg], h =>
        obtain ⟨h9, h5⟩ := a2 h
        obtain ⟨h8, h4⟩ := a2 h9
        obtain ⟨h7, h3⟩ := a2 h8
        obtain ⟨h1, h2⟩ := a2 h7
        have hv : isTupE v = false := by cases q : isTupE v with | false => rfl | true => rw [q] at h2; cases h2
        exact s_asg is (chkG_ok t c tg h5) (chk_ok e .v c v h4) (fun env _ => notName_sw h1 h3 _ _) (fun env _ => notTup_ws hv env) (by cases tg <;> first | (cases h1; done) | rfl)
    | _ => cases h
  | .fors is t it b, c, s, h => by
    cases s with
    | For tg iter body els p =>
      match els, h with
      | [], h =>
        obtain ⟨h9, h4⟩ := a2 h
        obtain ⟨h8, h3⟩ := a2 h9
        obtain ⟨h1, h2⟩ := a2 h8
        exact s_for is (chki_ok it false c tg iter h2) (chkG_ok t c tg h3) (chSs_ok b c body h4) (notSet_fold h1)
    | _ => cases h
  | .whl t b, c, s, h => by
    cases s with
    | While x body els p =>
      match els, h with
      | [], h =>
        obtain ⟨h1, h2⟩ := a2 h
        exact s_while (chk_ok t .t c x h1) (chSs_ok b c body h2)
    | _ => cases h
  | .app i is e, c, s, h => by
    cases s with
    | Expr y p =>
      match y, h with
      | .Call (.Attribute (.Name x p1) m ap) [v] [] cp, h =>
        obtain ⟨h9, h5⟩ := a2 h
        obtain ⟨h8, h4⟩ := a2 h9
        obtain ⟨h7, h3⟩ := a2 h8
        obtain ⟨h1, h2⟩ := a2 h7
        have e1 := of_decide_eq_true h1
        subst e1
        exact s_append is (nmB_ok h2).1 (nmB_ok h2).2.1 (nmB_ok h2).2.2.1 (nmB_ok h2).2.2.2 (chk_ok e .v c v h5) h4 h3
    | _ => cases h
  | .ext i is e, c, s, h => by
    cases s with
    | Expr y p =>
      match y, h with
      | .Call (.Attribute (.Name x p1) m ap) [v] [] cp, h =>
        obtain ⟨h9, h5⟩ := a2 h
        obtain ⟨h8, h4⟩ := a2 h9
        obtain ⟨h7, h3⟩ := a2 h8
        obtain ⟨h1, h2⟩ := a2 h7
        have e1 := of_decide_eq_true h1
        subst e1
        exact s_extend is (nmB_ok h2).1 (nmB_ok h2).2.1 (nmB_ok h2).2.2.1 (nmB_ok h2).2.2.2 (chk_ok e .v c v h5) h4 h3
    | _ => cases h
  | .rem i is e, c, s, h => by
    cases s with
    | Expr y p =>
      match y, h with
      | .Call (.Attribute (.Name x p1) m ap) [v] [] cp, h =>
        obtain ⟨h9, h5⟩ := a2 h
        obtain ⟨h8, h4⟩ := a2 h9
        obtain ⟨h7, h3⟩ := a2 h8
        obtain ⟨h1, h2⟩ := a2 h7
        have e1 := of_decide_eq_true h1
        subst e1
        exact s_remove is (nmB_ok h2).1 (nmB_ok h2).2.1 (nmB_ok h2).2.2.1 (nmB_ok h2).2.2.2 (chk_ok e .v c v h5) h4 h3
    | _ => cases h
  | .sto i is k e, c, s, h => by
    cases s with
    | Assign ts v p =>
      match ts, h with
      | [.Subscript (.Name x p1) j p2], h =>
        obtain ⟨h10, h6⟩ := a2 h
        obtain ⟨h9, h5⟩ := a2 h10
        obtain ⟨h8, h4⟩ := a2 h9
        obtain ⟨h7, h3⟩ := a2 h8
        obtain ⟨h1, h2⟩ := a2 h7
        exact s_store is (nmB_ok h1).1 (nmB_ok h1).2.1 (nmB_ok h1).2.2.1 (nmB_ok h1).2.2.2 (chk_ok e .v c v h6) (chk_ok k .v c j h5) (fun env => sub_sw _ env) (by cases j <;> first | (cases h3; done) | exact fun _ _ => rfl)
    | _ => cases h
  | .setD i is e, c, s, h => by
    cases s with
    | Assign ts v p =>
      match ts, h with
      | [.Name x tp], h =>
        obtain ⟨h9, h4⟩ := a2 h
        obtain ⟨h8, h3⟩ := a2 h9
        obtain ⟨h1, h2⟩ := a2 h8
        have hs := of_decide_eq_true h1
        by_cases hl : notLc v = true
        · exact s_setD is hs (locB_ok h2) (chkFd_ok e c v h3) fun env _ => notLc_sw hl _ _ _
        · cases v with
          | DictComp y z gs scope vp =>
            by_cases hw : swD c x tp vp scope = true
            · obtain ⟨own, t, it, cond, k, v, rfl⟩ := chkFd_dc h3
              match gs, h3 with
              | [⟨tg, iter, ifs, 0⟩], h =>
                obtain ⟨h1, h8⟩ := a2 h
                obtain ⟨h1, h7⟩ := a2 h1
                obtain ⟨h1, h6⟩ := a2 h1
                obtain ⟨h1, h5⟩ := a2 h1
                obtain ⟨h1, h4⟩ := a2 h1
                obtain ⟨h1, h3⟩ := a2 h1
                obtain ⟨h1, h2⟩ := a2 h1
                have ow := ownN_snd c own
                have hloc : c.sc.names.lookup x = some .local := by
                  have hw2 := hw
                  unfold swD swL at hw2
                  exact beq_iff_eq.mp (a2 (a2 (a2 hw2).1).1).2
                have := s_setDc (i := i) (pos' := tp) (spos := p) (pos := vp) true is hs hloc (fun env he => by rw [swD_eq env he, hw]) (chki_ok it true c tg _ h5) (blkB_ok h2) (chkG_ok t _ _ h4) (by rw [ow]; exact slB_ok h3) (chkc_ok cond _ _ h6) (chk_ok k .v _ _ h7) (chk_ok v .v _ _ h8) (notSet_fold h1)
                rw [ow] at this
                exact this
            · exact s_setD is hs (locB_ok h2) (chkFd_ok e c _ h3) fun env he => by
                rw [swD_eq env he, Bool.eq_false_iff.mpr hw]
          | _ => exact absurd h4 hl
    | _ => cases h
  | .stoD i is k e, c, s, h => by
    cases s with
    | Assign ts v p =>
      match ts, h with
      | [.Subscript (.Name x p1) j p2], h =>
        obtain ⟨h10, h6⟩ := a2 h
        obtain ⟨h9, h5⟩ := a2 h10
        obtain ⟨h8, h4⟩ := a2 h9
        obtain ⟨h7, h3⟩ := a2 h8
        obtain ⟨h1, h2⟩ := a2 h7
        exact s_storeD is (nmB_ok h1).1 (nmB_ok h1).2.1 (nmB_ok h1).2.2.1 (nmB_ok h1).2.2.2 (chk_ok e .v c v h6) (chk_ok k .v c j h5) (fun env => sub_sw _ env) (by cases j <;> first | (cases h3; done) | exact fun _ _ => rfl)
    | _ => cases h
  | .forD t j b, c, s, h => by
    unfold chS at h
    split at h
    · obtain ⟨h1, h3⟩ := a2 h
      obtain ⟨h1, h2⟩ := a2 h1
      exact s_forD (nmB_ok h1).1 (nmB_ok h1).2.1 (nmB_ok h1).2.2.1 (nmB_ok h1).2.2.2 (chkG_ok t c _ h2) (chSs_ok b c _ h3)
    · cases h
  | .pop i t, c, s, h => by
    unfold chS at h
    split at h
    · obtain ⟨h1, h5⟩ := a2 h
      obtain ⟨h1, h4⟩ := a2 h1
      obtain ⟨h1, h3⟩ := a2 h1
      obtain ⟨h1, h2⟩ := a2 h1
      have e1 := of_decide_eq_true h1
      subst e1
      exact s_pop (nmB_ok h2).1 (nmB_ok h2).2.1 (nmB_ok h2).2.2.1 (nmB_ok h2).2.2.2 (chkG_ok t c _ h5) h4 h3 (fun env _ => sole_sw rfl _ env) (fun env _ => notTup_ws rfl env)
    · cases h
  | .popAt i is e, c, s, h => by
    unfold chS at h
    split at h
    · obtain ⟨h1, h5⟩ := a2 h
      obtain ⟨h1, h4⟩ := a2 h1
      obtain ⟨h1, h3⟩ := a2 h1
      obtain ⟨h1, h2⟩ := a2 h1
      have e1 := of_decide_eq_true h1
      subst e1
      exact s_popAt is (nmB_ok h2).1 (nmB_ok h2).2.1 (nmB_ok h2).2.2.1 (nmB_ok h2).2.2.2 (chk_ok e .v c _ h5) h4 h3
    · cases h
  | .ins i is k e, c, s, h => by
    unfold chS at h
    split at h
    · obtain ⟨h1, h7⟩ := a2 h
      obtain ⟨h1, h6⟩ := a2 h1
      obtain ⟨h1, h5⟩ := a2 h1
      obtain ⟨h1, h4⟩ := a2 h1
      obtain ⟨h1, h3⟩ := a2 h1
      obtain ⟨h1, h2⟩ := a2 h1
      have e1 := of_decide_eq_true h1
      subst e1
      exact s_insert is (nmB_ok h2).1 (nmB_ok h2).2.1 (nmB_ok h2).2.2.1 (nmB_ok h2).2.2.2 (chk_ok k .v c _ h6) (chk_ok e .v c _ h7) h4 h5 h3
    · cases h
  | .setNL i is own t it, c, s, h => by
    unfold chS at h
    split at h
    · rename_i x tp pl tg iter scope vp p
      obtain ⟨h1, h7⟩ := a2 h
      obtain ⟨h1, h6⟩ := a2 h1
      obtain ⟨h1, h5⟩ := a2 h1
      obtain ⟨h1, h4⟩ := a2 h1
      obtain ⟨h1, h3⟩ := a2 h1
      obtain ⟨h1, h2⟩ := a2 h1
      have ow := ownN_snd c own
      have := s_setNL (i := i) (pos' := tp) (spos := p) (pos := vp) (pl := pl) true is (of_decide_eq_true h1) (locB_ok h2) (chki_ok it true c tg _ h7) (blkB_ok h4) (chkG_ok t _ _ h6) (by rw [ow]; exact slB_ok h5) (notSet_fold h3)
      rw [ow] at this
      exact this
    · cases h
  | .setND i is own t it k, c, s, h => by
    unfold chS at h
    split at h
    · rename_i x tp kx pl tg iter scope vp p
      obtain ⟨h1, h8⟩ := a2 h
      obtain ⟨h1, h7⟩ := a2 h1
      obtain ⟨h1, h6⟩ := a2 h1
      obtain ⟨h1, h5⟩ := a2 h1
      obtain ⟨h1, h4⟩ := a2 h1
      obtain ⟨h1, h3⟩ := a2 h1
      obtain ⟨h1, h2⟩ := a2 h1
      have ow := ownN_snd c own
      have := s_setND (i := i) (pos' := tp) (spos := p) (pos := vp) (pl := pl) true is (of_decide_eq_true h1) (locB_ok h2) (chki_ok it true c tg _ h7) (blkB_ok h4) (chkG_ok t _ _ h6) (by rw [ow]; exact slB_ok h5) (chk_ok k .v _ _ h8) (notSet_fold h3)
      rw [ow] at this
      exact this
    · cases h
  | .appN i is k e, c, s, h => by
    unfold chS at h
    split at h
    · obtain ⟨h1, h7⟩ := a2 h
      obtain ⟨h1, h6⟩ := a2 h1
      obtain ⟨h1, h5⟩ := a2 h1
      obtain ⟨h1, h4⟩ := a2 h1
      obtain ⟨h1, h3⟩ := a2 h1
      obtain ⟨h1, h2⟩ := a2 h1
      have e1 := of_decide_eq_true h1
      subst e1
      exact s_appN is (nmB_ok h2).1 (nmB_ok h2).2.1 (nmB_ok h2).2.2.1 (nmB_ok h2).2.2.2 (chk_ok k .v c _ h6) (plainIx_ok h4) (chk_ok e .v c _ h7) h5 h3
    · cases h
  | .dis is a, c, s, h => s_dis is (chS_ok a c s h)
theorem chSs_ok : ∀ (x : Ss) (c : Ctx) (s : List Stmt), chSs x c s = true → SSs c s (exs x)
  | .nil, c, s, h => by
    cases s with
    | nil => exact sq_nil
    | cons _ _ => cases h
  | .cons a as, c, s, h => by
    cases s with
    | nil => cases h
    | cons s ss =>
      obtain ⟨h1, h2⟩ := a2 h
      exact sq_cons (chS_ok a c s h1) (chSs_ok as c ss h2)
end
end Pv

end
section
namespace Pv
open PySem PySem.Spec PyProof.Rows L2

/-! ### the defs of a text -/
structure Fd where
  nm : Str
  st : Stmt
  ps : List Str
  N : List Str
  body : Ss
abbrev Tab := List Fd
def findT (T : Tab) (f : Str) : Option Fd := T.find? fun d => decide (d.nm = f)
def endR : SR → Res D
  | .rt d => .ok d
  | .nx _ => .ok .none
  | .ex c _ => .ex c
  | _ => .st
def start1 (n : Nat) (ds : List D) : Env := ds.map (fun d => some (false, d)) ++ List.replicate (n - ds.length) none
def runB (np nN : Nat) (b : Ss) (Φ : Calls) (ds : List D) : Res D := if ds.length = np then endR (exs b Φ (start1 nN ds)) else .st
abbrev runF (d : Fd) (Φ : Calls) (ds : List D) : Res D := runB d.ps.length d.N.length d.body Φ ds
def callAt (T : Tab) : Nat → Calls
  | 0 => fun _ _ => .st
  | n + 1 => fun f ds => match findT T f with
    | some d => runF d (callAt T n) ds
    | none => .st
theorem callAt_eq {T : Tab} {n : Nat} {f : Str} {d : Fd} {ds : List D} (h : findT T f = some d) : callAt T (n + 1) f ds = runF d (callAt T n) ds := by
  show (match findT T f with | some d => runF d (callAt T n) ds | none => .st) = _
  rw [h]
/-! what is known of the text behind the top -/
def FnFact (K : PySem.W.Frag) (mg : Str → Option Value) (x : Str) (st : Stmt) (ps : List Str) : Prop := ∃ fa fd, Fun K x x st fa fd ∧ mg x = some (.ref fa) ∧ ∀ us : List Value, us.length = ps.length → bindArgs fd ⟨us, []⟩ = pure (ps.zip us)
theorem fact_mk {K : PySem.W.Frag} {h : Heap} {mg : Str → Option Value} (X : K.In h) (G : h.Ns mainGlobals mg) {x : Str} {st : Stmt} {ps : List Str} {f : Addr} {od an : Option Addr} {sl : Array (Option Value)} {oc kV dc pm cd ct : Value}
    (a : PySem.W.nsIn K mainGlobals x = some (some (.ref f))) (l : K.lookup f = some ⟨oc, od, .func (PySem.W.fnOf x x (defArgs st) (defBody st) (defScope st) .none kV dc pm an cd ct), sl⟩) (c : PySem.W.codeIn K cd x = true) (k : PySem.W.keepIn K (.ref f) = true)
    (b : ∀ (kV doc pm : Value) (an : Option Addr) (cdv ct : Value) (us : List Value), us.length = ps.length → bindArgs (PySem.W.fnOf x x (defArgs st) (defBody st) (defScope st) .none kV doc pm an cdv ct) ⟨us, []⟩ = pure (ps.zip us)) : FnFact K mg x st ps :=
  ⟨f, _, fun_mk l c k, PySem.W.mg_of X G a, b _ _ _ _ _ _⟩
def ExcIn (K : PySem.W.Frag) (x : Str) : Prop := ∃ (C : Addr) (bmB : List Value) (B newId initId : String), PySem.W.nsIn K mainGlobals x = some (some (.ref C)) ∧ PySem.W.keepIn K (.ref C) = true ∧ PySem.W.subIn K (.ref C) (.type "BaseException") = some true ∧ PySem.W.typeIn K (.ref C) = some (.type "type")
  ∧ ExcBaseFacts B newId initId bmB ∧ PySem.W.excIn K C bmB newId = true
theorem exc_in {K : PySem.W.Frag} {h : Heap} (X : K.In h) {x : Str} {C : Addr} {bmB : List Value} {B newId initId : String} (F : ExcBaseFacts B newId initId bmB) (a : PySem.W.nsIn K mainGlobals x = some (some (.ref C))) (k : PySem.W.keepIn K (.ref C) = true) (s : PySem.W.subIn K (.ref C) (.type "BaseException") = some true) (t : PySem.W.typeIn K (.ref C) = some (.type "type"))
    (q : PySem.W.excIn K C bmB newId = true) : ExcIn K x := ⟨C, bmB, B, newId, initId, a, k, s, t, F, q⟩
theorem exc_mk {K : PySem.W.Frag} {h : Heap} {mg : Str → Option Value} (X : K.In h) (G : h.Ns mainGlobals mg) {x : Str} (e : ExcIn K x) : ExcHas K mg x := by
  obtain ⟨C, bmB, B, newId, initId, a, k, s, t, F, q⟩ := e
  exact ⟨C, bmB, B, newId, initId, PySem.W.mg_of X G a, k, s, t, F, q⟩
def IsxIn (K : PySem.W.Frag) (x y : Str) (r : Bool) : Prop := ∃ (C : Addr) (k : V) (u : Value), PySem.W.nsIn K mainGlobals x = some (some (.ref C)) ∧ ExcC K C ∧ PySem.W.typeIn K (.ref C) = some (.type "type") ∧ PySem.W.subIn K (.ref C) (.ref C) = some true
  ∧ ClsV k u ∧ (PySem.W.nsIn K mainGlobals y = some (some u) ∨ (PySem.W.nsIn K mainGlobals y = some none ∧ bootBuiltins y = some u ∧ y ≠ ("__name__" : Str))) ∧ PySem.W.kitOne K (.ref C) u = some r
theorem isx_own {K : PySem.W.Frag} {h : Heap} (X : K.In h) {x y : Str} {r : Bool} {C B : Addr} (a : PySem.W.nsIn K mainGlobals x = some (some (.ref C))) (b : PySem.W.nsIn K mainGlobals y = some (some (.ref B)))
    (h1 : PySem.W.findIn K (.ref C) "__getattribute__" = some (some (.builtin "BaseException.__getattribute__"))) (h2 : PySem.W.findIn K (.ref C) "__getattr__" = some none) (h3 : PySem.W.subIn K (.ref C) (.type "BaseException") = some true) (h4 : PySem.W.hasDictIn K C = true)
    (h5 : PySem.W.findIn K (.ref C) "__class__" = some (some (.builtin "object.__class__"))) (h6 : PySem.W.specialIn K (.builtin "object.__class__") "__get__" = some (some (.builtin "getset_descriptor.__get__"))) (h7 : PySem.W.takesIn K (.builtin "object.__class__") = some true) (h8 : PySem.W.mroIn K C (.type "object") = some true)
    (t : PySem.W.typeIn K (.ref C) = some (.type "type")) (s : PySem.W.subIn K (.ref C) (.ref C) = some true) (q : PySem.W.kitOne K (.ref C) (.ref B) = some r) : IsxIn K x y r := ⟨C, _, _, a, ⟨h1, h2, h3, h4, h5, h6, h7, h8⟩, t, s, .own B, .inl b, q⟩
theorem isx_bt {K : PySem.W.Frag} {h : Heap} (X : K.In h) {x y : Str} {r : Bool} {C : Addr} {n : String} (e : bootBuiltins y = some (.type n)) (ne : y ≠ ("__name__" : Str)) (a : PySem.W.nsIn K mainGlobals x = some (some (.ref C))) (b : PySem.W.nsIn K mainGlobals y = some none)
    (h1 : PySem.W.findIn K (.ref C) "__getattribute__" = some (some (.builtin "BaseException.__getattribute__"))) (h2 : PySem.W.findIn K (.ref C) "__getattr__" = some none) (h3 : PySem.W.subIn K (.ref C) (.type "BaseException") = some true) (h4 : PySem.W.hasDictIn K C = true)
    (h5 : PySem.W.findIn K (.ref C) "__class__" = some (some (.builtin "object.__class__"))) (h6 : PySem.W.specialIn K (.builtin "object.__class__") "__get__" = some (some (.builtin "getset_descriptor.__get__"))) (h7 : PySem.W.takesIn K (.builtin "object.__class__") = some true) (h8 : PySem.W.mroIn K C (.type "object") = some true)
    (t : PySem.W.typeIn K (.ref C) = some (.type "type")) (s : PySem.W.subIn K (.ref C) (.ref C) = some true) (q : PySem.W.kitOne K (.ref C) (.type n) = some r) : IsxIn K x y r := ⟨C, _, _, a, ⟨h1, h2, h3, h4, h5, h6, h7, h8⟩, t, s, .ty n, .inr ⟨b, e, ne⟩, q⟩
theorem bb_ValueError : bootBuiltins ("ValueError" : Str) = some (.type "ValueError") := by decide +kernel
theorem nn_ValueError : ("ValueError" : Str) ≠ ("__name__" : Str) := by decide
theorem isx_mk {K : PySem.W.Frag} {h : Heap} {mg : Str → Option Value} (X : K.In h) (G : h.Ns mainGlobals mg) {x y : Str} {r : Bool} (e : IsxIn K x y r) : IsxHas K mg x y r := by
  obtain ⟨C, k, u, a, ec, t, s, kk, hy, q⟩ := e
  refine ⟨C, k, u, PySem.W.mg_of X G a, ec, t, s, ⟨kk, ?_⟩, q⟩
  rcases hy with h1 | ⟨h1, h2, h3⟩
  · exact .inl (PySem.W.mg_of X G h1)
  · exact .inr ⟨PySem.W.mg_none_of X G h1, h2, h3⟩
/-- a tuple of texts of the module -/
def TupIn (K : PySem.W.Frag) (x : Str) (ws : List Str) : Prop := ∃ (a : Addr) (o : Obj) (its : Array Value) (n : Nat), PySem.W.nsIn K mainGlobals x = some (some (.ref a)) ∧ K.lookup a = some o ∧ o.cls = .type "tuple" ∧ o.dict = none ∧ o.data = .seq its n ∧ its.size ≤ sizeLine ∧ Vals (ws.map V.str) its.toList
theorem tup_in {K : PySem.W.Frag} {h : Heap} (X : K.In h) {x : Str} {ws : List Str} {a : Addr} {its : Array Value} {n : Nat} {sl : Array (Option Value)} (h1 : PySem.W.nsIn K mainGlobals x = some (some (.ref a))) (h2 : K.lookup a = some ⟨.type "tuple", none, .seq its n, sl⟩) (h3 : its.size ≤ 1000) (h4 : Vals (ws.map V.str) its.toList) : TupIn K x ws := ⟨a, _, its, n, h1, h2, rfl, rfl, rfl, by rw [sizeLine_eq]; omega, h4⟩
theorem tup_mk {K : PySem.W.Frag} {h : Heap} {mg : Str → Option Value} (X : K.In h) (G : h.Ns mainGlobals mg) {x : Str} {ws : List Str} (e : TupIn K x ws) : ∃ u v, mg x = some u ∧ RelV v u ∧ ∀ H A, Rp K H A v (.tuple (ws.map PyData.str)) := by
  obtain ⟨a, o, its, n, h1, h2, h3, h4, h5, h6, h7⟩ := e
  exact ⟨_, .ref a, PySem.W.mg_of X G h1, rfl, fun H A => .tup (.inr ⟨o, its, n, h2, h3, h4, h5, h6, h7⟩) (rpl_str ws)⟩
def AllI (p : Str → Str → Bool → Prop) : List (Str × Str × Bool) → Prop
  | [] => True
  | d :: r => p d.1 d.2.1 d.2.2 ∧ AllI p r
theorem AllI.mem {p : Str → Str → Bool → Prop} : ∀ {T : List (Str × Str × Bool)}, AllI p T → ∀ x y r, (x, y, r) ∈ T → p x y r
  | [], _, x, y, r, h => absurd h (by simp)
  | e :: t, h, x, y, r, hd => by
    rcases List.mem_cons.mp hd with rfl | hd
    · exact h.1
    · exact AllI.mem h.2 x y r hd
structure Base where
  blts : List Str
  gl : List (Str × D)
  exc : List Str
  isx : List (Str × Str × Bool)
def ctxOf (T : Tab) (b : Base) (d : Fd) : Ctx := ⟨d.N, defScope d.st, T.map (·.nm), [], b.gl, b.blts, d.N, b.exc, b.isx⟩
structure FdOk (T : Tab) (b : Base) (d : Fd) : Prop where
  sc : FnScope d.N d.ps (defScope d.st)
  ck : chSs d.body (ctxOf T b d) (defBody d.st) = true
def AllP (p : Fd → Prop) : Tab → Prop
  | [] => True
  | d :: r => p d ∧ AllP p r
theorem AllP.mem {p : Fd → Prop} : ∀ {T : Tab}, AllP p T → ∀ d ∈ T, p d
  | [], _, d, h => absurd h (by simp)
  | e :: r, h, d, hd => by
    rcases List.mem_cons.mp hd with rfl | hd
    · exact h.1
    · exact AllP.mem h.2 d hd
def AllB (p : Str → Prop) : List Str → Prop
  | [] => True
  | d :: r => p d ∧ AllB p r
theorem AllB.mem {p : Str → Prop} : ∀ {T : List Str}, AllB p T → ∀ d, d ∈ T → p d
  | [], _, d, h => absurd h (by simp)
  | e :: r, h, d, hd => by
    rcases List.mem_cons.mp hd with rfl | hd
    · exact h.1
    · exact AllB.mem h.2 d hd
def AllG (p : Str → D → Prop) : List (Str × D) → Prop
  | [] => True
  | d :: r => p d.1 d.2 ∧ AllG p r
theorem AllG.mem {p : Str → D → Prop} : ∀ {T : List (Str × D)}, AllG p T → ∀ x d, (x, d) ∈ T → p x d
  | [], _, x, d, h => absurd h (by simp)
  | e :: r, h, x, d, hd => by
    rcases List.mem_cons.mp hd with rfl | hd
    · exact h.1
    · exact AllG.mem h.2 x d hd
structure Known (K : PySem.W.Frag) (mg : Str → Option Value) (T : Tab) (b : Base) : Prop where
  fn : ∀ d ∈ T, FnFact K mg d.nm d.st d.ps
  blt : ∀ x, x ∈ b.blts → mg x = none
  gl : ∀ x d, (x, d) ∈ b.gl → ∃ u v, mg x = some u ∧ RelV v u ∧ ∀ H A, Rp K H A v d
  exc : ∀ x, x ∈ b.exc → ExcHas K mg x
  isx : ∀ x y r, (x, y, r) ∈ b.isx → IsxHas K mg x y r
section
variable {P : Program} {w : World} {K : PySem.W.Frag} {mg : Str → Option Value} {base : Heap} {T : Tab} {b : Base}
theorem find_mem {f : Str} {d : Fd} (h : findT T f = some d) : d ∈ T ∧ d.nm = f := ⟨List.mem_of_find?_eq_some h, of_decide_eq_true (List.find?_some (p := fun d : Fd => decide (d.nm = f)) h)⟩
theorem slots_start {H : Hp} {A : List Addr} : ∀ {vs : List V} {ds : List D} (k : Nat), RpL K H A vs ds → Slots K H A (vs.map some ++ List.replicate k none) (ds.map (fun d => some (false, d)) ++ List.replicate k none) (List.replicate (ds.length + k) [])
  | _, _, k, .nil => by
    rw [List.map_nil, List.map_nil, List.nil_append, List.nil_append, List.length_nil, Nat.zero_add]
    induction k with
    | zero => exact .nil
    | succ k ih => exact .cons .non ih
  | _, _, k, .cons (ds := ds) h r => by
    rw [List.length_cons, Nat.add_right_comm]
    exact .cons (.shared h) (slots_start k r)
theorem rts_none (n : Nat) : rts (List.replicate n []) = [] := by
  induction n with
  | zero => rfl
  | succ n ih => exact ih
theorem fn_all (hd : ∀ d ∈ T, FdOk T b d) (kn : Known K mg T b) : ∀ (n : Nat) (f : Str) (fa : Addr) (fd : FuncData) (d : Fd), findT T f = some d → Fun K f f d.st fa fd → FnOk P w K mg base (L2.CX P w) n fa fd d.ps (spC K mg (callAt T n) f)
  | 0, f, fa, fd, d, h, F => ⟨fun vs H Q E ⟨A, ds, _, _, z⟩ => z.elim, fun A outer s H args us vs Q E hr he hb hv ⟨A', ds, _, _, z⟩ => z.elim⟩
  | n + 1, f, fa, fd, d, h, F => by
    obtain ⟨hm, hn⟩ := find_mem h
    obtain ⟨hsc, hck⟩ := hd d hm
    refine Fun.okX F hsc (fun vs H Q E hs => ?_) (fun cdv A outer s H vs Q E hr hs => ?_)
    · obtain ⟨A, ds, _, hr, hz⟩ := hs
      rw [callAt_eq h] at hz
      unfold runF runB at hz
      by_cases hl : ds.length = d.ps.length
      · rw [hr.length]; exact hl
      · rw [if_neg hl] at hz; exact hz.elim
    · obtain ⟨A0, ds, hA, hrp, hz⟩ := hs
      rw [callAt_eq h] at hz
      unfold runF runB at hz
      by_cases hl : ds.length = d.ps.length
      case neg => rw [if_neg hl] at hz; exact hz.elim
      rw [if_pos hl] at hz
      refine ⟨_, chSs_ok d.body (ctxOf T b d) (defBody d.st) hck (cxOf (L2.CX P w) P w K mg base d.N f (defScope d.st) fa cdv A outer s H E) (callAt T n) (fun cls dd _ H => E cls dd H)
        ⟨rfl, hsc.nd, rfl, rfl, ?_, kn.blt, kn.gl, fun g hg => ?_, kn.exc, kn.isx, fun _ => ⟨rfl, rfl⟩, fun x hx => rfl⟩ (takes_of rfl rfl rfl rfl) (passes_of rfl), ?_⟩
      · have := hr.un
        show (A.deeper _).units + 70 < cLine
        omega
      · have hg : g ∈ T.map (·.nm) := hg
        obtain ⟨e, he, rfl⟩ := List.mem_map.mp hg
        have hex : ∃ d', findT T e.nm = some d' := by
          cases q : findT T e.nm with
          | some d' => exact ⟨d', rfl⟩
          | none =>
            have := List.find?_eq_none.mp q e he
            exact absurd (decide_eq_true rfl) this
        obtain ⟨d', hd'⟩ := hex
        obtain ⟨hm', hn'⟩ := find_mem hd'
        obtain ⟨fa', fd', F', hmg, hb'⟩ := kn.fn d' hm'
        rw [hn'] at F' hmg
        exact ⟨n, fa', fd', d'.ps, fn_all hd kn n e.nm fa' fd' d' hd' F', hr, hmg, F'.kp, .all hb'⟩
      · have hO : vs.length = ds.length := hrp.length
        refine ⟨⟨A0, [], H⟩, List.replicate (ds.length + (d.N.length - ds.length)) [], start1 d.N.length ds, ⟨hA, fun _ z => absurd z (by simp)⟩, ⟨⟨?_, fun i j l m a e h _ _ => ?_⟩, But.refl, fun a ha => ?_⟩, ?_⟩
        · rw [rts_none, List.append_nil]
          unfold L2.start start1
          rw [hO]
          exact slots_start _ hrp
        · rw [List.getElem?_replicate] at e
          split at e
          · cases e; cases h
          · cases e
        · rw [rts_none] at ha; cases ha
        · show RtS K mg (fun cls dd _ H => E cls dd H) ⟨A0, [], H⟩ _ (exs d.body (callAt T n) (start1 d.N.length ds))
          cases hx : exs d.body (callAt T n) (start1 d.N.length ds) with
          | st => rw [hx] at hz; exact hz.elim
          | bk ρ => rw [hx] at hz; exact hz.elim
          | ct ρ => rw [hx] at hz; exact hz.elim
          | nx ρ =>
            rw [hx] at hz
            exact fun σ H' O hs => hz .non H' (fun b o e => hs.but b o (by simp) e) .non
          | rt r =>
            rw [hx] at hz
            exact fun v H' bt hr => hz v H' (fun b o e => bt b o (by simp) e) hr
          | ex z ρ =>
            rw [hx] at hz
            exact fun C σ H' O hs hm => hz C H' (fun b o e => hs.but b o (by simp) e) hm
/-- the law's own def -/
def spLaw (K : PySem.W.Frag) (m : Nat) : Sp := fun vs H Q _ => ∃ (a : Addr) (ns : List Int), vs = [.ref a] ∧ SqL K H a (ns.map V.int) ∧ ns.length ≤ m ∧ ∀ H', Q (.bl true) H'
theorem rpl_ints {H : Hp} {A : List Addr} : ∀ ns : List Int, RpL K H A (ns.map V.int) (ns.map PyData.int)
  | [] => .nil
  | n :: ns => .cons (.int n) (rpl_ints ns)
theorem law_fn {n m : Nat} {f : Str} {fa : Addr} {fd : FuncData} {d : Fd} (hd : ∀ d ∈ T, FdOk T b d) (kn : Known K mg T b) (h : findT T f = some d) (F : Fun K f f d.st fa fd)
    (law : ∀ ns : List Int, ns.length ≤ m → callAt T n f [.list (ns.map PyData.int)] = .ok (.bool true)) : FnOk P w K mg base (L2.CX P w) n fa fd d.ps (spLaw K m) :=
  (fn_all hd kn n f fa fd d h F).imp fun vs H Q E ⟨a, ns, e, hS, hl, q⟩ => by
    subst e
    refine ⟨[], [.list (ns.map PyData.int)], AOk.nil, .cons (.lst (SqN.of hS) (rpl_ints ns)) .nil, ?_⟩
    rw [law ns hl]
    intro v H' _ hr
    cases hr
    exact q H'
/-- what walk_of asks of the law's def -/
theorem law_headT {n m : Nat} {f : Str} {fa : Addr} {d : Fd} {x : Str} (hd : ∀ d ∈ T, FdOk T b d) (kn : Known K mg T b) (h : findT T f = some d) (hx : d.ps = [x]) (hmg : mg f = some (.ref fa))
    (law : ∀ ns : List Int, ns.length ≤ m → callAt T n f [.list (ns.map PyData.int)] = .ok (.bool true)) :
    ∃ fd : FuncData, (∀ (s : Shared) (u : Value), BindsTo s fd ⟨[u], []⟩ [(x, u)]) ∧ ∀ base : Heap, K.In base → base.Ns mainGlobals mg → FnOk P w K mg base (L2.CX P w) n fa fd [x] (spLaw K m) := by
  obtain ⟨hm, hn⟩ := find_mem h
  obtain ⟨fa', fd, F, hg, hb⟩ := kn.fn d hm
  rw [hn] at F hg
  rw [hg] at hmg
  cases hmg
  refine ⟨fd, fun s u => ?_, fun base _ _ => ?_⟩
  · have := hb [u] (by rw [hx]; rfl)
    rw [hx] at this
    exact .of_eq this
  · rw [← hx]
    exact law_fn hd kn h F law
end
end Pv

end
section
namespace Pv
open PySem

def b__law_beyond : Ss := (.cons (.set 3 [] (.ix (.varB 1) (.varB 2))) (.cons (.set 4 [] (.slc (.varB 1) (.some (.bin .Add (.varB 2) (.cst (.int 1)))) .none)) (.cons (.set 5 [] (.call "_law_reach" (.cons (.var 0) (.cons (.lst (.cons (.var 3) .nil)) (.cons (.var 4) .nil))))) (.cons (.setF 6 [] (.lst .nil)) (.cons (.fors [] (.tup (.cons (.var 7) (.cons (.var 8) .nil))) (.val (.ix (.varB 0) (.cst (.int 1)))) (.cons (.ifs (.and (.cmp .In (.varB 7) (.varB 5)) (.one (.cmp .In (.varB 8) (.varB 4)))) (.cons (.app 6 [] (.var 8)) .nil) .nil) (.cons (.ifs (.and (.cmp .In (.varB 8) (.varB 5)) (.one (.cmp .In (.varB 7) (.varB 4)))) (.cons (.app 6 [] (.var 7)) .nil) .nil) .nil))) (.cons (.ret (.blt .tuple (.cons (.sset (.varB 6)) .nil))) .nil))))))
def b__law_branches : Ss := (.cons (.ifs (.or (.not (.isi .tuple (.varB 2))) (.one (.cmp .NotEq (.blt .tuple (.cons (.lc [7] (.var 7) (.val (.varB 2)) .none (.ix (.varB 7) (.cst (.int 0)))) .nil)) (.varB 3)))) (.cons (.ret (.cst (.bool false))) .nil) .nil) (.cons (.fors [] (.tup (.cons (.var 5) (.cons (.var 6) .nil))) (.val (.var 2)) (.cons (.ifs (.or (.cmp .Gt (.blt .len (.cons (.ix (.varB 6) (.cst (.int 0))) .nil)) (.varB 1)) (.one (.cmp .NotEq (.blt .len (.cons (.varB 6) .nil)) (.cst (.int 2))))) (.cons (.ret (.cst (.bool false))) .nil) .nil) (.cons (.ifs (.not (.call "_law_branches" (.cons (.var 0) (.cons (.var 1) (.cons (.ix (.varB 6) (.cst (.int 1))) (.cons (.call "_law_due" (.cons (.var 0) (.cons (.var 4) (.cons (.var 5) (.cons (.ix (.varB 6) (.cst (.int 0))) .nil))))) (.cons (.ix (.varB 6) (.cst (.int 0))) .nil))))))) (.cons (.ret (.cst (.bool false))) .nil) .nil) .nil))) (.cons (.ret (.cst (.bool true))) .nil)))
def b__law_catches : Ss := (.cons (.ifs (.cmp .NotEq (.lc [6] (.var 6) (.val (.varB 1)) (.some (.cmp .Gt (.blt .len (.cons (.varB 6) .nil)) (.varB 3))) (.var 6)) (.lst .nil)) (.cons (.ret (.cst (.bool false))) .nil) .nil) (.cons (.set 4 [] (.rg1 true (.ix (.varB 0) (.cst (.int 0))))) (.cons (.fors [] (.var 5) (.val (.call "_law_walk" (.cons (.var 0) (.cons (.var 1) (.cons (.var 2) .nil))))) (.cons (.ifs (.cmp .NotEq (.lc [7] (.var 7) (.val (.varB 5)) (.some (.cmp .NotIn (.varB 7) (.varB 4))) (.var 7)) (.lst .nil)) (.cons (.ret (.cst (.bool false))) .nil) .nil) (.cons (.set 4 [] (.var 5)) .nil))) (.cons (.ret (.cmp .Eq (.varB 4) (.tup .nil))) .nil))))
def b__law_cell : Ss := (.cons (.ifs (.cmp .Lt (.varB 1) (.blt .len (.cons (.varB 0) .nil))) (.cons (.ret (.call "_law_mixed" (.cons (.ix (.varB 0) (.varB 1)) (.cons (.var 1) .nil)))) .nil) .nil) (.cons (.ret (.call "_law_mixed" (.cons (.cst (.int 0)) (.cons (.var 1) .nil)))) .nil))
def b__law_due_v4 : Ss := (.cons (.setF 4 [] (.lc [6] (.var 6) (.val (.varB 1)) (.some (.cmp .In (.varB 6) (.varB 3))) (.var 6))) (.cons (.set 5 [4] (.call "_law_reach" (.cons (.var 0) (.cons (.blt .list (.cons (.varB 2) .nil)) (.cons (.var 4) .nil))))) (.cons (.ret (.blt .tuple (.cons (.lc [7] (.var 7) (.val (.call "_law_parts" (.cons (.var 0) (.cons (.var 3) .nil)))) (.some (.cmp .In (.ix (.varB 7) (.cst (.int 0))) (.varB 5))) (.var 7)) .nil))) .nil)))
def b__law_good : Ss := (.cons (.ifs (.or (.not (.isi .tuple (.varB 0))) (.or (.cmp .NotEq (.blt .len (.cons (.varB 0) .nil)) (.cst (.int 2))) (.one (.not (.isi .tuple (.ix (.varB 0) (.cst (.int 1)))))))) (.cons (.ret (.cst (.bool false))) .nil) .nil) (.cons (.ifs (.or (.not (.isi .int (.ix (.varB 0) (.cst (.int 0))))) (.or (.cmp .Lt (.ix (.varB 0) (.cst (.int 0))) (.cst (.int 1))) (.or (.cmp .Gt (.ix (.varB 0) (.cst (.int 0))) (.cst (.int 8))) (.one (.cmp .NotEq (.blt .list (.cons (.ix (.varB 0) (.cst (.int 1))) .nil)) (.blt .sorted (.cons (.ix (.varB 0) (.cst (.int 1))) .nil))))))) (.cons (.ret (.cst (.bool false))) .nil) .nil) (.cons (.fors [] (.var 1) (.val (.ix (.varB 0) (.cst (.int 1)))) (.cons (.ifs (.or (.not (.isi .tuple (.varB 1))) (.or (.cmp .NotEq (.blt .len (.cons (.varB 1) .nil)) (.cst (.int 2))) (.one (.cmp .Gt (.cntT (.ix (.varB 0) (.cst (.int 1))) (.varB 1)) (.cst (.int 1)))))) (.cons (.ret (.cst (.bool false))) .nil) .nil) (.cons (.ifs (.not (.chain (.cst (.int 0)) .LtE (.ix (.varB 1) (.cst (.int 0))) (.link .Lt (.ix (.varB 1) (.cst (.int 1))) (.last .Lt (.ix (.varB 0) (.cst (.int 0))))))) (.cons (.ret (.cst (.bool false))) .nil) .nil) .nil))) (.cons (.ret (.cst (.bool true))) .nil))))
def b__law_graph : Ss := (.cons (.set 2 [] (.bin .Add (.cst (.int 1)) (.bin .Mod (.varB 0) (.varB 1)))) (.cons (.set 3 [] (.bin .Add (.cst (.int 1)) (.bin .Mod (.bin .FloorDiv (.varB 0) (.varB 1)) (.cst (.int 3))))) (.cons (.set 4 [] (.bin .FloorDiv (.varB 0) (.bin .Mult (.cst (.int 3)) (.varB 1)))) (.cons (.setF 5 [] (.lst .nil)) (.cons (.fors [] (.var 6) (.rng1 (.var 2)) (.cons (.fors [] (.var 7) (.rng1 (.var 6)) (.cons (.ifs (.cmp .Eq (.varB 4) (.cst (.int 0))) (.cons (.set 4 [] (.bin .Add (.varB 0) (.bin .Mult (.cst (.int 7919)) (.bin .Add (.bin .Add (.varB 7) (.bin .Mult (.cst (.int 10)) (.varB 6))) (.cst (.int 1)))))) .nil) .nil) (.cons (.ifs (.cmp .Lt (.bin .Mod (.varB 4) (.cst (.int 4))) (.varB 3)) (.cons (.app 5 [] (.tup (.cons (.var 7) (.cons (.var 6) .nil)))) .nil) .nil) (.cons (.set 4 [] (.bin .FloorDiv (.varB 4) (.cst (.int 4)))) .nil)))) .nil)) (.cons (.ret (.tup (.cons (.var 2) (.cons (.blt .tuple (.cons (.blt .sorted (.cons (.varB 5) .nil)) .nil)) .nil)))) .nil))))))
def b__law_hunt_right : Ss := (.cons (.ret (.call "_law_branches" (.cons (.var 0) (.cons (.var 1) (.cons (.var 2) (.cons (.call "_law_parts" (.cons (.var 0) (.cons (.tup .nil) .nil))) (.cons (.tup .nil) .nil))))))) .nil)
def b__law_line_need : Ss := (.cons (.set 2 [] (.cst (.int 1))) (.cons (.fors [] (.var 3) (.rng1 (.blt .len (.cons (.varB 1) .nil))) (.cons (.set 4 [] (.slc (.varB 1) .none (.some (.var 3)))) (.cons (.setF 5 [] (.lst .nil)) (.cons (.fors [] (.tup (.cons (.var 6) (.cons (.var 7) .nil))) (.val (.ix (.varB 0) (.cst (.int 1)))) (.cons (.ifs (.and (.cmp .In (.varB 6) (.varB 4)) (.one (.cmp .NotIn (.varB 7) (.varB 4)))) (.cons (.app 5 [] (.var 6)) .nil) .nil) (.cons (.ifs (.and (.cmp .In (.varB 7) (.varB 4)) (.one (.cmp .NotIn (.varB 6) (.varB 4)))) (.cons (.app 5 [] (.var 7)) .nil) .nil) .nil))) (.cons (.set 2 [] (.blt .max (.cons (.varB 2) (.cons (.bin .Add (.cst (.int 1)) (.lset (.varB 5))) .nil)))) .nil))))) (.cons (.ret (.var 2)) .nil)))
def b__law_mixed : Ss := (.cons (.set 2 [] (.blt .int (.cons (.varB 0) .nil))) (.cons (.ifs (.cmp .GtE (.varB 2) (.bin .Pow (.cst (.int 10)) (.cst (.int 18)))) (.cons (.ret (.var 2)) .nil) .nil) (.cons (.set 3 [] (.bin .Mod (.bin .Add (.bin .Mult (.bin .Mod (.varB 2) (.cst (.int 1000003))) (.cst (.int 48271))) (.bin .Mult (.cst (.int 69621)) (.bin .Add (.varB 1) (.cst (.int 1))))) (.cst (.int 2147483647)))) (.cons (.set 4 [] (.bin .Mod (.bin .Add (.bin .Mult (.varB 3) (.cst (.int 48271))) (.bin .Mod (.varB 2) (.cst (.int 999983)))) (.cst (.int 2147483647)))) (.cons (.set 5 [] (.bin .Mod (.bin .Add (.bin .Mult (.varB 4) (.cst (.int 69621))) (.varB 3)) (.cst (.int 2147483647)))) (.cons (.ret (.bin .Add (.bin .Add (.varB 3) (.bin .Mult (.cst (.int 2147483647)) (.varB 4))) (.bin .Mult (.cst (.int 4611686014132420609)) (.varB 5)))) .nil))))))
def b__law_next_v2 : Ss := (.cons (.setF 5 [] (.lc [8] (.var 8) (.val (.varB 1)) (.some (.cmp .In (.varB 8) (.varB 3))) (.var 8))) (.cons (.set 6 [] (.var 2)) (.cons (.ifs (.cmp .Eq (.varB 4) (.cst (.str "lazy"))) (.cons (.setF 6 [] (.lc [8] (.var 8) (.val (.varB 2)) (.some (.cmp .In (.varB 8) (.varB 3))) (.var 8))) .nil) .nil) (.cons (.set 7 [5, 6] (.bin .Add (.call "_law_reach" (.cons (.var 0) (.cons (.var 6) (.cons (.var 5) .nil)))) (.blt .list (.cons (.varB 2) .nil)))) (.cons (.ret (.blt .tuple (.cons (.lc [8] (.var 8) (.rng1 (.ix (.varB 0) (.cst (.int 0)))) (.some (.and (.cmp .In (.varB 8) (.varB 7)) (.one (.cmp .NotIn (.varB 8) (.varB 3))))) (.var 8)) .nil))) .nil)))))
def b__law_order_need : Ss := (.cons (.ret (.bin .Add (.cst (.int 1)) (.blt .max (.cons (.lc [2] (.var 2) (.rng1 (.blt .len (.cons (.varB 1) .nil))) .none (.blt .len (.cons (.call "_law_beyond" (.cons (.var 0) (.cons (.var 1) (.cons (.var 2) .nil)))) .nil))) .nil)))) .nil)
def b__law_parts : Ss := (.cons (.setF 2 [] (.lst .nil)) (.cons (.set 3 [] (.blt .list (.cons (.varB 1) .nil))) (.cons (.fors [] (.var 4) (.rng1 (.ix (.varB 0) (.cst (.int 0)))) (.cons (.ifs (.cmp .NotIn (.varB 4) (.varB 3)) (.cons (.set 5 [] (.call "_law_reach" (.cons (.var 0) (.cons (.lst (.cons (.var 4) .nil)) (.cons (.var 1) .nil))))) (.cons (.set 3 [] (.bin .Add (.varB 3) (.varB 5))) (.cons (.app 2 [] (.blt .tuple (.cons (.varB 5) .nil))) .nil))) .nil) .nil)) (.cons (.ret (.blt .tuple (.cons (.varB 2) .nil))) .nil))))
def b__law_reach : Ss := (.cons (.setF 3 [] (.lc [5] (.var 5) (.val (.varB 1)) (.some (.cmp .NotIn (.varB 5) (.varB 2))) (.var 5))) (.cons (.fors [] (.var 4) (.rng1 (.ix (.varB 0) (.cst (.int 0)))) (.cons (.fors [] (.tup (.cons (.var 6) (.cons (.var 7) .nil))) (.val (.ix (.varB 0) (.cst (.int 1)))) (.cons (.ifs (.and (.cmp .In (.varB 6) (.varB 3)) (.and (.cmp .NotIn (.varB 7) (.varB 3)) (.one (.cmp .NotIn (.varB 7) (.varB 2))))) (.cons (.app 3 [] (.var 7)) .nil) .nil) (.cons (.ifs (.and (.cmp .In (.varB 7) (.varB 3)) (.and (.cmp .NotIn (.varB 6) (.varB 3)) (.one (.cmp .NotIn (.varB 6) (.varB 2))))) (.cons (.app 3 [] (.var 6)) .nil) .nil) .nil))) .nil)) (.cons (.ret (.blt .sorted (.cons (.varB 3) .nil))) .nil)))
def b__law_spoilt_v5 : Ss := (.cons (.set 2 [] (.call "_law_text" (.cons (.var 0) .nil))) (.cons (.set 3 [] (.bin .Mod (.bin .FloorDiv (.varB 1) (.cst (.int 8))) (.blt .len (.cons (.varB 2) .nil)))) (.cons (.set 4 [] (.ix (.cst (.str "0123456789:- a~+_")) (.bin .Mod (.bin .FloorDiv (.varB 1) (.cst (.int 64))) (.cst (.int 17))))) (.cons (.ifs (.cmp .Lt (.bin .Mod (.varB 1) (.cst (.int 8))) (.cst (.int 3))) (.cons (.ret (.bin .Add (.bin .Add (.slc (.varB 2) .none (.some (.var 3))) (.varB 4)) (.slc (.varB 2) (.some (.bin .Add (.varB 3) (.cst (.int 1)))) .none))) .nil) .nil) (.cons (.ifs (.cmp .Eq (.bin .Mod (.varB 1) (.cst (.int 8))) (.cst (.int 3))) (.cons (.ret (.bin .Add (.slc (.varB 2) .none (.some (.var 3))) (.slc (.varB 2) (.some (.bin .Add (.varB 3) (.cst (.int 1)))) .none))) .nil) .nil) (.cons (.ifs (.cmp .Eq (.bin .Mod (.varB 1) (.cst (.int 8))) (.cst (.int 4))) (.cons (.ret (.bin .Add (.bin .Add (.slc (.varB 2) .none (.some (.var 3))) (.varB 4)) (.slc (.varB 2) (.some (.var 3)) .none))) .nil) .nil) (.cons (.ifs (.cmp .Eq (.bin .Mod (.varB 1) (.cst (.int 8))) (.cst (.int 5))) (.cons (.ret (.call "_law_text" (.cons (.tup (.cons (.ix (.varB 0) (.cst (.int 0))) (.cons (.trev (.ix (.varB 0) (.cst (.int 1)))) .nil))) .nil))) .nil) .nil) (.cons (.ifs (.cmp .Eq (.bin .Mod (.varB 1) (.cst (.int 8))) (.cst (.int 6))) (.cons (.ret (.call "_law_text" (.cons (.tup (.cons (.ix (.varB 0) (.cst (.int 0))) (.cons (.bin .Add (.ix (.varB 0) (.cst (.int 1))) (.slc (.ix (.varB 0) (.cst (.int 1))) .none (.some (.cst (.int 1))))) .nil))) .nil))) .nil) .nil) (.cons (.ret (.join "" (.lc [5] (.var 5) (.rng1 (.bin .Mod (.bin .FloorDiv (.varB 1) (.cst (.int 16))) (.cst (.int 9)))) .none (.ix (.cst (.str "0123:- \n")) (.bin .Mod (.bin .FloorDiv (.varB 1) (.bin .Add (.varB 5) (.cst (.int 3)))) (.cst (.int 8))))))) .nil)))))))))
def b__law_text : Ss := (.cons (.set 1 [] (.bin .Add (.blt .str (.cons (.ix (.varB 0) (.cst (.int 0))) .nil)) (.cst (.str ":")))) (.cons (.fors [] (.tup (.cons (.var 2) (.cons (.var 3) .nil))) (.val (.ix (.varB 0) (.cst (.int 1)))) (.cons (.set 1 [] (.bin .Add (.bin .Add (.bin .Add (.bin .Add (.varB 1) (.cst (.str " "))) (.blt .str (.cons (.varB 2) .nil))) (.cst (.str "-"))) (.blt .str (.cons (.varB 3) .nil)))) .nil)) (.cons (.ret (.var 1)) .nil)))
def b__law_walk : Ss := (.cons (.set 3 [] (.tup .nil)) (.cons (.set 4 [] (.rg1 true (.ix (.varB 0) (.cst (.int 0))))) (.cons (.setF 5 [] (.lst .nil)) (.cons (.fors [] (.var 6) (.val (.var 1)) (.cons (.set 4 [] (.call "_law_next" (.cons (.var 0) (.cons (.var 3) (.cons (.var 4) (.cons (.var 6) (.cons (.var 2) .nil))))))) (.cons (.set 3 [] (.var 6)) (.cons (.app 5 [] (.var 4)) .nil)))) (.cons (.ret (.var 5)) .nil)))))
def b_all_nodes : Ss := (.cons (.ret (.bin .Sub (.bin .LShift (.cst (.int 1)) (.ix (.varB 0) (.cst (.int 0)))) (.cst (.int 1)))) .nil)
def b_around : Ss := (.cons (.set 2 [] (.cst (.int 0))) (.cons (.fors [] (.var 3) (.val (.call "nodes_of" (.cons (.var 1) .nil))) (.cons (.set 2 [] (.bin .BitOr (.varB 2) (.ix (.varB 0) (.varB 3)))) .nil)) (.cons (.ret (.var 2)) .nil)))
def b_below_masks : Ss := (.cons (.setF 1 [] (.lc [4, 5] (.tup (.cons (.var 4) (.cons (.var 5) .nil))) (.val (.varB 0)) .none (.call "mask_of" (.cons (.var 4) .nil)))) (.cons (.fors [] (.var 2) (.rng3 (.bin .Sub (.blt .len (.cons (.varB 0) .nil)) (.cst (.int 1))) (.cst (.int 0)) (.un .USub (.cst (.int 1)))) (.cons (.set 3 [] (.ix (.ix (.varB 0) (.varB 2)) (.cst (.int 1)))) (.cons (.sto 1 [] (.var 3) (.bin .BitOr (.ix (.varB 1) (.varB 3)) (.ix (.varB 1) (.varB 2)))) .nil))) (.cons (.ret (.var 1)) .nil)))
def b_best_line : Ss := (.cons (.set 1 [] (.call "neighbour_masks" (.cons (.var 0) .nil))) (.cons (.setF 2 [] (.lst (.cons (.cst (.int 0)) .nil))) (.cons (.setF 3 [] (.lst (.cons (.cst (.int 0)) .nil))) (.cons (.fors [] (.var 4) (.rng2 (.cst (.int 1)) (.bin .LShift (.cst (.int 1)) (.ix (.varB 0) (.cst (.int 0))))) (.cons (.setF 6 [] (.lst .nil)) (.cons (.fors [] (.var 7) (.val (.call "nodes_of" (.cons (.var 4) .nil))) (.cons (.set 8 [] (.bin .BitAnd (.varB 4) (.un .Invert (.bin .LShift (.cst (.int 1)) (.varB 7))))) (.cons (.app 6 [] (.tup (.cons (.blt .max (.cons (.ix (.varB 2) (.varB 8)) (.cons (.bin .Add (.cst (.int 1)) (.call "size_of" (.cons (.call "border_mask" (.cons (.var 1) (.cons (.var 8) .nil))) .nil))) .nil))) (.cons (.var 7) .nil)))) .nil))) (.cons (.asg [] (.tup (.cons (.var 9) (.cons (.var 7) .nil))) (.blt .min (.cons (.varB 6) .nil))) (.cons (.app 2 [] (.var 9)) (.cons (.app 3 [] (.var 7)) .nil)))))) (.cons (.set 4 [] (.call "all_nodes" (.cons (.var 0) .nil))) (.cons (.setF 5 [] (.lst .nil)) (.cons (.whl (.cmp .NotEq (.varB 4) (.cst (.int 0))) (.cons (.app 5 [] (.ix (.varB 3) (.varB 4))) (.cons (.set 4 [] (.bin .BitAnd (.varB 4) (.un .Invert (.bin .LShift (.cst (.int 1)) (.ix (.varB 3) (.varB 4)))))) .nil))) (.cons (.ret (.trev (.varB 5))) .nil))))))))
def b_best_order : Ss := (.cons (.set 1 [] (.ix (.call "needs_by_gone" (.cons (.call "neighbour_masks" (.cons (.var 0) .nil)) .nil)) (.cst (.int 1)))) (.cons (.set 2 [] (.call "all_nodes" (.cons (.var 0) .nil))) (.cons (.setF 3 [] (.lst .nil)) (.cons (.whl (.cmp .NotEq (.varB 2) (.cst (.int 0))) (.cons (.app 3 [] (.ix (.varB 1) (.varB 2))) (.cons (.set 2 [] (.bin .BitAnd (.varB 2) (.un .Invert (.bin .LShift (.cst (.int 1)) (.ix (.varB 1) (.varB 2)))))) .nil))) (.cons (.ret (.trev (.varB 3))) .nil)))))
def b_best_plan : Ss := (.cons (.ifs (.cmp .Eq (.varB 1) (.cst (.str "unseen"))) (.cons (.ret (.call "plan_of_line" (.cons (.var 0) (.cons (.call "best_line" (.cons (.var 0) .nil)) .nil)))) .nil) .nil) (.cons (.set 2 [] (.call "rooms_of" (.cons (.var 0) (.cons (.call "best_order" (.cons (.var 0) .nil)) .nil)))) (.cons (.ifs (.cmp .Eq (.varB 1) (.cst (.str "seen"))) (.cons (.ret (.call "hunt_of" (.cons (.var 0) (.cons (.var 2) .nil)))) .nil) .nil) (.cons (.ret (.call "plan_of" (.cons (.var 2) .nil))) .nil))))
def b_beyond : Ss := (.cons (.set 3 [] (.call "spread" (.cons (.var 0) (.cons (.bin .LShift (.cst (.int 1)) (.varB 2)) (.cons (.bin .BitOr (.varB 1) (.bin .LShift (.cst (.int 1)) (.varB 2))) .nil))))) (.cons (.ret (.bin .BitAnd (.call "around" (.cons (.var 0) (.cons (.var 3) .nil))) (.un .Invert (.bin .BitOr (.varB 1) (.bin .LShift (.cst (.int 1)) (.varB 2)))))) .nil))
def b_border_mask : Ss := (.cons (.set 2 [] (.cst (.int 0))) (.cons (.fors [] (.var 3) (.val (.call "nodes_of" (.cons (.var 1) .nil))) (.cons (.ifs (.cmp .NotEq (.bin .BitAnd (.ix (.varB 0) (.varB 3)) (.un .Invert (.var 1))) (.cst (.int 0))) (.cons (.set 2 [] (.bin .BitOr (.varB 2) (.bin .LShift (.cst (.int 1)) (.varB 3)))) .nil) .nil) .nil)) (.cons (.ret (.var 2)) .nil)))
def b_follow : Ss := (.cons (.fors [] (.tup (.cons (.var 5) (.cons (.tup (.cons (.var 6) (.cons (.var 7) .nil))) .nil))) (.enm (.var 1)) (.cons (.ifs (.and (.cmp .Eq (.varB 7) (.varB 3)) (.one (.cmp .Eq (.bin .BitAnd (.varB 4) (.un .Invert (.ix (.varB 2) (.varB 5)))) (.cst (.int 0))))) (.cons (.set 8 [] (.call "mask_of" (.cons (.var 6) .nil))) (.cons (.set 9 [] (.call "next_parts" (.cons (.var 0) (.cons (.call "mask_of" (.cons (.ix (.ix (.varB 1) (.varB 3)) (.cst (.int 0))) .nil)) (.cons (.var 4) (.cons (.var 8) .nil)))))) (.cons (.ret (.tup (.cons (.var 6) (.cons (.blt .tuple (.cons (.lc [10] (.var 10) (.val (.varB 9)) .none (.tup (.cons (.call "nodes_of" (.cons (.var 10) .nil)) (.cons (.call "follow" (.cons (.var 0) (.cons (.var 1) (.cons (.var 2) (.cons (.var 5) (.cons (.var 10) .nil)))))) .nil)))) .nil)) .nil)))) .nil))) .nil) .nil)) (.cons (.ret (.tup (.cons (.tup .nil) (.cons (.tup .nil) .nil)))) .nil))
def b_hunt_of : Ss := (.cons (.set 2 [] (.call "neighbour_masks" (.cons (.var 0) .nil))) (.cons (.set 3 [] (.call "below_masks" (.cons (.var 1) .nil))) (.cons (.set 4 [] (.ix (.ix (.varB 1) (.cst (.int 0))) (.cst (.int 0)))) (.cons (.setF 5 [] (.lst .nil)) (.cons (.fors [] (.var 6) (.val (.call "part_masks" (.cons (.var 2) (.cons (.call "all_nodes" (.cons (.var 0) .nil)) .nil)))) (.cons (.set 7 [] (.call "next_parts" (.cons (.var 2) (.cons (.cst (.int 0)) (.cons (.var 6) (.cons (.call "mask_of" (.cons (.var 4) .nil)) .nil)))))) (.cons (.set 8 [] (.blt .tuple (.cons (.lc [9] (.var 9) (.val (.varB 7)) .none (.tup (.cons (.call "nodes_of" (.cons (.var 9) .nil)) (.cons (.call "follow" (.cons (.var 2) (.cons (.var 1) (.cons (.var 3) (.cons (.cst (.int 0)) (.cons (.var 9) .nil)))))) .nil)))) .nil))) (.cons (.app 5 [] (.tup (.cons (.call "nodes_of" (.cons (.var 6) .nil)) (.cons (.tup (.cons (.var 4) (.cons (.var 8) .nil))) .nil)))) .nil)))) (.cons (.ret (.blt .tuple (.cons (.varB 5) .nil))) .nil))))))
def b_is_graph : Ss := (.cons (.asg [] (.tup (.cons (.var 1) (.cons (.var 2) .nil))) (.var 0)) (.cons (.ifs (.or (.cmp .Lt (.varB 1) (.cst (.int 1))) (.or (.cmp .Gt (.varB 1) (.glob (.int 8))) (.one (.cmp .NotEq (.blt .list (.cons (.varB 2) .nil)) (.sset (.varB 2)))))) (.cons (.ret (.cst (.bool false))) .nil) .nil) (.cons (.fors [] (.tup (.cons (.var 3) (.cons (.var 4) .nil))) (.val (.var 2)) (.cons (.ifs (.not (.chain (.cst (.int 0)) .LtE (.varB 3) (.link .Lt (.varB 4) (.last .Lt (.varB 1))))) (.cons (.ret (.cst (.bool false))) .nil) .nil) .nil)) (.cons (.ret (.cst (.bool true))) .nil))))
def b_law_v10 : Ss := (.cons (.set 1 [] (.call "_law_graph" (.cons (.call "_law_cell" (.cons (.var 0) (.cons (.cst (.int 0)) .nil))) (.cons (.cst (.int 6)) .nil)))) (.cons (.set 2 [] (.call "_law_order_need" (.cons (.var 1) (.cons (.call "best_order" (.cons (.var 1) .nil)) .nil)))) (.cons (.set 3 [] (.call "_law_line_need" (.cons (.var 1) (.cons (.call "best_line" (.cons (.var 1) .nil)) .nil)))) (.cons (.set 4 [] (.lst (.cons (.call "need" (.cons (.var 1) (.cons (.cst (.str "seen")) .nil))) (.cons (.call "need" (.cons (.var 1) (.cons (.cst (.str "lazy")) .nil))) (.cons (.call "need" (.cons (.var 1) (.cons (.cst (.str "unseen")) .nil))) .nil))))) (.cons (.ifs (.or (.cmp .NotEq (.lc [8] (.var 8) (.val (.varB 4)) (.some (.isi .bool (.varB 8))) (.var 8)) (.lst .nil)) (.or (.cmp .NotEq (.varB 4) (.lst (.cons (.var 2) (.cons (.var 2) (.cons (.var 3) .nil))))) (.one (.cmp .Lt (.varB 3) (.varB 2))))) (.cons (.ret (.cst (.bool false))) .nil) .nil) (.cons (.ifs (.not (.call "_law_hunt_right" (.cons (.var 1) (.cons (.var 2) (.cons (.call "best_plan" (.cons (.var 1) (.cons (.cst (.str "seen")) .nil))) .nil))))) (.cons (.ret (.cst (.bool false))) .nil) .nil) (.cons (.fors [] (.tup (.cons (.var 5) (.cons (.var 6) .nil))) (.val (.lst (.cons (.tup (.cons (.cst (.str "lazy")) (.cons (.var 2) .nil))) (.cons (.tup (.cons (.cst (.str "unseen")) (.cons (.var 3) .nil))) .nil)))) (.cons (.set 7 [] (.call "best_plan" (.cons (.var 1) (.cons (.var 5) .nil)))) (.cons (.ifs (.or (.not (.isi .tuple (.varB 7))) (.one (.not (.call "_law_catches" (.cons (.var 1) (.cons (.var 7) (.cons (.var 5) (.cons (.var 6) .nil)))))))) (.cons (.ret (.cst (.bool false))) .nil) .nil) .nil))) (.cons (.ret (.cst (.bool true))) .nil))))))))
def b_law_v43 : Ss := (.cons (.fors [] (.tup (.cons (.var 1) (.cons (.var 2) .nil))) (.enm (.slc (.varB 0) .none (.some (.cst (.int 30))))) (.cons (.set 3 [] (.call "_law_mixed" (.cons (.var 2) (.cons (.var 1) .nil)))) (.cons (.set 4 [] (.call "_law_spoilt" (.cons (.call "_law_graph" (.cons (.bin .FloorDiv (.varB 3) (.cst (.int 1000))) (.cons (.cst (.int 8)) .nil))) (.cons (.var 3) .nil)))) (.cons (.set 5 [] (.cst .none)) (.cons (.tryx "BadText" (some "e") 6 7 [("BadText", "BadSentence", false), ("BadText", "BadText", true), ("BadText", "GroundError", true), ("BadText", "NoCatch", false), ("BadText", "NotHere", false)] (.ifF (.orr (.not (.isi "GroundError")) (.one (.isiT ["BadSentence", "NoCatch", "NotHere"]))) (.nx)) (.cons (.set 5 [] (.call "read_graph" (.cons (.var 4) .nil))) .nil)) (.cons (.ifs (.and (.cmp .IsNot (.varB 5) (.cst .none)) (.one (.or (.not (.call "_law_good" (.cons (.var 5) .nil))) (.one (.cmp .NotEq (.call "_law_text" (.cons (.var 5) .nil)) (.varB 4)))))) (.cons (.ret (.cst (.bool false))) .nil) .nil) .nil)))))) (.cons (.ret (.cst (.bool true))) .nil))
def b_line_need : Ss := (.cons (.set 2 [] (.call "neighbour_masks" (.cons (.var 0) .nil))) (.cons (.set 3 [] (.cst (.int 0))) (.cons (.set 4 [] (.cst (.int 0))) (.cons (.fors [] (.var 5) (.val (.var 1)) (.cons (.set 4 [] (.blt .max (.cons (.varB 4) (.cons (.bin .Add (.cst (.int 1)) (.call "size_of" (.cons (.call "border_mask" (.cons (.var 2) (.cons (.var 3) .nil))) .nil))) .nil)))) (.cons (.set 3 [] (.bin .BitOr (.varB 3) (.bin .LShift (.cst (.int 1)) (.varB 5)))) .nil))) (.cons (.ret (.var 4)) .nil)))))
def b_mask_of : Ss := (.cons (.set 1 [] (.cst (.int 0))) (.cons (.fors [] (.var 2) (.val (.var 0)) (.cons (.set 1 [] (.bin .BitOr (.varB 1) (.bin .LShift (.cst (.int 1)) (.varB 2)))) .nil)) (.cons (.ret (.var 1)) .nil)))
def b_need : Ss := (.cons (.ifs (.cmp .Eq (.varB 1) (.cst (.str "unseen"))) (.cons (.ret (.call "line_need" (.cons (.var 0) (.cons (.call "best_line" (.cons (.var 0) .nil)) .nil)))) .nil) .nil) (.cons (.ret (.call "order_need" (.cons (.var 0) (.cons (.call "best_order" (.cons (.var 0) .nil)) .nil)))) .nil))
def b_needs_by_gone : Ss := (.cons (.setF 1 [] (.lst (.cons (.cst (.int 0)) .nil))) (.cons (.setF 2 [] (.lst (.cons (.cst (.int 0)) .nil))) (.cons (.fors [] (.var 3) (.rng2 (.cst (.int 1)) (.bin .LShift (.cst (.int 1)) (.blt .len (.cons (.varB 0) .nil)))) (.cons (.setF 4 [] (.lst .nil)) (.cons (.fors [] (.var 5) (.val (.call "nodes_of" (.cons (.var 3) .nil))) (.cons (.set 6 [] (.bin .BitAnd (.varB 3) (.un .Invert (.bin .LShift (.cst (.int 1)) (.varB 5))))) (.cons (.app 4 [] (.tup (.cons (.blt .max (.cons (.ix (.varB 1) (.varB 6)) (.cons (.bin .Add (.cst (.int 1)) (.call "size_of" (.cons (.call "beyond" (.cons (.var 0) (.cons (.var 6) (.cons (.var 5) .nil)))) .nil))) .nil))) (.cons (.var 5) .nil)))) .nil))) (.cons (.asg [] (.tup (.cons (.var 7) (.cons (.var 5) .nil))) (.blt .min (.cons (.varB 4) .nil))) (.cons (.app 1 [] (.var 7)) (.cons (.app 2 [] (.var 5)) .nil)))))) (.cons (.ret (.tup (.cons (.var 1) (.cons (.var 2) .nil)))) .nil))))
def b_neighbour_masks : Ss := (.cons (.setF 1 [] (.bin .Mult (.lst (.cons (.cst (.int 0)) .nil)) (.ix (.varB 0) (.cst (.int 0))))) (.cons (.fors [] (.tup (.cons (.var 2) (.cons (.var 3) .nil))) (.val (.ix (.varB 0) (.cst (.int 1)))) (.cons (.sto 1 [] (.var 2) (.bin .BitOr (.ix (.varB 1) (.varB 2)) (.bin .LShift (.cst (.int 1)) (.varB 3)))) (.cons (.sto 1 [] (.var 3) (.bin .BitOr (.ix (.varB 1) (.varB 3)) (.bin .LShift (.cst (.int 1)) (.varB 2)))) .nil))) (.cons (.ret (.var 1)) .nil)))
def b_next_parts : Ss := (.cons (.set 4 [] (.bin .Sub (.bin .LShift (.cst (.int 1)) (.blt .len (.cons (.varB 0) .nil))) (.cst (.int 1)))) (.cons (.set 5 [] (.call "spread" (.cons (.var 0) (.cons (.var 2) (.cons (.bin .BitAnd (.varB 4) (.un .Invert (.bin .BitAnd (.varB 1) (.varB 3)))) .nil))))) (.cons (.ret (.lc [6] (.var 6) (.val (.call "part_masks" (.cons (.var 0) (.cons (.bin .BitAnd (.varB 4) (.un .Invert (.var 3))) .nil)))) (.some (.cmp .NotEq (.bin .BitAnd (.varB 6) (.varB 5)) (.cst (.int 0)))) (.var 6))) .nil)))
def b_nodes_of : Ss := (.cons (.ret (.blt .tuple (.cons (.lc [1] (.var 1) (.rng1 (.bits (.varB 0))) (.some (.cmp .Eq (.bin .BitAnd (.bin .RShift (.varB 0) (.varB 1)) (.cst (.int 1))) (.cst (.int 1)))) (.var 1)) .nil))) .nil)
def b_order_need : Ss := (.cons (.set 2 [] (.call "neighbour_masks" (.cons (.var 0) .nil))) (.cons (.set 3 [] (.cst (.int 0))) (.cons (.set 4 [] (.cst (.int 0))) (.cons (.fors [] (.var 5) (.val (.var 1)) (.cons (.set 4 [] (.blt .max (.cons (.varB 4) (.cons (.bin .Add (.cst (.int 1)) (.call "size_of" (.cons (.call "beyond" (.cons (.var 2) (.cons (.var 3) (.cons (.var 5) .nil)))) .nil))) .nil)))) (.cons (.set 3 [] (.bin .BitOr (.varB 3) (.bin .LShift (.cst (.int 1)) (.varB 5)))) .nil))) (.cons (.ret (.var 4)) .nil)))))
def b_part_masks : Ss := (.cons (.setF 2 [] (.lst .nil)) (.cons (.set 3 [] (.var 1)) (.cons (.whl (.cmp .NotEq (.varB 3) (.cst (.int 0))) (.cons (.set 4 [] (.call "spread" (.cons (.var 0) (.cons (.bin .BitAnd (.varB 3) (.un .USub (.var 3))) (.cons (.var 1) .nil))))) (.cons (.app 2 [] (.var 4)) (.cons (.set 3 [] (.bin .BitAnd (.varB 3) (.un .Invert (.var 4)))) .nil)))) (.cons (.ret (.var 2)) .nil))))
def b_plan_of : Ss := (.cons (.setF 1 [] (.lst .nil)) (.cons (.fors [] (.tup (.cons (.var 2) (.cons (.var 3) .nil))) (.val (.var 0)) (.cons (.ifs (.cmp .GtE (.varB 3) (.cst (.int 0))) (.cons (.app 1 [] (.call "nodes_of" (.cons (.bin .BitAnd (.call "mask_of" (.cons (.var 2) .nil)) (.call "mask_of" (.cons (.ix (.ix (.varB 0) (.varB 3)) (.cst (.int 0))) .nil))) .nil))) .nil) .nil) (.cons (.app 1 [] (.var 2)) .nil))) (.cons (.ret (.blt .tuple (.cons (.varB 1) .nil))) .nil)))
def b_plan_of_line : Ss := (.cons (.set 2 [] (.call "neighbour_masks" (.cons (.var 0) .nil))) (.cons (.set 3 [] (.cst (.int 0))) (.cons (.setF 4 [] (.lst .nil)) (.cons (.fors [] (.var 5) (.val (.var 1)) (.cons (.app 4 [] (.call "nodes_of" (.cons (.bin .BitOr (.call "border_mask" (.cons (.var 2) (.cons (.var 3) .nil))) (.bin .LShift (.cst (.int 1)) (.varB 5))) .nil))) (.cons (.set 3 [] (.bin .BitOr (.varB 3) (.bin .LShift (.cst (.int 1)) (.varB 5)))) .nil))) (.cons (.ret (.blt .tuple (.cons (.varB 4) .nil))) .nil)))))
def b_read_edge : Ss := (.cons (.ifs (.or (.cmp .NotEq (.blt .len (.cons (.varB 0) .nil)) (.cst (.int 3))) (.or (.cmp .NotEq (.ix (.varB 0) (.cst (.int 1))) (.cst (.str "-"))) (.or (.cmp .NotIn (.ix (.varB 0) (.cst (.int 0))) (.cst (.str "01234567"))) (.one (.cmp .NotIn (.ix (.varB 0) (.cst (.int 2))) (.cst (.str "01234567"))))))) (.cons (.rais "BadText") .nil) .nil) (.cons (.ret (.tup (.cons (.blt .int (.cons (.ix (.varB 0) (.cst (.int 0))) .nil)) (.cons (.blt .int (.cons (.ix (.varB 0) (.cst (.int 2))) .nil)) .nil)))) .nil))
def b_read_graph_v2 : Ss := (.cons (.set 1 [] (.split (.varB 0) (.cst (.str " ")))) (.cons (.ifs (.or (.cmp .NotEq (.blt .len (.cons (.ix (.varB 1) (.cst (.int 0))) .nil)) (.cst (.int 2))) (.or (.cmp .NotEq (.ix (.ix (.varB 1) (.cst (.int 0))) (.cst (.int 1))) (.cst (.str ":"))) (.one (.cmp .NotIn (.ix (.ix (.varB 1) (.cst (.int 0))) (.cst (.int 0))) (.cst (.str "12345678")))))) (.cons (.rais "BadText") .nil) .nil) (.cons (.set 2 [] (.tup (.cons (.blt .int (.cons (.ix (.ix (.varB 1) (.cst (.int 0))) (.cst (.int 0))) .nil)) (.cons (.blt .tuple (.cons (.lcx [3] (.var 3) (.val (.slc (.varB 1) (.some (.cst (.int 1))) .none)) (.call "read_edge" (.cons (.var 3) .nil))) .nil)) .nil)))) (.cons (.ifs (.not (.call "is_graph" (.cons (.var 2) .nil))) (.cons (.rais "BadText") .nil) .nil) (.cons (.ret (.var 2)) .nil)))))
def b_rooms_of : Ss := (.cons (.set 2 [] (.call "neighbour_masks" (.cons (.var 0) .nil))) (.cons (.setD 3 [] (.dc [9, 6] (.tup (.cons (.var 9) (.cons (.var 6) .nil))) (.enm (.varB 1)) .none (.var 6) (.bin .Sub (.bin .Sub (.blt .len (.cons (.varB 1) .nil)) (.cst (.int 1))) (.varB 9)))) (.cons (.set 4 [] (.call "all_nodes" (.cons (.var 0) .nil))) (.cons (.setF 5 [] (.lst .nil)) (.cons (.fors [] (.var 6) (.rev (.var 1)) (.cons (.set 4 [] (.bin .BitAnd (.varB 4) (.un .Invert (.bin .LShift (.cst (.int 1)) (.varB 6))))) (.cons (.set 7 [] (.call "nodes_of" (.cons (.call "beyond" (.cons (.var 2) (.cons (.var 4) (.cons (.var 6) .nil)))) .nil))) (.cons (.set 8 [] (.blt .max (.cons (.bin .Add (.lc [10] (.var 10) (.val (.varB 7)) .none (.ix (.varB 3) (.varB 10))) (.lst (.cons (.blt .min (.cons (.cst (.int 0)) (.cons (.bin .Sub (.blt .len (.cons (.varB 5) .nil)) (.cst (.int 1))) .nil))) .nil))) .nil))) (.cons (.app 5 [] (.tup (.cons (.call "nodes_of" (.cons (.bin .BitOr (.call "mask_of" (.cons (.var 7) .nil)) (.bin .LShift (.cst (.int 1)) (.varB 6))) .nil)) (.cons (.var 8) .nil)))) .nil))))) (.cons (.ret (.blt .tuple (.cons (.varB 5) .nil))) .nil))))))
def b_size_of : Ss := (.cons (.ret (.blt .len (.cons (.call "nodes_of" (.cons (.var 0) .nil)) .nil))) .nil)
def b_spread : Ss := (.cons (.set 3 [] (.var 1)) (.cons (.set 4 [] (.var 1)) (.cons (.whl (.cmp .NotEq (.varB 4) (.cst (.int 0))) (.cons (.set 4 [] (.bin .BitAnd (.bin .BitAnd (.call "around" (.cons (.var 0) (.cons (.var 4) .nil))) (.varB 2)) (.un .Invert (.var 3)))) (.cons (.set 3 [] (.bin .BitOr (.varB 3) (.varB 4))) .nil))) (.cons (.ret (.var 3)) .nil))))
end Pv

end
section
namespace Pv
open PySem

/-! ### reading the bodies: what is computed, step by step -/
def iteS (a b : SR) : D → SR
  | .bool k => if k then a else b
  | _ => .st
@[simp] theorem iteS_b (a b : SR) (k : Bool) : iteS a b (.bool k) = if k then a else b := id rfl
@[simp] theorem ev_cst (d : D) : ev (E.cst d) = (fun _ _ => .ok d) := id rfl
@[simp] theorem ev_var (i : Nat) : ev (E.var i) = (fun _ ρ => rdV i ρ) := id rfl
@[simp] theorem ev_varB (i : Nat) : ev (E.varB i) = (fun _ ρ => rdB i ρ) := id rfl
@[simp] theorem ev_glob (d : D) : ev (E.glob d) = (fun _ _ => .ok d) := id rfl
@[simp] theorem ev_bin (op : Operator) (a : E) (b : E) : ev (E.bin op a b) = (fun Φ ρ => do let x ← ev a Φ ρ; let y ← ev b Φ ρ; Res.ofO (binop op x y)) := id rfl
@[simp] theorem ev_un (op : UnaryOp) (a : E) : ev (E.un op a) = (fun Φ ρ => do let x ← ev a Φ ρ; Res.ofO (unop op x)) := id rfl
@[simp] theorem ev_cmp (op : CmpOp) (a : E) (b : E) : ev (E.cmp op a b) = (fun Φ ρ => do let x ← ev a Φ ρ; let y ← ev b Φ ρ; cmpR op x y) := id rfl
@[simp] theorem ev_one (a : E) : ev (E.one a) = (ev a) := id rfl
@[simp] theorem ev_and (a : E) (b : E) : ev (E.and a b) = (fun Φ ρ => andR (ev a Φ ρ) (ev b Φ ρ)) := id rfl
@[simp] theorem ev_or (a : E) (b : E) : ev (E.or a b) = (fun Φ ρ => orR (ev a Φ ρ) (ev b Φ ρ)) := id rfl
@[simp] theorem ev_not (a : E) : ev (E.not a) = (fun Φ ρ => notR (ev a Φ ρ)) := id rfl
@[simp] theorem ev_ite (t : E) (a : E) (b : E) : ev (E.ite t a b) = (fun Φ ρ => iteR (ev t Φ ρ) (ev a Φ ρ) (ev b Φ ρ)) := id rfl
@[simp] theorem ev_tup (es : Es) : ev (E.tup es) = (fun Φ ρ => do let r ← evs es Φ ρ; smL r .tuple) := id rfl
@[simp] theorem ev_lst (es : Es) : ev (E.lst es) = (fun Φ ρ => do let r ← evs es Φ ρ; smL r .list) := id rfl
@[simp] theorem ev_ix (a : E) (b : E) : ev (E.ix a b) = (fun Φ ρ => do let x ← ev a Φ ρ; let y ← ev b Φ ρ; Res.ofO (ixop x y)) := id rfl
@[simp] theorem ev_slc (a : E) (lo : Eo) (hi : Eo) : ev (E.slc a lo hi) = (fun Φ ρ => do let x ← ev a Φ ρ; let l ← evo lo Φ ρ; let h ← evo hi Φ ρ; Res.ofO (slop x l h)) := id rfl
@[simp] theorem ev_blt (b : Bn) (es : Es) : ev (E.blt b es) = (fun Φ ρ => do let r ← evs es Φ ρ; Res.ofO (bltop b r)) := id rfl
@[simp] theorem ev_isi (k : Cl) (a : E) : ev (E.isi k a) = (fun Φ ρ => do let x ← ev a Φ ρ; isiR k x) := id rfl
@[simp] theorem ev_inK (neg : Bool) (i : Nat) (a : E) : ev (E.inK neg i a) = (fun Φ ρ => inKR neg i ρ (ev a Φ ρ)) := id rfl
@[simp] theorem ev_lcd (own : List Nat) (t : Tg) (j : Nat) (cond : Eo) (elt : E) : ev (E.lcd own t j cond elt) = lcD own t j (evc cond) (ev elt) := id rfl
@[simp] theorem ex_forD (t : Tg) (j : Nat) (b : Ss) : ex (S.forD t j b) = (fun Φ ρ => forD t j (exs b Φ) ρ) := id rfl
@[simp] theorem ex_pop (i : Nat) (t : Tg) : ex (S.pop i t) = (fun _ ρ => popS i t ρ) := id rfl
@[simp] theorem ex_popAt (i : Nat) (is : List Nat) (e : E) : ex (S.popAt i is e) = (fun Φ ρ => popAtS i (dis is ρ) (ev e Φ (dis is ρ))) := id rfl
@[simp] theorem ex_ins (i : Nat) (is : List Nat) (k e : E) : ex (S.ins i is k e) = (fun Φ ρ => insS i (dis is ρ) (ev k Φ (dis is ρ)) (ev e Φ (dis is ρ))) := id rfl
@[simp] theorem ex_setNL (i : Nat) (is own : List Nat) (t : Tg) (it : It) : ex (S.setNL i is own t it) = (fun Φ ρ => stNL i own t (evi it) Φ (dis is ρ)) := id rfl
@[simp] theorem ex_setND (i : Nat) (is own : List Nat) (t : Tg) (it : It) (k : E) : ex (S.setND i is own t it k) = (fun Φ ρ => stND i own t (evi it) (ev k) Φ (dis is ρ)) := id rfl
@[simp] theorem ex_appN (i : Nat) (is : List Nat) (k e : E) : ex (S.appN i is k e) = (fun Φ ρ => appNS i (dis is ρ) (ev k Φ (dis is ρ)) (ev e Φ (dis is ρ))) := id rfl
@[simp] theorem ex_dis (is : List Nat) (s : S) : ex (S.dis is s) = (fun Φ ρ => ex s Φ (dis is ρ)) := id rfl
@[simp] theorem ev_bits (a : E) : ev (E.bits a) = (fun Φ ρ => do let x ← ev a Φ ρ; bitR x) := id rfl
@[simp] theorem ev_rg1 (k : Bool) (a : E) : ev (E.rg1 k a) = (fun Φ ρ => do let x ← ev a Φ ρ; Res.ofO (rgop (kfn k) [x])) := id rfl
@[simp] theorem ev_rg2 (k : Bool) (a b : E) : ev (E.rg2 k a b) = (fun Φ ρ => do let x ← ev a Φ ρ; let y ← ev b Φ ρ; Res.ofO (rgop (kfn k) [x, y])) := id rfl
@[simp] theorem ev_lset (a : E) : ev (E.lset a) = (fun Φ ρ => do let x ← ev a Φ ρ; lsR2 x) := id rfl
@[simp] theorem ev_sset (a : E) : ev (E.sset a) = (fun Φ ρ => do let x ← ev a Φ ρ; ssR x) := id rfl
@[simp] theorem ev_idxT (a b : E) : ev (E.idxT a b) = (fun Φ ρ => do let x ← ev a Φ ρ; idxTR x (ev b Φ ρ)) := id rfl
@[simp] theorem ev_idxS (a b : E) : ev (E.idxS a b) = (fun Φ ρ => do let x ← ev a Φ ρ; idxSR x (ev b Φ ρ)) := id rfl
@[simp] theorem ev_cntT (a b : E) : ev (E.cntT a b) = (fun Φ ρ => do let x ← ev a Φ ρ; cntR x (ev b Φ ρ)) := id rfl
@[simp] theorem ev_idx (a b : E) : ev (E.idx a b) = (fun Φ ρ => do let x ← ev a Φ ρ; idxR x (ev b Φ ρ)) := id rfl
@[simp] theorem ev_dnil : ev E.dnil = dNil := id rfl
@[simp] theorem ev_join (z : Str) (a : E) : ev (E.join z a) = (fun Φ ρ => do let x ← ev a Φ ρ; joinR z x) := id rfl
@[simp] theorem ev_split (a b : E) : ev (E.split a b) = (fun Φ ρ => do let x ← ev a Φ ρ; splitR x (ev b Φ ρ)) := id rfl
@[simp] theorem ev_dcp (a : E) : ev (E.dcp a) = (fun Φ ρ => do let x ← ev a Φ ρ; dcpR x) := id rfl
@[simp] theorem ev_dd2 (x y : Str) (a b : E) : ev (E.dd2 x y a b) = (fun Φ ρ => do let u ← ev a Φ ρ; let v ← ev b Φ ρ; dd2R x y u v) := id rfl
@[simp] theorem dcpR_k (es : List (D × D)) (h : (es.all fun p => (keyO p.1).isSome) = true) : dcpR (.dict es) = .ok (.dict es) := by
  show (if (es.all fun p => (keyO p.1).isSome) = true then Res.ok (PyData.dict es) else .st) = _
  rw [if_pos h]
@[simp] theorem dNil_eq (Φ : Calls) (ρ : Env) : dNil Φ ρ = .ok (.dict []) := id rfl
@[simp] theorem ev_dc (own : List Nat) (t : Tg) (it : It) (cond : Eo) (k v : E) : ev (E.dc own t it cond k v) = (dcE own t (evi it) (evc cond) (ev k) (ev v)) := id rfl
@[simp] theorem ex_setD (i : Nat) (is : List Nat) (e : E) : ex (S.setD i is e) = (fun Φ ρ => stD i (ev e Φ (dis is ρ)) (dis is ρ)) := id rfl
@[simp] theorem ex_stoD (i : Nat) (is : List Nat) (k : E) (e : E) : ex (S.stoD i is k e) = (fun Φ ρ => setSD i (dis is ρ) (ev e Φ (dis is ρ)) (ev k Φ (dis is ρ))) := id rfl
@[simp] theorem ev_trev (a : E) : ev (E.trev a) = (fun Φ ρ => do let x ← ev a Φ ρ; trev x) := id rfl
@[simp] theorem ev_chain (a : E) (op : CmpOp) (b : E) (r : Ch) : ev (E.chain a op b r) = (fun Φ ρ => do let x ← ev a Φ ρ; linkC op (ev b) (evch r) Φ ρ x) := id rfl
@[simp] theorem evch_last (op : CmpOp) (b : E) : evch (Ch.last op b) = lastC op (ev b) := id rfl
@[simp] theorem evch_link (op : CmpOp) (b : E) (r : Ch) : evch (Ch.link op b r) = linkC op (ev b) (evch r) := id rfl
@[simp] theorem lastC_eq (op : CmpOp) (f : EvE) (Φ : Calls) (ρ : Env) (x : D) : lastC op f Φ ρ x = (do let y ← f Φ ρ; cmpR op x y) := id rfl
@[simp] theorem linkC_eq (op : CmpOp) (f : EvE) (g : Calls → Env → D → Res D) (Φ : Calls) (ρ : Env) (x : D) : linkC op f g Φ ρ x = (do let y ← f Φ ρ; tst (cmpR op x y) fun k => if k then g Φ ρ y else .ok (.bool false)) := id rfl
@[simp] theorem trev_l (ds : List D) : trev (.list ds) = .ok (.tuple ds.reverse) := id rfl
@[simp] theorem ex_rem (i : Nat) (is : List Nat) (e : E) : ex (S.rem i is e) = (fun Φ ρ => remS i (dis is ρ) (ev e Φ (dis is ρ))) := id rfl
@[simp] theorem kfn_t (xs : List D) : kfn true xs = .tuple xs := id rfl
@[simp] theorem kfn_f (xs : List D) : kfn false xs = .list xs := id rfl
@[simp] theorem ev_call (f : Str) (es : Es) : ev (E.call f es) = (fun Φ ρ => do let r ← evs es Φ ρ; Φ f r) := id rfl
@[simp] theorem ev_lent (f : Str) (es : Es) : ev (E.lent f es) = (fun Φ ρ => do let r ← evs es Φ ρ; purR (Φ f r)) := id rfl
@[simp] theorem ev_lcx (own : List Nat) (t : Tg) (it : It) (elt : E) : ev (E.lcx own t it elt) = (lcXE own t (evi it) (ev elt)) := id rfl
@[simp] theorem ev_lc (own : List Nat) (t : Tg) (it : It) (cond : Eo) (elt : E) : ev (E.lc own t it cond elt) = (lcE own t (evi it) (evc cond) (ev elt)) := id rfl
@[simp] theorem evs_nil  : evs (Es.nil ) = (fun _ _ => .ok []) := id rfl
@[simp] theorem evs_cons (a : E) (es : Es) : evs (Es.cons a es) = (fun Φ ρ => do let x ← ev a Φ ρ; let r ← evs es Φ ρ; pure (x :: r)) := id rfl
@[simp] theorem evo_none  : evo (Eo.none ) = (fun _ _ => .ok none) := id rfl
@[simp] theorem evo_some (a : E) : evo (Eo.some a) = (fun Φ ρ => intR (ev a Φ ρ)) := id rfl
@[simp] theorem evc_none  : evc (Eo.none ) = (fun _ _ => .ok (.bool true)) := id rfl
@[simp] theorem evc_some (a : E) : evc (Eo.some a) = (ev a) := id rfl
@[simp] theorem evi_val (a : E) : evi (It.val a) = (fun Φ ρ => do let d ← ev a Φ ρ; itemsOf d) := id rfl
@[simp] theorem evi_rev (a : E) : evi (It.rev a) = (fun Φ ρ => do let d ← ev a Φ ρ; let r ← seqOf d; pure r.reverse) := id rfl
@[simp] theorem evi_enm (a : E) : evi (It.enm a) = (fun Φ ρ => do let d ← ev a Φ ρ; let r ← seqOf d; pure (enumFrom 0 r)) := id rfl
@[simp] theorem evi_rng1 (a : E) : evi (It.rng1 a) = (fun Φ ρ => do let x ← ev a Φ ρ; rng [x]) := id rfl
@[simp] theorem evi_rng2 (a : E) (b : E) : evi (It.rng2 a b) = (fun Φ ρ => do let x ← ev a Φ ρ; let y ← ev b Φ ρ; rng [x, y]) := id rfl
@[simp] theorem evi_rng3 (a : E) (b : E) (d : E) : evi (It.rng3 a b d) = (fun Φ ρ => do let x ← ev a Φ ρ; let y ← ev b Φ ρ; let z ← ev d Φ ρ; rng [x, y, z]) := id rfl
@[simp] theorem ex_pass  : ex (S.pass ) = (fun _ ρ => .nx ρ) := id rfl
@[simp] theorem ex_brk  : ex (S.brk ) = (fun _ ρ => .bk ρ) := id rfl
@[simp] theorem ex_cont  : ex (S.cont ) = (fun _ ρ => .ct ρ) := id rfl
@[simp] theorem ex_ret (e : E) : ex (S.ret e) = (fun Φ ρ => onE (ev e Φ (clr ρ)) ρ .rt) := id rfl
@[simp] theorem ex_expr (e : E) : ex (S.expr e) = (fun Φ ρ => onE (ev e Φ ρ) ρ fun _ => .nx ρ) := id rfl
@[simp] theorem ex_ifs (t : E) (a : Ss) (b : Ss) : ex (S.ifs t a b) = (fun Φ ρ => onE (ev t Φ ρ) ρ (iteS (exs a Φ ρ) (exs b Φ ρ))) := id rfl
@[simp] theorem ex_set (i : Nat) (is : List Nat) (e : E) : ex (S.set i is e) = (fun Φ ρ => onE (ev e Φ (dis is ρ)) (dis is ρ) fun d => .nx ((dis is ρ).set i (some (false, d)))) := id rfl
@[simp] theorem ex_setF (i : Nat) (is : List Nat) (e : E) : ex (S.setF i is e) = (fun Φ ρ => stF i (ev e Φ (dis is ρ)) (dis is ρ)) := id rfl
@[simp] theorem ex_asg (is : List Nat) (t : Tg) (e : E) : ex (S.asg is t e) = (fun Φ ρ => onE (ev e Φ (dis is ρ)) (dis is ρ) fun d => asgS t d (dis is ρ) .nx) := id rfl
@[simp] theorem ex_fors (is : List Nat) (t : Tg) (it : It) (b : Ss) : ex (S.fors is t it b) = (fun Φ ρ => onE (evi it Φ (dis is ρ)) (dis is ρ) fun ds => forL t (exs b Φ) ds (dis is ρ)) := id rfl
@[simp] theorem ex_whl (t : E) (b : Ss) : ex (S.whl t b) = (fun Φ ρ => whileN (ev t Φ) (exs b Φ) FUEL ρ) := id rfl
@[simp] theorem ex_app (i : Nat) (is : List Nat) (e : E) : ex (S.app i is e) = (fun Φ ρ => apS i (dis is ρ) (ev e Φ (dis is ρ))) := id rfl
@[simp] theorem ex_ext (i : Nat) (is : List Nat) (e : E) : ex (S.ext i is e) = (fun Φ ρ => exS i (dis is ρ) (ev e Φ (dis is ρ))) := id rfl
@[simp] theorem ex_sto (i : Nat) (is : List Nat) (k : E) (e : E) : ex (S.sto i is k e) = (fun Φ ρ => setS i (dis is ρ) (ev e Φ (dis is ρ)) (ev k Φ (dis is ρ))) := id rfl
@[simp] theorem exs_nil  : exs (Ss.nil ) = (fun _ ρ => .nx ρ) := id rfl
@[simp] theorem exs_cons (s : S) (ss : Ss) : exs (Ss.cons s ss) = (fun Φ ρ => (ex s Φ ρ).seq (exs ss Φ)) := id rfl

def nD (n : Nat) : D := .int (n : Int)
theorem nD_eq (n : Nat) : nD n = .int (n : Int) := rfl
@[simp] theorem int_0 : (PyData.int 0) = nD 0 := id rfl
@[simp] theorem int_1 : (PyData.int 1) = nD 1 := id rfl
@[simp] theorem int_lit (n : Nat) : (PyData.int (no_index (OfNat.ofNat n))) = nD (OfNat.ofNat n) := id rfl
abbrev natsT (l : List Nat) : D := .tuple (l.map nD)
abbrev natsL (l : List Nat) : D := .list (l.map nD)
@[simp] theorem endR_rt (d : D) : endR (.rt d) = .ok d := id rfl
@[simp] theorem endR_nx (ρ : Env) : endR (.nx ρ) = .ok .none := id rfl
@[simp] theorem endR_ex (c : Str) (ρ : Env) : endR (.ex c ρ) = .ex c := id rfl
theorem run_of {np nN : Nat} {b : Ss} {Φ : Calls} {ds : List D} (h : ds.length = np) : runB np nN b Φ ds = endR (exs b Φ (start1 nN ds)) := by
  unfold runB
  rw [if_pos h]
/-! names -/
@[simp] theorem rdV_0 (d : D) (r : Env) : rdV 0 (some (false, d) :: r) = .ok d := id rfl
@[simp] theorem rdV_s (i : Nat) (x : Option (Bool × D)) (r : Env) : rdV (i + 1) (x :: r) = rdV i r := id rfl
@[simp] theorem rdB_0 (d : D) (r : Env) : rdB 0 (some (false, d) :: r) = .ok d := id rfl
@[simp] theorem rdB_0L (d : List D) (r : Env) : rdB 0 (some (true, .list d) :: r) = .ok (.list d) := id rfl
@[simp high] theorem rdB_0N (l : List Nat) (r : Env) : rdB 0 (some (true, natsL l) :: r) = .ok (natsL l) := id rfl
@[simp] theorem rdB_0D (d : List (D × D)) (r : Env) : rdB 0 (some (true, .dict d) :: r) = .ok (.dict d) := id rfl
@[simp] theorem rdB_s (i : Nat) (x : Option (Bool × D)) (r : Env) : rdB (i + 1) (x :: r) = rdB i r := id rfl
@[simp] theorem clr_nil : clr [] = [] := id rfl
@[simp] theorem clr_some (d : D) (r : Env) : clr (some (false, d) :: r) = some (false, d) :: clr r := id rfl
@[simp] theorem clr_someL (d : List D) (r : Env) : clr (some (true, .list d) :: r) = some (false, .list d) :: clr r := id rfl
@[simp high] theorem clr_someN (l : List Nat) (r : Env) : clr (some (true, natsL l) :: r) = some (false, natsL l) :: clr r := id rfl
@[simp] theorem clr_someD (d : List (D × D)) (r : Env) : clr (some (true, .dict d) :: r) = some (false, .dict d) :: clr r := id rfl
@[simp] theorem clr_deep (d : D) (r : Env) : clr (some (true, .tuple [d]) :: r) = some (false, d) :: clr r := id rfl
@[simp] theorem clr_none (r : Env) : clr (none :: r) = none :: clr r := id rfl
@[simp] theorem dis_nil (ρ : Env) : dis [] ρ = ρ := id rfl
@[simp] theorem dis_cons (i : Nat) (is : List Nat) (ρ : Env) : dis (i :: is) ρ = dis is (dis1 i ρ) := id rfl
@[simp] theorem dis1_0 (d : D) (r : Env) : dis1 0 (some (false, d) :: r) = some (false, d) :: r := id rfl
@[simp] theorem dis1_0L (d : List D) (r : Env) : dis1 0 (some (true, .list d) :: r) = some (false, .list d) :: r := id rfl
@[simp high] theorem dis1_0N (l : List Nat) (r : Env) : dis1 0 (some (true, natsL l) :: r) = some (false, natsL l) :: r := id rfl
@[simp] theorem dis1_0D (d : List (D × D)) (r : Env) : dis1 0 (some (true, .dict d) :: r) = some (false, .dict d) :: r := id rfl
@[simp] theorem dis1_deep (d : D) (r : Env) : dis1 0 (some (true, .tuple [d]) :: r) = some (false, d) :: r := id rfl
@[simp] theorem dis1_0n (r : Env) : dis1 0 (none :: r) = none :: r := id rfl
@[simp] theorem dis1_s (i : Nat) (x : Option (Bool × D)) (r : Env) : dis1 (i + 1) (x :: r) = x :: dis1 i r := by
  unfold dis1
  rw [List.getElem?_cons_succ]
  cases h : r[i]? with
  | none => rfl
  | some o =>
    cases o with
    | none => rfl
    | some p =>
      obtain ⟨b, d⟩ := p
      cases b <;> rfl
@[simp] theorem asgT_var (i : Nat) (d : D) (ρ : Env) : asgT (.var i) d ρ = .ok (ρ.set i (some (false, d))) := id rfl
@[simp] theorem asgT_tup2 (s t : Tg) (d e : D) (ρ : Env) : asgT (.tup (.cons s (.cons t .nil))) (.tuple [d, e]) ρ = (asgT s d ρ >>= fun ρ => asgT t e ρ) := by
  show (asgT s d ρ >>= fun ρ => asgT t e ρ >>= fun ρ => .ok ρ) = _
  cases asgT s d ρ with
  | ok ρ1 =>
    show (asgT t e ρ1 >>= fun ρ => .ok ρ) = asgT t e ρ1
    cases asgT t e ρ1 <;> rfl
  | st => rfl
  | ex c => rfl
@[simp] theorem asgS_ok (t : Tg) (d : D) (ρ ρ' : Env) (k : Env → SR) (h : asgT t d ρ = .ok ρ') : asgS t d ρ k = k ρ' := by unfold asgS; rw [h]
@[simp] theorem itemsOf_l (ds : List D) : itemsOf (.list ds) = .ok ds := id rfl
@[simp] theorem itemsOf_t (ds : List D) : itemsOf (.tuple ds) = .ok ds := id rfl
@[simp] theorem seqOf_l (ds : List D) : seqOf (.list ds) = .ok ds := id rfl
@[simp] theorem seqOf_t (ds : List D) : seqOf (.tuple ds) = .ok ds := id rfl
def bl (m : Nat) : Nat := Builtin.Int.intBits (m : Int)
@[simp] theorem bitR_i (i : Nat) : bitR (nD i) = .ok (nD (bl i)) := id rfl
@[simp] theorem intR_ok (i : Nat) : intR (.ok (nD i)) = .ok (some (i : Int)) := id rfl
@[simp] theorem noex_ok {α : Type} (a : α) : noex (.ok a : Res α) = .ok a := id rfl
@[simp] theorem stF_ok (i : Nat) (ds : List D) (ρ : Env) (h : i < ρ.length) : stF i (.ok (.list ds)) ρ = .nx (ρ.set i (some (true, .list ds))) := by
  show (if i < ρ.length then SR.nx (ρ.set i (some (true, .list ds))) else .st) = _
  rw [if_pos h]
theorem ownL_ok {i : Nat} {ρ : Env} {ds : List D} (k : List D → SR) (h : ρ[i]? = some (some (true, .list ds))) : ownL i ρ k = k ds := by unfold ownL; rw [h]
theorem apS_ok {i : Nat} {ρ : Env} {ds : List D} {d : D} (h : ρ[i]? = some (some (true, .list ds))) (hs : ds.length ≤ 1000000) : apS i ρ (.ok d) = .nx (ρ.set i (some (true, .list (ds ++ [d])))) := by
  unfold apS
  rw [ownL_ok _ h, onE_ok]
  unfold sm
  rw [if_pos (decide_eq_true hs)]
/-! tests -/
@[simp] theorem andR_ok (b : Bool) (m : Res D) : andR (.ok (.bool b)) m = if b then m else .ok (.bool false) := id rfl
@[simp] theorem orR_ok (b : Bool) (m : Res D) : orR (.ok (.bool b)) m = if b then .ok (.bool true) else m := id rfl
@[simp] theorem notR_ok (b : Bool) : notR (.ok (.bool b)) = .ok (.bool !b) := id rfl
@[simp] theorem iteR_ok (b : Bool) (x y : Res D) : iteR (.ok (.bool b)) x y = if b then x else y := id rfl
@[simp] theorem smL_ok (xs : List D) (f : List D → D) (h : xs.length ≤ 1000000) : smL xs f = .ok (f xs) := by
  unfold smL sm
  rw [if_pos (decide_eq_true h)]
@[simp] theorem purR_ok (d : D) (h : pureD d = true) : purR (.ok d) = .ok d := by
  show (if pureD d then Res.ok d else .st) = _
  rw [if_pos h]
theorem cmpR_of {op : CmpOp} {x y : D} {b : Bool} (h : cmpop op x y = some b) : cmpR op x y = .ok (.bool b) := by unfold cmpR; rw [h]; rfl
theorem cmpR_lt (i j : Int) : cmpR .Lt (.int i) (.int j) = .ok (.bool (decide (i < j))) := rfl
theorem cmpR_le (i j : Int) : cmpR .LtE (.int i) (.int j) = .ok (.bool (decide (i ≤ j))) := rfl
theorem cmpR_gt (i j : Int) : cmpR .Gt (.int i) (.int j) = .ok (.bool (decide (j < i))) := rfl
theorem cmpR_ge (i j : Int) : cmpR .GtE (.int i) (.int j) = .ok (.bool (decide (j ≤ i))) := rfl
theorem cmpR_eq (i j : Int) : cmpR .Eq (.int i) (.int j) = .ok (.bool (i == j)) := rfl
theorem cmpR_ne (i j : Int) : cmpR .NotEq (.int i) (.int j) = .ok (.bool (!(i == j))) := rfl
theorem beq_nn (i j : Nat) : ((i : Int) == (j : Int)) = (i == j) := by
  by_cases h : i = j
  · subst h; simp
  · have h2 : (i : Int) ≠ (j : Int) := by omega
    rw [beq_eq_false_iff_ne.mpr h, beq_eq_false_iff_ne.mpr h2]
@[simp] theorem cmpN_lt (i j : Nat) : cmpR .Lt (nD i) (nD j) = .ok (.bool (decide (i < j))) := by
  rw [nD_eq, nD_eq, cmpR_lt]; simp
@[simp] theorem cmpN_le (i j : Nat) : cmpR .LtE (nD i) (nD j) = .ok (.bool (decide (i ≤ j))) := by
  rw [nD_eq, nD_eq, cmpR_le]; simp
@[simp] theorem cmpN_gt (i j : Nat) : cmpR .Gt (nD i) (nD j) = .ok (.bool (decide (j < i))) := by
  rw [nD_eq, nD_eq, cmpR_gt]; simp
@[simp] theorem cmpN_ge (i j : Nat) : cmpR .GtE (nD i) (nD j) = .ok (.bool (decide (j ≤ i))) := by
  rw [nD_eq, nD_eq, cmpR_ge]; simp
@[simp] theorem cmpN_eq (i j : Nat) : cmpR .Eq (nD i) (nD j) = .ok (.bool (i == j)) := by
  rw [nD_eq, nD_eq, cmpR_eq, beq_nn]
@[simp] theorem cmpN_ne (i j : Nat) : cmpR .NotEq (nD i) (nD j) = .ok (.bool (!(i == j))) := by
  rw [nD_eq, nD_eq, cmpR_ne, beq_nn]
/-! operators -/
@[simp] theorem bin_add (i j : Nat) : binop .Add (nD i) (nD j) = some (nD (i + j)) := by
  show some (PyData.int _) = some (PyData.int _)
  rw [Int.natCast_add]
theorem i64_of {n : Nat} (h : n < 2 ^ 64) : i64 (n : Int) = true := by
  unfold i64
  rw [decide_eq_true (by omega), decide_eq_true (by omega)]; rfl
theorem bin_mul {i j : Nat} (h : j < 2 ^ 64) : binop .Mult (nD i) (nD j) = some (nD (i * j)) := by
  show (if (i64 (i : Int) || i64 (j : Int)) = true then some (PyData.int ((i : Int) * j)) else none) = _
  rw [i64_of h, Bool.or_true, if_pos rfl]
  show some (PyData.int _) = some (PyData.int _)
  rw [Int.natCast_mul]
theorem bin_mulL {i j : Nat} (h : i < 2 ^ 64) : binop .Mult (nD i) (nD j) = some (nD (i * j)) := by
  show (if (i64 (i : Int) || i64 (j : Int)) = true then some (PyData.int ((i : Int) * j)) else none) = _
  rw [i64_of h, Bool.true_or, if_pos rfl]
  show some (PyData.int _) = some (PyData.int _)
  rw [Int.natCast_mul]
theorem bin_div {i j : Nat} (h : 0 < j) (h2 : j < 1073741824) : binop .FloorDiv (nD i) (nD j) = some (nD (i / j)) := by
  show (if (decide ((0 : Int) < (j : Int)) && decide ((j : Int) < 1073741824)) = true then some (PyData.int ((i : Int) / j)) else none) = _
  rw [decide_eq_true (by omega), decide_eq_true (by omega), if_pos (by rfl)]
  show some (PyData.int _) = some (PyData.int _)
  rw [Int.natCast_ediv]
theorem bin_mod {i j : Nat} (h : 0 < j) : binop .Mod (nD i) (nD j) = some (nD (i % j)) := by
  show (if (0 : Int) < (j : Int) then some (PyData.int ((i : Int) % j)) else none) = _
  rw [if_pos (by omega)]
  show some (PyData.int _) = some (PyData.int _)
  rw [Int.natCast_emod]
theorem or_nn (a b : Nat) : Builtin.bitOr (a : Int) (b : Int) = ((a ||| b : Nat) : Int) := by
  rw [L2.bitOr_nn (by omega) (by omega), Int.toNat_natCast, Int.toNat_natCast]
theorem and_nn (a b : Nat) : Builtin.bitAnd (a : Int) (b : Int) = ((a &&& b : Nat) : Int) := by
  rw [PyProof.Rows.bitAnd_pp (by omega) (by omega), Int.toNat_natCast, Int.toNat_natCast]
@[simp] theorem bin_and (i j : Nat) : binop .BitAnd (nD i) (nD j) = some (nD (i &&& j)) := by
  show some (PyData.int _) = some (PyData.int _)
  rw [and_nn]
@[simp] theorem bin_or (i j : Nat) : binop .BitOr (nD i) (nD j) = some (nD (i ||| j)) := by
  show some (PyData.int _) = some (PyData.int _)
  rw [or_nn]
@[simp] theorem bin_shr {m n : Nat} : binop .RShift (nD m) (nD n) = some (nD (m / 2 ^ n)) := by
  show (if (0 : Int) ≤ (n : Int) then some (PyData.int ((m : Int) / 2 ^ (n : Int).toNat)) else none) = _
  rw [if_pos (by omega), Int.toNat_natCast]
  show some (PyData.int _) = some (PyData.int _)
  rw [Int.natCast_ediv, Int.natCast_pow]; rfl
@[simp] theorem bin_powK (a b : Nat) (h : b ≤ 1000000) (h2 : a < 2 ^ 64) : binop .Pow (nD a) (nD b) = some (nD (a ^ b)) := by
  show (if (decide ((0 : Int) ≤ (b : Int)) && decide ((b : Int) ≤ 1000000) && i64 (a : Int)) = true then some (PyData.int ((a : Int) ^ (b : Int).toNat)) else none) = _
  rw [decide_eq_true (by omega), decide_eq_true (by omega), i64_of h2, if_pos (by rfl), Int.toNat_natCast]
  show some (PyData.int _) = some (PyData.int _)
  rw [Int.natCast_pow]
/-- not b, minus b -/
def invD (b : Nat) : D := .int (Builtin.bitNot (b : Int))
def negD (b : Nat) : D := .int (-(b : Int))
@[simp] theorem un_neg (i : Nat) : unop .USub (nD i) = some (negD i) := id rfl
@[simp] theorem un_inv (i : Nat) : unop .Invert (nD i) = some (invD i) := id rfl
/-- the bits of a that b has not -/
def dif (a b : Nat) : Nat := a - (a &&& b)
theorem and_not (a b : Nat) : Builtin.bitAnd (a : Int) (Builtin.bitNot (b : Int)) = ((dif a b : Nat) : Int) := by
  have e : Builtin.bitNot (b : Int) = -(b : Int) - 1 := rfl
  rw [PyProof.Rows.bitAnd_pn (by omega) (by rw [e]; omega)]
  have e2 : (Builtin.bitNot (Builtin.bitNot (b : Int))).toNat = b := by
    show (-(-(b : Int) - 1) - 1).toNat = b
    omega
  rw [e2, Int.toNat_natCast]
  unfold dif
  have := Nat.and_le_left (n := a) (m := b)
  omega
@[simp] theorem bin_dif (a b : Nat) : binop .BitAnd (nD a) (invD b) = some (nD (dif a b)) := by
  show some (PyData.int _) = some (PyData.int _)
  rw [and_not]
theorem test_dif (a b i : Nat) : (dif a b).testBit i = (a.testBit i && !b.testBit i) := by
  have h : dif a b = a ^^^ (a &&& b) := by
    have e := Bits.nat_xor_add_and a (a &&& b)
    have e3 : a &&& (a &&& b) = a &&& b := by rw [← Nat.and_assoc, Nat.and_self]
    rw [e3] at e
    unfold dif
    omega
  rw [h, Nat.testBit_xor, Nat.testBit_and]
  cases a.testBit i <;> cases b.testBit i <;> rfl
/-! builtins, items -/
@[simp] theorem blt_lenL (xs : List D) : bltop .len [.list xs] = some (nD xs.length) := id rfl
@[simp] theorem blt_lenT (xs : List D) : bltop .len [.tuple xs] = some (nD xs.length) := id rfl
@[simp] theorem blt_tupL (xs : List D) : bltop .tuple [.list xs] = some (.tuple xs) := id rfl
@[simp] theorem blt_tupT (xs : List D) : bltop .tuple [.tuple xs] = some (.tuple xs) := id rfl
@[simp] theorem blt_lstL (xs : List D) : bltop .list [.list xs] = some (.list xs) := id rfl
@[simp] theorem blt_lstT (xs : List D) : bltop .list [.tuple xs] = some (.list xs) := id rfl
@[simp] theorem blt_int (i : Int) : bltop .int [.int i] = some (.int i) := id rfl
theorem atI_nn {α : Type} (xs : List α) (n : Nat) : L2.atI xs (n : Int) = xs[n]? := by
  unfold L2.atI L2.ixN
  rw [if_pos (by omega)]
  by_cases h : n < xs.length
  · rw [if_pos (by omega)]; simp
  · rw [if_neg (by omega), List.getElem?_eq_none (by omega)]; rfl
@[simp] theorem ix_l (xs : List D) (n : Nat) : ixop (.list xs) (nD n) = xs[n]? := atI_nn xs n
@[simp] theorem ix_t (xs : List D) (n : Nat) : ixop (.tuple xs) (nD n) = xs[n]? := atI_nn xs n
@[simp] theorem cat_l (xs ys : List D) (h : xs.length + ys.length ≤ 1000000) : binop .Add (.list xs) (.list ys) = some (.list (xs ++ ys)) := by
  show (if sm (xs.length + ys.length) then some (PyData.list (xs ++ ys)) else none) = _
  rw [if_pos (show sm _ = true from decide_eq_true h)]
@[simp] theorem cat_t (xs ys : List D) (h : xs.length + ys.length ≤ 1000000) : binop .Add (.tuple xs) (.tuple ys) = some (.tuple (xs ++ ys)) := by
  show (if sm (xs.length + ys.length) then some (PyData.tuple (xs ++ ys)) else none) = _
  rw [if_pos (show sm _ = true from decide_eq_true h)]
/-! loops -/
/-- what is asked of a block's outcome -/
def Aft (N B : Env → Prop) (V : SR → Prop) : SR → Prop
  | .nx ρ => N ρ
  | .ct ρ => N ρ
  | .bk ρ => B ρ
  | r => V r
@[simp] theorem Aft_nx (N B : Env → Prop) (V : SR → Prop) (ρ : Env) : Aft N B V (.nx ρ) = N ρ := id rfl
@[simp] theorem Aft_ct (N B : Env → Prop) (V : SR → Prop) (ρ : Env) : Aft N B V (.ct ρ) = N ρ := id rfl
@[simp] theorem Aft_bk (N B : Env → Prop) (V : SR → Prop) (ρ : Env) : Aft N B V (.bk ρ) = B ρ := id rfl
@[simp] theorem Aft_rt (N B : Env → Prop) (V : SR → Prop) (d : D) : Aft N B V (.rt d) = V (.rt d) := id rfl
theorem for_gen {α : Type} {t : Tg} {body : Env → SR} {g : α → D} {k : Env → SR} (P : SR → Prop) (I : List α → Env → Prop) (st : ∀ a l ρ, I (a :: l) ρ → ∃ ρ1, asgT t (g a) ρ = .ok ρ1 ∧ Aft (I l) (fun ρ => P (k ρ)) P (body ρ1)) (hk : ∀ ρ, I [] ρ → P (k ρ)) :
    ∀ (l : List α) (ρ : Env), I l ρ → P ((forL t body (l.map g) ρ).seq k)
  | [], ρ, h => hk ρ h
  | a :: l, ρ, h => by
    obtain ⟨ρ1, e1, h2⟩ := st a l ρ h
    show P (SR.seq (asgS t (g a) ρ _) k)
    unfold asgS
    rw [e1]
    cases hb : body ρ1 with
    | st => rw [hb] at h2; simp only [hb]; exact h2
    | nx ρ2 => rw [hb] at h2; simp only [hb]; exact for_gen P I st hk l ρ2 h2
    | ct ρ2 => rw [hb] at h2; simp only [hb]; exact for_gen P I st hk l ρ2 h2
    | bk ρ2 => rw [hb] at h2; simp only [hb]; exact h2
    | rt d => rw [hb] at h2; simp only [hb]; exact h2
    | ex c ρ2 => rw [hb] at h2; simp only [hb]; exact h2
theorem for_EI {α : Type} {t : Tg} {body : Env → SR} {g : α → D} {k : Env → SR} {v : Res D} (I : List α → Env → Prop) {l : List α} {ρ : Env} (h0 : I l ρ) (st : ∀ a l ρ, I (a :: l) ρ → ∃ ρ1, asgT t (g a) ρ = .ok ρ1 ∧ Aft (I l) (fun ρ => endR (k ρ) = v) (fun r => endR r = v) (body ρ1)) (hk : ∀ ρ, I [] ρ → endR (k ρ) = v) :
    endR ((forL t body (l.map g) ρ).seq k) = v := for_gen (fun r => endR r = v) I st hk l ρ h0
theorem for_AI {α : Type} {t : Tg} {body : Env → SR} {g : α → D} {k : Env → SR} {N B : Env → Prop} {V : SR → Prop} (I : List α → Env → Prop) {l : List α} {ρ : Env} (h0 : I l ρ) (st : ∀ a l ρ, I (a :: l) ρ → ∃ ρ1, asgT t (g a) ρ = .ok ρ1 ∧ Aft (I l) (fun ρ => Aft N B V (k ρ)) (fun r => Aft N B V r) (body ρ1)) (hk : ∀ ρ, I [] ρ → Aft N B V (k ρ)) :
    Aft N B V ((forL t body (l.map g) ρ).seq k) := for_gen (fun r => Aft N B V r) I st hk l ρ h0
theorem lcM {α : Type} {asg : D → Res Env} {cond elt : Env → Res D} {g h : α → D} {p : α → Bool} : ∀ (l : List α), (∀ a ∈ l, ∃ ρ', asg (g a) = .ok ρ' ∧ cond ρ' = .ok (.bool (p a)) ∧ (p a = true → elt ρ' = .ok (h a))) → lcL asg cond elt (l.map g) = .ok ((l.filter p).map h)
  | [], _ => rfl
  | a :: l, st => by
    obtain ⟨ρ', e1, e2, e3⟩ := st a (by simp)
    have ih := lcM l fun b hb => st b (List.mem_cons_of_mem _ hb)
    show (noex (asg (g a)) >>= fun ρ' => noex (cond ρ') >>= fun k => match k with
      | .bool true => (noex (elt ρ') >>= fun y => lcL asg cond elt (l.map g) >>= fun r => pure (y :: r))
      | .bool false => lcL asg cond elt (l.map g)
      | _ => .st) = _
    rw [e1, noex_ok, Res.ok_bind, e2, noex_ok, Res.ok_bind]
    cases hp : p a with
    | false =>
      rw [List.filter_cons_of_neg (by rw [hp]; simp)]
      exact ih
    | true =>
      rw [List.filter_cons_of_pos hp]
      show (noex (elt ρ') >>= fun y => lcL asg cond elt (l.map g) >>= fun r => pure (y :: r)) = _
      rw [e3 hp, noex_ok, Res.ok_bind, ih]
      rfl
theorem lc_ok {own : List Nat} {t : Tg} {fi : EvL} {fc fe : EvE} {Φ : Calls} {ρ : Env} {ds r : List D} (h1 : fi Φ ρ = .ok ds) (h2 : ds.length ≤ 1000000) (h3 : lcL (fun d => asgT t d (wipeE ρ own)) (fc Φ) (fe Φ) ds = .ok r) : lcE own t fi fc fe Φ ρ = .ok (.list r) := by
  unfold lcE
  rw [h1, Res.ok_bind]
  unfold sm
  rw [if_pos (decide_eq_true h2), h3]
  rfl
theorem lc_val {α : Type} {own : List Nat} {t : Tg} {fi : EvL} {fc fe : EvE} {Φ : Calls} {ρ : Env} (l : List α) (g h : α → D) (p : α → Bool) (h1 : fi Φ ρ = .ok (l.map g)) (h2 : l.length ≤ 1000000)
    (h3 : ∀ a ∈ l, ∃ ρ', asgT t (g a) (wipeE ρ own) = .ok ρ' ∧ fc Φ ρ' = .ok (.bool (p a)) ∧ (p a = true → fe Φ ρ' = .ok (h a))) : lcE own t fi fc fe Φ ρ = .ok (.list ((l.filter p).map h)) :=
  lc_ok h1 (by rw [List.length_map]; exact h2) (lcM l h3)
theorem lc_all {α : Type} {own : List Nat} {t : Tg} {fi : EvL} {fe : EvE} {Φ : Calls} {ρ : Env} (l : List α) (g h : α → D) (h1 : fi Φ ρ = .ok (l.map g)) (h2 : l.length ≤ 1000000)
    (h3 : ∀ a ∈ l, ∃ ρ', asgT t (g a) (wipeE ρ own) = .ok ρ' ∧ fe Φ ρ' = .ok (h a)) : lcE own t fi (fun _ _ => .ok (.bool true)) fe Φ ρ = .ok (.list (l.map h)) := by
  rw [lc_val (fc := fun _ _ => .ok (.bool true)) l g h (fun _ => true) h1 h2 fun a ha => let ⟨ρ', e1, e2⟩ := h3 a ha; ⟨ρ', e1, rfl, fun _ => e2⟩]
  rw [List.filter_eq_self.mpr fun _ _ => rfl]
@[simp] theorem rngL_0 (n : Nat) : rngL 0 n = (List.range n).map nD := by
  unfold rngL
  congr 1
  funext i
  rw [nD_eq, Int.zero_add]
theorem i62_of {i : Int} (h1 : 0 ≤ i) (h2 : i ≤ 1000000) : i62 i = true := by
  unfold i62
  rw [decide_eq_true (by omega), decide_eq_true (by omega)]
  rfl
theorem rng_n {n : Nat} (h : n ≤ 1000000) : rng [nD n] = .ok ((List.range n).map nD) := by
  show (if i62 (n : Int) then Res.ok (rngL 0 (n : Int).toNat) else .st) = _
  rw [if_pos (i62_of (by omega) (by omega)), Int.toNat_natCast, rngL_0]
@[simp] theorem max_n (a b : Nat) : bltop .max [nD a, nD b] = some (nD (max a b)) := by
  show some (PyData.int (if (b : Int) > a then (b : Int) else a)) = some (PyData.int _)
  congr 2
  by_cases h : a < b
  · rw [if_pos (by omega), Nat.max_eq_right (by omega)]
  · rw [if_neg (by omega), Nat.max_eq_left (by omega)]
@[simp] theorem min_n (a b : Nat) : bltop .min [nD a, nD b] = some (nD (min a b)) := by
  show some (PyData.int (if (b : Int) < a then (b : Int) else a)) = some (PyData.int _)
  congr 2
  by_cases h : b < a
  · rw [if_pos (by omega), Nat.min_eq_right (by omega)]
  · rw [if_neg (by omega), Nat.min_eq_left (by omega)]
end Pv

end
section
namespace Pv
open PySem

/-! ### sets.py -/
/-- the nodes of a mask, all less than c -/
def bitsN (c m : Nat) : List Nat := (List.range c).filter m.testBit
theorem mem_bitsN {c m x : Nat} : x ∈ bitsN c m ↔ x < c ∧ m.testBit x = true := by
  unfold bitsN
  rw [List.mem_filter, List.mem_range]
theorem lt_of_test {c m x : Nat} (h : m < 2 ^ c) (t : m.testBit x = true) : x < c := by
  apply Nat.lt_of_not_le
  intro hx
  have := Nat.testBit_lt_two_pow (Nat.lt_of_lt_of_le h (Nat.pow_le_pow_right (by decide) hx))
  rw [this] at t; cases t
def maskN (l : List Nat) : Nat := l.foldl (fun m x => m ||| 2 ^ x) 0
end Pv

end
section
namespace Pv
open PySem

/-! ### masks -/
theorem test_maskN {l : List Nat} {v : Nat} : (maskN l).testBit v = true ↔ v ∈ l := by
  have go : ∀ (l : List Nat) (m : Nat), (l.foldl (fun m x => m ||| 2 ^ x) m).testBit v = true ↔ m.testBit v = true ∨ v ∈ l := by
    intro l
    induction l with
    | nil => intro m; simp
    | cons a l ih =>
      intro m
      rw [List.foldl_cons, ih, Nat.testBit_or, Nat.testBit_two_pow, List.mem_cons]
      by_cases h : a = v
      · subst h; simp
      · simp [h, Ne.symm h]
  unfold maskN
  rw [go]
  simp
theorem lt_pow_of {m c : Nat} (h : ∀ v, m.testBit v = true → v < c) : m < 2 ^ c := by
  apply Nat.lt_pow_two_of_testBit
  intro i hi
  cases e : m.testBit i with
  | false => rfl
  | true => have := h i e; omega
theorem mask_ext {a b : Nat} (h : ∀ v, a.testBit v = true ↔ b.testBit v = true) : a = b := by
  apply Nat.eq_of_testBit_eq
  intro i
  have := h i
  cases e : a.testBit i <;> cases e2 : b.testBit i <;> simp_all
open Classical in
noncomputable def maskP (c : Nat) (p : Nat → Prop) : Nat := maskN ((List.range c).filter fun v => decide (p v))
theorem test_maskP {c : Nat} {p : Nat → Prop} {v : Nat} : (maskP c p).testBit v = true ↔ v < c ∧ p v := by
  unfold maskP
  rw [test_maskN, List.mem_filter, List.mem_range]
  simp
theorem maskP_lt {c : Nat} {p : Nat → Prop} : maskP c p < 2 ^ c := lt_pow_of fun v t => (test_maskP.mp t).1
/-! ### graphs -/
def edgeD (e : Nat × Nat) : D := .tuple [nD e.1, nD e.2]
def grD (c : Nat) (E : List (Nat × Nat)) : D := .tuple [nD c, .tuple (E.map edgeD)]
def EOk (c : Nat) (E : List (Nat × Nat)) : Prop := ∀ e ∈ E, e.1 < c ∧ e.2 < c
def adj (E : List (Nat × Nat)) (u v : Nat) : Prop := (u, v) ∈ E ∨ (v, u) ∈ E
theorem adj_symm {E : List (Nat × Nat)} {u v : Nat} (h : adj E u v) : adj E v u := h.symm
def RowsOk (c : Nat) (E : List (Nat × Nat)) (rows : List Nat) : Prop := rows.length = c ∧ ∀ u v, (rows[u]?.getD 0).testBit v = true ↔ adj E u v
def rowStep (r : List Nat) (e : Nat × Nat) : List Nat :=
  let r1 := r.set e.1 (r[e.1]?.getD 0 ||| 2 ^ e.2)
  r1.set e.2 (r1[e.2]?.getD 0 ||| 2 ^ e.1)
def rowsN (c : Nat) (E : List (Nat × Nat)) : List Nat := E.foldl rowStep (List.replicate c 0)
theorem rowStep_len (r : List Nat) (e : Nat × Nat) : (rowStep r e).length = r.length := by simp [rowStep]
theorem get_set {r : List Nat} {a u x : Nat} (h : a < r.length) : (r.set a x)[u]?.getD 0 = if a = u then x else r[u]?.getD 0 := by
  rw [List.getElem?_set]
  by_cases e : a = u
  · subst e; simp [h]
  · simp [e]
theorem rowStep_test {r : List Nat} {e : Nat × Nat} (h1 : e.1 < r.length) (h2 : e.2 < r.length) (u v : Nat) : ((rowStep r e)[u]?.getD 0).testBit v = true ↔ (r[u]?.getD 0).testBit v = true ∨ (e.1 = u ∧ e.2 = v) ∨ (e.2 = u ∧ e.1 = v) := by
  have h3 : e.2 < (r.set e.1 (r[e.1]?.getD 0 ||| 2 ^ e.2)).length := by rw [List.length_set]; exact h2
  show (((r.set e.1 (r[e.1]?.getD 0 ||| 2 ^ e.2)).set e.2 ((r.set e.1 (r[e.1]?.getD 0 ||| 2 ^ e.2))[e.2]?.getD 0 ||| 2 ^ e.1))[u]?.getD 0).testBit v = true ↔ _
  rw [get_set h3, get_set h1, get_set h1]
  by_cases q2 : e.2 = u
  · rw [if_pos q2, Nat.testBit_or, Nat.testBit_two_pow]
    by_cases q1 : e.1 = e.2
    · rw [if_pos q1, Nat.testBit_or, Nat.testBit_two_pow, q1, q2]
      by_cases q : u = v <;> simp [q]
    · rw [if_neg q1, q2]
      have : e.1 ≠ u := by rw [← q2]; exact q1
      by_cases q : e.1 = v <;> simp [q, this]
  · rw [if_neg q2]
    by_cases q1 : e.1 = u
    · rw [if_pos q1, Nat.testBit_or, Nat.testBit_two_pow, q1]
      by_cases q : e.2 = v <;> simp [q, q2]
    · rw [if_neg q1]; simp [q1, q2]
theorem rowsN_ok {c : Nat} {E : List (Nat × Nat)} (h : EOk c E) : RowsOk c E (rowsN c E) := by
  have go : ∀ (E : List (Nat × Nat)) (r : List Nat), r.length = c → EOk c E → (E.foldl rowStep r).length = c ∧ ∀ u v, ((E.foldl rowStep r)[u]?.getD 0).testBit v = true ↔ (r[u]?.getD 0).testBit v = true ∨ adj E u v := by
    intro E
    induction E with
    | nil => intro r hr _; exact ⟨hr, fun u v => by simp [adj]⟩
    | cons e E ih =>
      intro r hr hE
      have he := hE e (by simp)
      obtain ⟨i1, i2⟩ := ih (rowStep r e) (by rw [rowStep_len]; exact hr) fun x hx => hE x (by simp [hx])
      refine ⟨i1, fun u v => ?_⟩
      rw [List.foldl_cons, i2, rowStep_test (by rw [hr]; exact he.1) (by rw [hr]; exact he.2)]
      unfold adj
      rw [List.mem_cons, List.mem_cons]
      constructor
      · rintro ((h | ⟨h1, h2⟩ | ⟨h1, h2⟩) | h | h)
        · exact .inl h
        · exact .inr (.inl (.inl (by rw [← h1, ← h2])))
        · exact .inr (.inr (.inl (by rw [← h1, ← h2])))
        · exact .inr (.inl (.inr h))
        · exact .inr (.inr (.inr h))
      · rintro (h | (h | h) | h | h)
        · exact .inl (.inl h)
        · exact .inl (.inr (.inl (by rw [← h]; simp)))
        · exact .inr (.inl h)
        · exact .inl (.inr (.inr (by rw [← h]; simp)))
        · exact .inr (.inr h)
  obtain ⟨h1, h2⟩ := go E (List.replicate c 0) (by simp) h
  refine ⟨h1, fun u v => ?_⟩
  unfold rowsN
  rw [h2]
  have : ((List.replicate c 0)[u]?.getD 0).testBit v = false := by
    rw [List.getElem?_replicate]
    split <;> simp
  rw [this]
  simp

/-! ### the runs -/
end Pv

end
section
namespace Pv
open PySem

/-- what is reached from s along edges within free -/
inductive Conn (E : List (Nat × Nat)) (free s : Nat → Prop) : Nat → Prop
  | base {v : Nat} : s v → Conn E free s v
  | step {u v : Nat} : Conn E free s u → adj E u v → free v → Conn E free s v
theorem dif_lt {a b c : Nat} (h : a < 2 ^ c) : dif a b < 2 ^ c := Nat.lt_of_le_of_lt (Nat.sub_le _ _) h
theorem or_disj {a b : Nat} (h : ∀ v, a.testBit v = true → b.testBit v = true → False) : a ||| b = a + b := by
  have e : a &&& b = 0 := by
    apply Nat.eq_of_testBit_eq
    intro i
    rw [Nat.testBit_and, Nat.zero_testBit]
    cases h1 : a.testBit i
    · rfl
    · cases h2 : b.testBit i
      · rfl
      · exact (h i h1 h2).elim
  have e1 := Bits.nat_xor_add_and a b
  have e2 : a ^^^ b = a ||| b := by
    apply Nat.eq_of_testBit_eq
    intro i
    rw [Nat.testBit_xor, Nat.testBit_or]
    have := h i
    cases h1 : a.testBit i <;> cases h2 : b.testBit i <;> simp_all
  rw [e, e2] at e1
  omega
theorem ne_zero_test {m : Nat} (h : m ≠ 0) : ∃ v, m.testBit v = true := Nat.exists_testBit_of_ne_zero h
end Pv

end
section
namespace Pv
open PySem

theorem test_2pow {v x : Nat} : (2 ^ v).testBit x = true ↔ x = v := by
  rw [Nat.testBit_two_pow]
  simp [eq_comm]
/-! ### parts -/
def InC (E : List (Nat × Nat)) (fr : Nat → Prop) (v x : Nat) : Prop := Conn E fr (fun y => y = v) x
section
variable {c : Nat} {E : List (Nat × Nat)} {fr : Nat → Prop} {u v x : Nat}
theorem InC.refl : InC E fr v v := .base rfl
theorem InC.trans (h1 : InC E fr u v) (h2 : InC E fr v x) : InC E fr u x := by
  induction h2 with
  | base h => exact h ▸ h1
  | step _ a b ih => exact .step ih a b
theorem InC.within (hv : fr v) (h : InC E fr v x)   : fr x := by
  induction h with
  | base h => exact h ▸ hv
  | step _ a b ih => exact b
theorem InC.symm (hv : fr v) (h : InC E fr v x) : InC E fr x v := by
  induction h with
  | base h => exact h ▸ InC.refl
  | @step u x h a b ih => exact InC.trans (.step (.base rfl) (adj_symm a) (InC.within hv h)) ih
/-- a least node of its part -/
def isRep (E : List (Nat × Nat)) (fr : Nat → Prop) (v : Nat) : Prop := fr v ∧ ∀ u, u < v → fr u → ¬ InC E fr u v
theorem rep_ex : ∀ (n x : Nat), x ≤ n → fr x → ∃ r, r ≤ x ∧ isRep E fr r ∧ InC E fr r x
  | 0, x, h, hx => ⟨x, Nat.le_refl _, ⟨hx, fun u hu => absurd hu (by omega)⟩, .refl⟩
  | n + 1, x, h, hx => by
    by_cases q : ∃ u, u < x ∧ fr u ∧ InC E fr u x
    · obtain ⟨u, h1, h2, h3⟩ := q
      obtain ⟨r, a, b, d⟩ := rep_ex n u (by omega) h2
      exact ⟨r, by omega, b, d.trans h3⟩
    · exact ⟨x, Nat.le_refl _, ⟨hx, fun u a b d => q ⟨u, a, b, d⟩⟩, .refl⟩
end
open Classical in
noncomputable def repsN (E : List (Nat × Nat)) (free : Nat → Prop) (k : Nat) : List Nat := (List.range k).filter fun v => decide (isRep E free v)
noncomputable def compM (c : Nat) (E : List (Nat × Nat)) (free : Nat → Prop) (v : Nat) : Nat := maskP c (InC E free v)
theorem mem_reps {E : List (Nat × Nat)} {free : Nat → Prop} {k v : Nat} : v ∈ repsN E free k ↔ v < k ∧ isRep E free v := by
  unfold repsN
  rw [List.mem_filter, List.mem_range]; simp
end Pv

end
section
namespace Pv
open PySem

abbrev bitP (m : Nat) : Nat → Prop := fun v => m.testBit v = true
noncomputable def partsM (c : Nat) (E : List (Nat × Nat)) (free : Nat → Prop) : List Nat := (repsN E free c).map (compM c E free)
theorem compM_lt {c : Nat} {E : List (Nat × Nat)} {free : Nat → Prop} {v : Nat} : compM c E free v < 2 ^ c := maskP_lt
/-- the parts, as tuples of nodes -/
noncomputable def partsT (c : Nat) (E : List (Nat × Nat)) (free : Nat → Prop) : List (List Nat) := (partsM c E free).map (bitsN c)
theorem test_all {c x : Nat} : (2 ^ c - 1).testBit x = decide (x < c) := by rw [Nat.testBit_two_pow_sub_one]
end Pv

end
section
namespace Pv
open PySem

def borderN (c : Nat) (rows : List Nat) (m : Nat) : List Nat := (bitsN c m).filter fun v => !(dif (rows[v]?.getD 0) m == 0)
theorem mem_borderN {c : Nat} {E : List (Nat × Nat)} {rows : List Nat} {m v : Nat} (hr : RowsOk c E rows) : v ∈ borderN c rows m ↔ v < c ∧ m.testBit v = true ∧ ∃ u, adj E v u ∧ m.testBit u = false := by
  unfold borderN
  rw [List.mem_filter, mem_bitsN, and_assoc]
  refine and_congr_right fun _ => and_congr_right fun _ => ?_
  constructor
  · intro h
    have h : dif (rows[v]?.getD 0) m ≠ 0 := by simpa using h
    obtain ⟨u, hu⟩ := ne_zero_test h
    rw [test_dif, Bool.and_eq_true] at hu
    exact ⟨u, (hr.2 v u).mp hu.1, by simpa using hu.2⟩
  · rintro ⟨u, h1, h2⟩
    have : dif (rows[v]?.getD 0) m ≠ 0 := fun z => by
      have t : (dif (rows[v]?.getD 0) m).testBit u = true := by
        rw [test_dif, (hr.2 v u).mpr h1, h2]; rfl
      rw [z, Nat.zero_testBit] at t; cases t
    simpa using this
/-! ### sorting, looking -/
theorem okD_n (n : Nat) : okD (nD n) = true := rfl
theorem plainAll_iff {ds : List D} : PyData.plainAll ds = true ↔ ∀ d ∈ ds, d.plain = true := by
  induction ds with
  | nil => simp [PyData.plainAll]
  | cons d ds ih => simp [PyData.plainAll, ih]
theorem depthAll_le {ds : List D} {n : Nat} : PyData.depthAll ds ≤ n ↔ ∀ d ∈ ds, d.depth ≤ n := by
  induction ds with
  | nil => simp [PyData.depthAll]
  | cons d ds ih => simp [PyData.depthAll, ih, Nat.max_le]
def okN (n : Nat) (d : D) : Prop := d.plain = true ∧ d.depth ≤ n
theorem okN_nD (k n : Nat) : okN k (nD n) := ⟨rfl, Nat.zero_le _⟩
theorem okN_tup {n : Nat} {ds : List D} (h : ∀ d ∈ ds, okN n d) : okN (n + 1) (.tuple ds) := by
  refine ⟨?_, ?_⟩
  · rw [PyData.plain]; exact plainAll_iff.mpr fun d hd => (h d hd).1
  · rw [PyData.depth]; have := depthAll_le.mpr fun d hd => (h d hd).2; omega
theorem okN_lst {n : Nat} {ds : List D} (h : ∀ d ∈ ds, okN n d) : okN (n + 1) (.list ds) := by
  refine ⟨?_, ?_⟩
  · rw [PyData.plain]; exact plainAll_iff.mpr fun d hd => (h d hd).1
  · rw [PyData.depth]; have := depthAll_le.mpr fun d hd => (h d hd).2; omega
theorem okN_ok {n : Nat} {d : D} (h : okN n d) (hn : n ≤ 60) : okD d = true := by
  unfold okD
  rw [h.1, decide_eq_true (Nat.le_trans h.2 hn)]; rfl
theorem okN_natsT (n : Nat) (l : List Nat) : okN (n + 1) (natsT l) := okN_tup fun d hd => by
  obtain ⟨x, _, rfl⟩ := List.mem_map.mp hd; exact okN_nD _ _
theorem okN_natsL (n : Nat) (l : List Nat) : okN (n + 1) (natsL l) := okN_lst fun d hd => by
  obtain ⟨x, _, rfl⟩ := List.mem_map.mp hd; exact okN_nD _ _
theorem eqv_n (a b : Nat) : PyData.eqv (nD a) (nD b) = (a == b) := by
  show PyData.eqv (.int a) (.int b) = _
  rw [PyData.eqv, beq_nn]
theorem inD_n (a : Nat) (l : List Nat) : inD (nD a) (l.map nD) = decide (a ∈ l) := by
  unfold inD
  rw [List.any_map]
  induction l with
  | nil => rfl
  | cons b l ih =>
    rw [List.any_cons, ih]
    show (PyData.eqv (nD b) (nD a) || _) = _
    rw [eqv_n]
    by_cases h : b = a
    · subst h; simp
    · simp [h, Ne.symm h]
@[simp] theorem in_nL (a : Nat) (l : List Nat) : cmpR .In (nD a) (natsL l) = .ok (.bool (decide (a ∈ l))) := by
  apply cmpR_of
  show (if okD (nD a) && okD (natsL l) then some (inD (nD a) (l.map nD)) else none) = _
  rw [okD_n, okN_ok (okN_natsL 0 l) (by omega), inD_n]; rfl
@[simp] theorem in_nT (a : Nat) (l : List Nat) : cmpR .In (nD a) (natsT l) = .ok (.bool (decide (a ∈ l))) := by
  apply cmpR_of
  show (if okD (nD a) && okD (natsT l) then some (inD (nD a) (l.map nD)) else none) = _
  rw [okD_n, okN_ok (okN_natsT 0 l) (by omega), inD_n]; rfl
@[simp] theorem nin_nL (a : Nat) (l : List Nat) : cmpR .NotIn (nD a) (natsL l) = .ok (.bool (!decide (a ∈ l))) := by
  apply cmpR_of
  show (if okD (nD a) && okD (natsL l) then some (!inD (nD a) (l.map nD)) else none) = _
  rw [okD_n, okN_ok (okN_natsL 0 l) (by omega), inD_n]; rfl
@[simp] theorem nin_nT (a : Nat) (l : List Nat) : cmpR .NotIn (nD a) (natsT l) = .ok (.bool (!decide (a ∈ l))) := by
  apply cmpR_of
  show (if okD (nD a) && okD (natsT l) then some (!inD (nD a) (l.map nD)) else none) = _
  rw [okD_n, okN_ok (okN_natsT 0 l) (by omega), inD_n]; rfl
theorem all_imp {α : Type} {l : List α} {p : α → Bool} (h : ∀ a ∈ l, p a = true) : l.all p = true := List.all_eq_true.mpr h
theorem sortB_of0 {xs : List D} (h : sortB0 xs = true) : sortB xs = true := by unfold sortB; rw [h]; rfl
def leE (a b : Nat × Nat) : Bool := decide (a.1 < b.1 ∨ (a.1 = b.1 ∧ a.2 ≤ b.2))
theorem sorted_e (l : List (Nat × Nat)) : bltop .sorted [.list (l.map edgeD)] = some (.list ((l.mergeSort leE).map edgeD)) := by
  show (if alikeB (l.map edgeD) && plainB (l.map edgeD) && sortB (l.map edgeD) then some (PyData.list (sortD (l.map edgeD))) else none) = _
  have h1 : alikeB (l.map edgeD) = true := all_imp fun a ha => all_imp fun b hb => by
    obtain ⟨x, _, rfl⟩ := List.mem_map.mp ha
    obtain ⟨y, _, rfl⟩ := List.mem_map.mp hb
    simp [edgeD, PySem.W.alike, PySem.W.alikeAll, nD]
  have h2 : plainB (l.map edgeD) = true := all_imp fun a ha => by
    obtain ⟨x, _, rfl⟩ := List.mem_map.mp ha
    have : okN 60 (edgeD x) := okN_tup (n := 59) fun d hd => by
      rcases List.mem_cons.mp hd with rfl | hd
      · exact okN_nD _ _
      · have : d = nD x.2 := by simpa using hd
        subst this; exact okN_nD _ _
    rw [this.1, decide_eq_true this.2]; rfl
  have h3 : sortB (l.map edgeD) = true := by
    refine sortB_of0 ?_
    unfold sortB0
    rw [Bool.or_eq_true]
    exact .inl (all_imp fun a ha => by
      obtain ⟨x, _, rfl⟩ := List.mem_map.mp ha
      rfl)
  rw [h1, h2, h3]
  show some (PyData.list (sortD (l.map edgeD))) = _
  unfold sortD
  rw [← List.map_mergeSort (r := leE) (s := fun a b => !PySem.W.dataLt b a)]
  intro a _ b _
  show _ = !PySem.W.dataLt (.tuple [.int b.1, .int b.2]) (.tuple [.int a.1, .int a.2])
  rw [PySem.W.dataLt_ii]
  unfold leE
  by_cases h : a.1 < b.1 ∨ (a.1 = b.1 ∧ a.2 ≤ b.2)
  · rw [decide_eq_true h, decide_eq_false (by omega)]; rfl
  · rw [decide_eq_false h, decide_eq_true (by omega)]; rfl
end Pv

end
section
namespace Pv
open PySem

/-! ### the law's makings -/
theorem cmpI_ge (i : Int) (j : Nat) : cmpR .GtE (.int i) (nD j) = .ok (.bool (decide ((j : Int) ≤ i))) := id rfl
theorem bin_modI {i : Int} {j : Nat} (h : 0 < j) : binop .Mod (.int i) (nD j) = some (nD (i % j).toNat) := by
  show (if (0 : Int) < (j : Int) then some (PyData.int (i % j)) else none) = _
  rw [if_pos (by omega), nD_eq, Int.toNat_of_nonneg (Int.emod_nonneg _ (by omega))]
theorem law_mixed_run (Φ : Calls) (cell : Int) (turn : Nat) : ∃ v : Nat, runB 2 6 b__law_mixed Φ [.int cell, nD turn] = .ok (nD v) := by
  by_cases h : (1000000000000000000 : Int) ≤ cell
  · refine ⟨cell.toNat, (run_of (by rfl)).trans ?_⟩
    unfold b__law_mixed
    simp [start1, cmpI_ge, h]
    rw [nD_eq, Int.toNat_of_nonneg (by omega)]
  · have : ∃ v : Nat, endR (exs b__law_mixed Φ (start1 6 [.int cell, nD turn])) = .ok (nD v) := by
      unfold b__law_mixed
      simp [start1, cmpI_ge, h, bin_modI, bin_mod, bin_mul, bin_mulL]
      exact ⟨_, rfl⟩
    obtain ⟨v, e⟩ := this
    exact ⟨v, (run_of (by rfl)).trans e⟩
def SMixed (Φ : Calls) : Prop := ∀ (cell : Int) (turn : Nat), ∃ v : Nat, Φ "_law_mixed" [.int cell, nD turn] = .ok (nD v)
def ltE (a b : Nat × Nat) : Prop := a.1 < b.1 ∨ (a.1 = b.1 ∧ a.2 < b.2)
structure GOk (c : Nat) (E : List (Nat × Nat)) : Prop where
  lt : ∀ e ∈ E, e.1 < e.2 ∧ e.2 < c
  so : E.Pairwise ltE
  len : E.length ≤ 64
theorem GOk.e {c : Nat} {E : List (Nat × Nat)} (h : GOk c E) : EOk c E := fun e he => by have := h.lt e he; omega
def lgE (v most c t left : Nat) (E0 : List (Nat × Nat)) (y z : Option (Bool × D)) : Env := [some (false, nD v), some (false, nD most), some (false, nD c), some (false, nD t), some (false, nD left), some (true, .list (E0.map edgeD)), y, z]
def LgO (v most c t : Nat) (rest : List Nat) (ρ : Env) : Prop := ∃ (left : Nat) (E0 : List (Nat × Nat)) (y z : Option (Bool × D)), ρ = lgE v most c t left E0 y z ∧ rest.Nodup ∧ (∀ x ∈ rest, x < c) ∧ E0.Nodup
  ∧ (∀ e ∈ E0, e.1 < e.2 ∧ e.2 < c ∧ e.2 ∉ rest) ∧ E0.length + rest.length * 8 ≤ 64
def LgN (v most c t : Nat) (rest : List Nat) (sec : Nat) (inner : List Nat) (ρ : Env) : Prop := ∃ (left : Nat) (E0 : List (Nat × Nat)) (z : Option (Bool × D)), ρ = lgE v most c t left E0 (some (false, nD sec)) z ∧ inner.Nodup ∧ (∀ x ∈ inner, x < sec) ∧ E0.Nodup
  ∧ (∀ e ∈ E0, e.1 < e.2 ∧ e.2 < c ∧ e.2 ∉ rest ∧ (e.2 = sec → e.1 ∉ inner)) ∧ E0.length + inner.length + rest.length * 8 ≤ 64
theorem law_graph_run (Φ : Calls) (v most : Nat) (hm : 1 ≤ most) (hm8 : most ≤ 8) : ∃ c E, runB 2 8 b__law_graph Φ [nD v, nD most] = .ok (grD c E) ∧ 1 ≤ c ∧ c ≤ most ∧ GOk c E := by
  obtain ⟨c, hcd⟩ : ∃ c, c = 1 + v % most := ⟨_, rfl⟩
  have hc1 : 1 ≤ c := by omega
  have hc2 : c ≤ most := by have := Nat.mod_lt v (show 0 < most by omega); omega
  suffices h : ∃ E, endR (exs b__law_graph Φ (start1 8 [nD v, nD most])) = .ok (grD c E) ∧ GOk c E by
    obtain ⟨E, e, g⟩ := h
    exact ⟨c, E, (run_of (by rfl)).trans e, hc1, hc2, g⟩
  suffices h : ∃ E0 : List (Nat × Nat), endR (exs b__law_graph Φ (start1 8 [nD v, nD most])) = .ok (grD c (E0.mergeSort leE)) ∧ (∀ e ∈ E0, e.1 < e.2 ∧ e.2 < c) ∧ E0.Nodup ∧ E0.length ≤ 64 by
    obtain ⟨E0, e, g1, g2, g3⟩ := h
    refine ⟨_, e, fun x hx => g1 x (List.mem_mergeSort.mp hx), ?_, by rw [List.length_mergeSort]; exact g3⟩
    have hs : (E0.mergeSort leE).Pairwise fun a b => leE a b = true := List.pairwise_mergeSort (fun a b d h1 h2 => by unfold leE at *; simp only [decide_eq_true_eq] at *; omega) (fun a b => by unfold leE; simp only [Bool.or_eq_true, decide_eq_true_eq]; omega) E0
    have hn : (E0.mergeSort leE).Nodup := (List.mergeSort_perm E0 leE).nodup_iff.mpr g2
    refine List.Pairwise.imp ?_ (List.Pairwise.and hs hn)
    intro a b ⟨h1, h2⟩
    unfold leE at h1
    simp only [decide_eq_true_eq] at h1
    unfold ltE
    have : ¬ (a.1 = b.1 ∧ a.2 = b.2) := fun z => h2 (Prod.ext z.1 z.2)
    omega
  obtain ⟨t, ht⟩ : ∃ t, t = 1 + v / most % 3 := ⟨_, rfl⟩
  unfold b__law_graph
  simp [start1, bin_mod (show 0 < most by omega), bin_div (show 0 < most by omega) (show most < 1073741824 by omega), bin_mul (show most < 2 ^ 64 by omega), bin_div (show 0 < 3 * most by omega) (show 3 * most < 1073741824 by omega), bin_mod, ← hcd, ← ht, rng_n (show c ≤ 1000000 by omega)]
  have edge_nil : (PyData.list []) = .list (([] : List (Nat × Nat)).map edgeD) := rfl
  refine for_gen (fun r => ∃ E0 : List (Nat × Nat), endR r = .ok (grD c (E0.mergeSort leE)) ∧ (∀ (a b : Nat), (a, b) ∈ E0 → a < b ∧ b < c) ∧ E0.Nodup ∧ E0.length ≤ 64)
    (LgO v most c t) ?_ ?_ _ _ ⟨v / (3 * most), [], none, none, rfl, List.nodup_range, fun x hx => List.mem_range.mp hx, by simp, by simp, by simp; omega⟩
  · rintro sec rest ρ ⟨left, E0, y, z, q, n1, n2, n3, n4, n5⟩
    subst q
    have hsec : sec < c := n2 sec (by simp)
    refine ⟨_, rfl, ?_⟩
    simp [lgE, rng_n (show sec ≤ 1000000 by omega)]
    refine for_AI (LgN v most c t rest sec) ⟨left, E0, z, rfl, List.nodup_range, fun x hx => List.mem_range.mp hx, n3, fun e he => ?_, ?_⟩ ?_ ?_
    · obtain ⟨a1, a2, a3⟩ := n4 e he
      exact ⟨a1, a2, fun h => a3 (List.mem_cons_of_mem _ h), fun h => absurd (by rw [h]; simp) a3⟩
    · rw [List.length_range]; rw [List.length_cons] at n5; omega
    · rintro fst inner ρ ⟨left, E0, z, q, m1, m2, m3, m4, m5⟩
      subst q
      refine ⟨_, rfl, ?_⟩
      have hfst : fst < sec := m2 fst (by simp)
      have happ : ∀ left', apS 5 [some (false, nD v), some (false, nD most), some (false, nD c), some (false, nD t), some (false, nD left'), some (true, .list (E0.map edgeD)), some (false, nD sec), some (false, nD fst)] (.ok (.tuple [nD fst, nD sec])) = .nx [some (false, nD v), some (false, nD most), some (false, nD c), some (false, nD t), some (false, nD left'), some (true, .list ((E0 ++ [(fst, sec)]).map edgeD)), some (false, nD sec), some (false, nD fst)] := fun left' => by
        rw [apS_ok (ds := E0.map edgeD) (by rfl) (by rw [List.length_map]; omega), List.map_append]
        rfl
      have fin : ∀ (left' : Nat) (E1 : List (Nat × Nat)), (E1 = E0 ∨ E1 = E0 ++ [(fst, sec)]) → LgN v most c t rest sec inner (lgE v most c t left' E1 (some (false, nD sec)) (some (false, nD fst))) := fun left' E1 hE1 => by
        obtain ⟨mi1, mi2⟩ := List.nodup_cons.mp m1
        obtain ⟨nr1, nr2⟩ := List.nodup_cons.mp n1
        rw [List.length_cons] at m5
        refine ⟨left', E1, some (false, nD fst), rfl, mi2, fun x hx => m2 x (by simp [hx]), ?_, fun e he => ?_, ?_⟩
        · rcases hE1 with rfl | rfl
          · exact m3
          · rw [List.nodup_append]
            refine ⟨m3, by simp, fun a ha b hb => ?_⟩
            have : b = (fst, sec) := by simpa using hb
            subst this
            intro hab
            subst hab
            exact (m4 _ ha).2.2.2 rfl (by simp)
        · have key : ∀ e ∈ E0, e.1 < e.2 ∧ e.2 < c ∧ e.2 ∉ rest ∧ (e.2 = sec → e.1 ∉ inner) := fun e he => by
            obtain ⟨a1, a2, a3, a4⟩ := m4 e he
            exact ⟨a1, a2, a3, fun h z => a4 h (by simp [z])⟩
          rcases hE1 with rfl | rfl
          · exact key e he
          · rcases List.mem_append.mp he with he | he
            · exact key e he
            · have : e = (fst, sec) := by simpa using he
              subst this
              exact ⟨hfst, hsec, nr1, fun _ => mi1⟩
        · rcases hE1 with rfl | rfl
          · omega
          · rw [List.length_append]; simp; omega
      by_cases c1 : left = 0
      · subst c1
        by_cases c2 : (v + 7919 * (fst + 10 * sec + 1)) % 4 < t
        · simp [lgE, bin_mul, bin_mulL, bin_mod, bin_div, c2, happ]
          have q := fin ((v + 7919 * (fst + 10 * sec + 1)) / 4) (E0 ++ [(fst, sec)]) (.inr rfl)
          unfold lgE at q
          rw [List.map_append] at q
          exact q
        · simp [lgE, bin_mul, bin_mulL, bin_mod, bin_div, c2]
          exact fin ((v + 7919 * (fst + 10 * sec + 1)) / 4) E0 (.inl rfl)
      · by_cases c2 : left % 4 < t
        · simp [lgE, bin_mul, bin_mulL, bin_mod, bin_div, c1, c2, happ]
          have q := fin (left / 4) (E0 ++ [(fst, sec)]) (.inr rfl)
          unfold lgE at q
          rw [List.map_append] at q
          exact q
        · simp [lgE, bin_mul, bin_mulL, bin_mod, bin_div, c1, c2]
          exact fin (left / 4) E0 (.inl rfl)
    · rintro ρ ⟨left, E0, z, q, m1, m2, m3, m4, m5⟩
      subst q
      have := List.nodup_cons.mp n1
      simp only [Aft_nx]
      exact ⟨left, E0, some (false, nD sec), z, rfl, this.2, fun x hx => n2 x (by simp [hx]), m3, fun e he => ⟨(m4 e he).1, (m4 e he).2.1, (m4 e he).2.2.1⟩, by simp at m5; omega⟩
  · rintro ρ ⟨left, E0, y, z, q, n1, n2, n3, n4, n5⟩
    subst q
    refine ⟨E0, ?_, fun a b h => ⟨(n4 _ h).1, (n4 _ h).2.1⟩, n3, by simp at n5; exact n5⟩
    simp [lgE, sorted_e, grD]
end Pv

end
section
namespace Pv
open PySem

abbrev Asc (l : List Nat) : Prop := l.Pairwise (· < ·)
theorem asc_eq : ∀ {l m : List Nat}, Asc l → Asc m → (∀ x, x ∈ l ↔ x ∈ m) → l = m
  | [], [], _, _, _ => rfl
  | [], b :: m, _, _, h => absurd ((h b).mpr (by simp)) (by simp)
  | a :: l, [], _, _, h => absurd ((h a).mp (by simp)) (by simp)
  | a :: l, b :: m, h1, h2, h => by
    obtain ⟨a1, a2⟩ := List.pairwise_cons.mp h1
    obtain ⟨b1, b2⟩ := List.pairwise_cons.mp h2
    have hab : a = b := by
      rcases List.mem_cons.mp ((h a).mp (by simp)) with e | e
      · exact e
      · rcases List.mem_cons.mp ((h b).mpr (by simp)) with e2 | e2
        · exact e2.symm
        · have := b1 a e; have := a1 b e2; omega
    subst hab
    congr 1
    refine asc_eq a2 b2 fun x => ⟨fun hx => ?_, fun hx => ?_⟩
    · rcases List.mem_cons.mp ((h x).mp (by simp [hx])) with e | e
      · have := a1 x hx; omega
      · exact e
    · rcases List.mem_cons.mp ((h x).mpr (by simp [hx])) with e | e
      · have := b1 x hx; omega
      · exact e
theorem range_asc (n : Nat) : Asc (List.range n) := List.pairwise_lt_range
theorem bits_asc (c m : Nat) : Asc (bitsN c m) := (range_asc c).filter _
theorem Asc.nodup {l : List Nat} (h : Asc l) : l.Nodup := List.Pairwise.imp (fun {a b} (q : a < b) => Nat.ne_of_lt q) h
theorem sort_asc {l : List Nat} (h : l.Nodup) : Asc (l.mergeSort fun a b => decide (a ≤ b)) := by
  have hs : (l.mergeSort fun a b => decide (a ≤ b)).Pairwise fun a b => decide (a ≤ b) = true := List.pairwise_mergeSort (fun a b d h1 h2 => by simp only [decide_eq_true_eq] at *; omega) (fun a b => by simp only [Bool.or_eq_true, decide_eq_true_eq]; omega) l
  have hn : (l.mergeSort fun a b => decide (a ≤ b)).Nodup := (List.mergeSort_perm l _).nodup_iff.mpr h
  refine List.Pairwise.imp ?_ (List.Pairwise.and hs hn)
  intro a b ⟨h1, h2⟩
  simp only [decide_eq_true_eq] at h1
  have : a ≠ b := h2
  omega
theorem nodup_len {l : List Nat} {c : Nat} (h : l.Nodup) (hl : ∀ x ∈ l, x < c) : l.length ≤ c := by
  have e : (l.mergeSort fun a b => decide (a ≤ b)).length = l.length := List.length_mergeSort l
  rw [← e]
  have := asc_len (sort_asc h) (c := c) fun x hx => hl x (List.mem_mergeSort.mp hx)
  exact this
where
  asc_len : ∀ {l : List Nat} {c : Nat}, Asc l → (∀ x ∈ l, x < c) → l.length ≤ c := by
    intro l
    have go : ∀ (l : List Nat) (k c : Nat), Asc l → (∀ x ∈ l, k ≤ x ∧ x < c) → k ≤ c → l.length + k ≤ c := by
      intro l
      induction l with
      | nil => intro k c _ _ h; simpa using h
      | cons a l ih =>
        intro k c h1 h2 hk
        obtain ⟨a1, a2⟩ := List.pairwise_cons.mp h1
        have ha := h2 a (by simp)
        have := ih (a + 1) c a2 (fun x hx => ⟨a1 x hx, (h2 x (by simp [hx])).2⟩) (by omega)
        rw [List.length_cons]; omega
    intro c h1 h2
    have := go l 0 c h1 (fun x hx => ⟨Nat.zero_le _, h2 x hx⟩) (Nat.zero_le _)
    omega
/-! _law_set -/
end Pv

end
section
namespace Pv
open PySem

/-! _law_reach -/
abbrev frB (c : Nat) (ban : List Nat) : Nat → Prop := fun v => v < c ∧ v ∉ ban
structure RcL (E : List (Nat × Nat)) (c : Nat) (ban : List Nat) (v : Nat) (L : List Nat) : Prop where
  nd : L.Nodup
  lt : ∀ x ∈ L, x < c
  st : v ∈ L
  co : ∀ x ∈ L, InC E (frB c ban) v x
theorem RcL.app {E : List (Nat × Nat)} {c : Nat} {ban : List Nat} {v : Nat} {L : List Nat} (h : RcL E c ban v L) {a b : Nat} (ha : a ∈ L) (hb : b ∉ L) (hab : adj E a b) (hf : frB c ban b) : RcL E c ban v (L ++ [b]) := by
  refine ⟨?_, fun x hx => ?_, List.mem_append_left _ h.st, fun x hx => ?_⟩
  · rw [List.nodup_append]
    refine ⟨h.nd, by simp, fun x hx y hy => ?_⟩
    have : y = b := by simpa using hy
    subst this
    exact fun z => hb (z ▸ hx)
  · rcases List.mem_append.mp hx with hx | hx
    · exact h.lt x hx
    · have : x = b := by simpa using hx
      subst this; exact hf.1
  · rcases List.mem_append.mp hx with hx | hx
    · exact h.co x hx
    · have : x = b := by simpa using hx
      subst this
      exact .step (h.co a ha) hab hf
end Pv

end
section
namespace Pv
open PySem

/-! enumerate -/
theorem enum_map {α : Type} (h : α → D) : ∀ (l : List α) (k : Nat), enumFrom k (l.map h) = (l.zipIdx k).map fun p => .tuple [nD p.2, h p.1]
  | [], _ => rfl
  | a :: l, k => by
    rw [List.map_cons, enumFrom, enum_map h l (k + 1), List.zipIdx_cons, List.map_cons]
    rfl
theorem cut_take {xs : List D} {n : Nat} : slop (.list xs) none (some (n : Int)) = some (.list (xs.take n)) := by
  show some (PyData.list (cutL xs none (some (n : Int)))) = _
  unfold cutL
  rw [HT.sIx_none, HT.sIx_nat]
  congr 2
  rw [List.drop_zero, Nat.sub_zero, List.take_eq_take_iff]
  omega
end Pv

end
section
namespace Pv
open PySem

def SGraph (Φ : Calls) : Prop := ∀ v most, 1 ≤ most → most ≤ 8 → ∃ c E, Φ "_law_graph" [nD v, nD most] = .ok (grD c E) ∧ 1 ≤ c ∧ c ≤ most ∧ GOk c E
end Pv

end
section
namespace Pv
open PySem

/-! ### orders: what lies beyond -/
/-- v is next to something that u reaches through gone -/
def LkG (E : List (Nat × Nat)) (gone : Nat → Prop) (u v : Nat) : Prop := ∃ w, InC E gone u w ∧ adj E w v
section
variable {E : List (Nat × Nat)} {g g' : Nat → Prop} {u v x w : Nat}
theorem InC.mono (h : ∀ x, g x → g' x) (q : InC E g u v) : InC E g' u v := by
  induction q with
  | base e => exact .base e
  | step _ a b ih => exact .step ih a (h _ b)
theorem LkG.mono (h : ∀ x, g x → g' x) (q : LkG E g u v) : LkG E g' u v := let ⟨w, a, b⟩ := q; ⟨w, a.mono h, b⟩
theorem lk_of (q : InC E g u w) : ∀ v, adj E w v → LkG E g v u := by
  induction q with
  | base e => intro v h; exact ⟨v, .refl, e ▸ adj_symm h⟩
  | @step w0 w _ a b ih =>
    intro v h
    obtain ⟨w2, c1, c2⟩ := ih w a
    exact ⟨w2, InC.trans (.step (.base rfl) (adj_symm h) b) c1, c2⟩
theorem LkG.symm (q : LkG E g u v) : LkG E g v u := let ⟨w, a, b⟩ := q; lk_of a v b
end
noncomputable def beyM (c : Nat) (E : List (Nat × Nat)) (g : Nat → Prop) (u : Nat) : Nat := maskP c fun v => LkG E g u v ∧ ¬ g v ∧ v ≠ u
end Pv

end
section
namespace Pv
open PySem

theorem cut_drop {xs : List D} {n : Nat} : slop (.list xs) (some (n : Int)) none = some (.list (xs.drop n)) := by
  show some (PyData.list (cutL xs (some (n : Int)) none)) = _
  unfold cutL
  rw [HT.sIx_none, HT.sIx_nat]
  congr 2
  by_cases h : n ≤ xs.length
  · rw [Nat.min_eq_left h]
    apply List.take_of_length_le
    rw [List.length_drop]
    exact Nat.le_refl _
  · rw [Nat.min_eq_right (by omega), List.drop_length, List.drop_of_length_le (by omega)]
    simp
/-! _law_order -/
end Pv

end
section
namespace Pv
open PySem

theorem okN_edge (n : Nat) (e : Nat × Nat) : okN (n + 1) (edgeD e) := okN_tup fun d hd => by
  rcases List.mem_cons.mp hd with rfl | hd
  · exact okN_nD _ _
  · have : d = nD e.2 := by simpa using hd
    subst this; exact okN_nD _ _
theorem eqv_e (a b : Nat × Nat) : PyData.eqv (edgeD a) (edgeD b) = (a == b) := by
  show PyData.eqv (.tuple [nD a.1, nD a.2]) (.tuple [nD b.1, nD b.2]) = _
  rw [PyData.eqv, PyData.eqvAll, PyData.eqvAll, PyData.eqvAll, eqv_n, eqv_n]
  obtain ⟨a1, a2⟩ := a
  obtain ⟨b1, b2⟩ := b
  show (a1 == b1 && (a2 == b2 && true)) = ((a1, b1).1 == b1 && _)
  rw [Bool.and_true]
/-! k06 -/
/-- pairs joined: those of p0, and pairs of others -/
structure PJ (p0 p : List (Nat × Nat)) (oth : List Nat) : Prop where
  old : ∀ e ∈ p0, e ∈ p
  new : ∀ e ∈ p, e ∈ p0 ∨ (e.1 < e.2 ∧ e.1 ∈ oth ∧ e.2 ∈ oth)
structure KsB where
  s : D
  i : D
  z : D
  v : D
  c : Nat
  E : List (Nat × Nat)
  order : List Nat
structure KsP (B : KsB) (gone : Nat) (rest : List Nat) (pairs : List (Nat × Nat)) : Prop where
  gl : gone < 2 ^ B.c
  nd : rest.Nodup
  lt : ∀ x ∈ rest, x < B.c ∧ ¬ bitP gone x
  al : ∀ x, x < B.c → bitP gone x ∨ x ∈ rest
  pa : ∀ u v, u < v → v < B.c → ¬ bitP gone u → ¬ bitP gone v → ((u, v) ∈ pairs ↔ LkG B.E (bitP gone) u v)
  len : pairs.length + 64 * rest.length ≤ 576
end Pv

end
section
namespace Pv
open PySem

end Pv

end
section
namespace Pv
open PySem

/-! ### least of pairs; ranges from; counting without repeats -/
/-- without repeats -/
def ddN (l : List Nat) : List Nat := l.foldl (fun acc x => if x ∈ acc then acc else acc ++ [x]) []
theorem ddN_spec (l : List Nat) : (ddN l).Nodup ∧ ∀ x, x ∈ ddN l ↔ x ∈ l := by
  have go : ∀ (l acc : List Nat), acc.Nodup → (l.foldl (fun acc x => if x ∈ acc then acc else acc ++ [x]) acc).Nodup ∧ ∀ x, x ∈ l.foldl (fun acc x => if x ∈ acc then acc else acc ++ [x]) acc ↔ x ∈ acc ∨ x ∈ l := by
    intro l
    induction l with
    | nil => intro acc h; exact ⟨h, fun x => by simp⟩
    | cons a l ih =>
      intro acc h
      rw [List.foldl_cons]
      by_cases q : a ∈ acc
      · rw [if_pos q]
        obtain ⟨h1, h2⟩ := ih acc h
        refine ⟨h1, fun x => ?_⟩
        rw [h2, List.mem_cons]
        constructor
        · rintro (z | z)
          · exact .inl z
          · exact .inr (.inr z)
        · rintro (z | rfl | z)
          · exact .inl z
          · exact .inl q
          · exact .inr z
      · rw [if_neg q]
        obtain ⟨h1, h2⟩ := ih (acc ++ [a]) (by
          rw [List.nodup_append]
          refine ⟨h, by simp, fun x hx y hy => ?_⟩
          have : y = a := by simpa using hy
          subst this
          exact fun z => q (z ▸ hx))
        refine ⟨h1, fun x => ?_⟩
        rw [h2, List.mem_append, List.mem_cons]
        simp [or_assoc]
  obtain ⟨h1, h2⟩ := go l [] .nil
  exact ⟨h1, fun x => by unfold ddN; rw [h2]; simp⟩
theorem len_of_mem {l m : List Nat} (h1 : l.Nodup) (h2 : m.Nodup) (h : ∀ x, x ∈ l ↔ x ∈ m) : l.length = m.length := ((List.perm_ext_iff_of_nodup h1 h2).mpr h).length_eq

/-! ### the least cost of an order, by what is gone -/
def costN (w : Nat → Nat → Nat) : Nat → List Nat → Nat
  | _, [] => 0
  | g, v :: l => max (w g v) (costN w (g ||| 2 ^ v) l)
structure DpOk (w : Nat → Nat → Nat) (needs lasts : List Nat) (k : Nat) : Prop where
  ln : needs.length = k
  ll : lasts.length = k
  z : needs[0]? = some 0
  at_ : ∀ m, 0 < m → m < k → m.testBit (lasts[m]?.getD 0) = true ∧ needs[m]?.getD 0 = max (needs[dif m (2 ^ (lasts[m]?.getD 0))]?.getD 0) (w (dif m (2 ^ (lasts[m]?.getD 0))) (lasts[m]?.getD 0))
  le : ∀ m u, m < k → m.testBit u = true → needs[m]?.getD 0 ≤ max (needs[dif m (2 ^ u)]?.getD 0) (w (dif m (2 ^ u)) u)
theorem dif_lt_self {m u : Nat} (h : m.testBit u = true) : dif m (2 ^ u) < m := by
  have e : m &&& 2 ^ u = 2 ^ u := by
    apply Nat.eq_of_testBit_eq
    intro i
    rw [Nat.testBit_and, Nat.testBit_two_pow]
    by_cases q : u = i
    · subst q; simp [h]
    · simp [q]
  have : 2 ^ u ≤ m := by rw [← e]; exact Nat.and_le_left
  have := Nat.two_pow_pos u
  unfold dif
  rw [e]
  omega
theorem dif_or {m u : Nat} (h : m.testBit u = false) : dif (m ||| 2 ^ u) (2 ^ u) = m := by
  apply Nat.eq_of_testBit_eq
  intro i
  rw [test_dif, Nat.testBit_or, Nat.testBit_two_pow]
  by_cases q : u = i
  · subst q; simp [h]
  · simp [q]
theorem or_dif {m u : Nat} (h : m.testBit u = true) : dif m (2 ^ u) ||| 2 ^ u = m := by
  apply Nat.eq_of_testBit_eq
  intro i
  rw [Nat.testBit_or, test_dif, Nat.testBit_two_pow]
  by_cases q : u = i
  · subst q; simp [h]
  · simp [q]
theorem dp_lower {w : Nat → Nat → Nat} {needs lasts : List Nat} {c : Nat} (d : DpOk w needs lasts (2 ^ c)) : ∀ (l : List Nat) (g : Nat), g < 2 ^ c → l.Nodup → (∀ x ∈ l, x < c ∧ g.testBit x = false) → ∃ m, m < 2 ^ c ∧ (∀ x, m.testBit x = true ↔ g.testBit x = true ∨ x ∈ l) ∧ needs[m]?.getD 0 ≤ max (needs[g]?.getD 0) (costN w g l)
  | [], g, hg, _, _ => ⟨g, hg, fun x => by simp, Nat.le_max_left _ _⟩
  | v :: l, g, hg, hn, hl => by
    obtain ⟨n1, n2⟩ := List.nodup_cons.mp hn
    obtain ⟨v1, v2⟩ := hl v (by simp)
    have hw : 2 ^ v < 2 ^ c := Nat.pow_lt_pow_right (by decide) v1
    have hg2 := Nat.or_lt_two_pow hg hw
    obtain ⟨m, m1, m2, m3⟩ := dp_lower d l (g ||| 2 ^ v) hg2 n2 fun x hx => ⟨(hl x (by simp [hx])).1, by
      rw [Nat.testBit_or, (hl x (by simp [hx])).2, Nat.testBit_two_pow]
      have : v ≠ x := fun e => n1 (e ▸ hx)
      simp [this]⟩
    have hb : (g ||| 2 ^ v).testBit v = true := by rw [Nat.testBit_or, Nat.testBit_two_pow]; simp
    have h1 := d.le _ v hg2 hb
    rw [dif_or v2] at h1
    refine ⟨m, m1, fun x => ?_, ?_⟩
    · rw [m2, Nat.testBit_or, Bool.or_eq_true, test_2pow, List.mem_cons, or_assoc]
    · show _ ≤ max _ (max (w g v) (costN w (g ||| 2 ^ v) l))
      omega
/-- what the table says of all nodes is at most the cost of each order -/
theorem dp_least {w : Nat → Nat → Nat} {needs lasts : List Nat} {c : Nat} (d : DpOk w needs lasts (2 ^ c)) {l : List Nat} (h : l.Perm (List.range c)) : needs[2 ^ c - 1]?.getD 0 ≤ costN w 0 l := by
  obtain ⟨m, m1, m2, m3⟩ := dp_lower d l 0 (Nat.two_pow_pos c) (h.nodup_iff.mpr List.nodup_range) fun x hx => ⟨List.mem_range.mp (h.mem_iff.mp hx), by simp⟩
  have e : m = 2 ^ c - 1 := mask_ext fun x => by
    rw [m2, test_all, h.mem_iff, List.mem_range]
    simp
  rw [e, d.z] at m3
  simpa using m3
/-- the walk back -/
structure BackOk (w : Nat → Nat → Nat) (needs : List Nat) (c m : Nat) (L : List Nat) : Prop where
  lt : m < 2 ^ c
  nd : L.Nodup
  al : ∀ x, x < c ↔ m.testBit x = true ∨ x ∈ L
  di : ∀ x ∈ L, m.testBit x = false
  co : max (needs[m]?.getD 0) (costN w m L.reverse) ≤ needs[2 ^ c - 1]?.getD 0
theorem BackOk.start {w : Nat → Nat → Nat} {needs : List Nat} {c : Nat} : BackOk w needs c (2 ^ c - 1) [] :=
  ⟨by have := Nat.two_pow_pos c; omega, .nil, fun x => by rw [test_all]; simp, by simp, by simp [costN]⟩
theorem BackOk.step {w : Nat → Nat → Nat} {needs lasts L : List Nat} {c m : Nat} (d : DpOk w needs lasts (2 ^ c)) (h : BackOk w needs c m L) (hm : m ≠ 0) : BackOk w needs c (dif m (2 ^ (lasts[m]?.getD 0))) (L ++ [lasts[m]?.getD 0]) := by
  obtain ⟨h1, h2⟩ := d.at_ m (by omega) h.lt
  obtain ⟨v, hv⟩ : ∃ v, v = lasts[m]?.getD 0 := ⟨_, rfl⟩
  rw [← hv] at h1 h2 ⊢
  refine ⟨dif_lt h.lt, ?_, fun x => ?_, fun x hx => ?_, ?_⟩
  · rw [List.nodup_append]
    refine ⟨h.nd, by simp, fun x hx y hy => ?_⟩
    have : y = v := by simpa using hy
    subst this
    intro z
    have := h.di x hx
    rw [z, h1] at this; cases this
  · rw [h.al, test_dif, Bool.and_eq_true, List.mem_append]
    by_cases q : x = v
    · subst q; simp [h1]
    · have : (2 ^ v).testBit x = false := by rw [Nat.testBit_two_pow]; simp [Ne.symm q]
      simp [this, q]
  · rw [test_dif]
    rcases List.mem_append.mp hx with hx | hx
    · rw [h.di x hx]; rfl
    · have : x = v := by simpa using hx
      subst this
      rw [Nat.testBit_two_pow]; simp
  · rw [List.reverse_append, List.reverse_singleton]
    show max _ (max (w (dif m (2 ^ v)) v) (costN w (dif m (2 ^ v) ||| 2 ^ v) L.reverse)) ≤ _
    rw [or_dif h1]
    have := h.co
    omega
theorem BackOk.fin {w : Nat → Nat → Nat} {needs lasts L : List Nat} {c : Nat} (d : DpOk w needs lasts (2 ^ c)) (h : BackOk w needs c 0 L) : L.reverse.Perm (List.range c) ∧ ∀ l : List Nat, l.Perm (List.range c) → costN w 0 L.reverse ≤ costN w 0 l := by
  refine ⟨(List.perm_ext_iff_of_nodup ((List.reverse_perm L).nodup_iff.mpr h.nd) List.nodup_range).mpr fun x => ?_, fun l hl => ?_⟩
  · rw [List.mem_reverse, List.mem_range, h.al]; simp
  · have := dp_least d hl
    have := h.co
    omega
theorem DpOk.one (w : Nat → Nat → Nat) : DpOk w [0] [0] 1 := ⟨rfl, rfl, rfl, fun m h1 h2 => by omega, fun m u h1 h2 => by
  have : m = 0 := by omega
  subst this
  simp at h2⟩
theorem getD_app {l : List Nat} {x m : Nat} : (l ++ [x])[m]?.getD 0 = if m < l.length then l[m]?.getD 0 else if m = l.length then x else 0 := by
  by_cases h : m < l.length
  · rw [if_pos h, List.getElem?_append_left h]
  · rw [if_neg h]
    by_cases h2 : m = l.length
    · subst h2; simp
    · rw [if_neg h2, List.getElem?_eq_none (by simp; omega)]; rfl
/-- one mask more: p the least of the options -/
theorem DpOk.step {w : Nat → Nat → Nat} {needs lasts : List Nat} {c m : Nat} (d : DpOk w needs lasts m) (hm : 0 < m) (hc : m < 2 ^ c) {p : Nat × Nat} (hp : p ∈ (bitsN c m).map fun v => (max (needs[dif m (2 ^ v)]?.getD 0) (w (dif m (2 ^ v)) v), v))
    (hl : ∀ x ∈ (bitsN c m).map fun v => (max (needs[dif m (2 ^ v)]?.getD 0) (w (dif m (2 ^ v)) v), v), leE p x = true) : DpOk w (needs ++ [p.1]) (lasts ++ [p.2]) (m + 1) := by
  obtain ⟨v, hv, rfl⟩ := List.mem_map.mp hp
  obtain ⟨v1, v2⟩ := mem_bitsN.mp hv
  have old : ∀ k, k < m → (needs ++ [max (needs[dif m (2 ^ v)]?.getD 0) (w (dif m (2 ^ v)) v)])[k]?.getD 0 = needs[k]?.getD 0 ∧ (lasts ++ [v])[k]?.getD 0 = lasts[k]?.getD 0 := fun k hk => by
    rw [getD_app, getD_app, d.ln, d.ll, if_pos hk, if_pos hk]; exact ⟨rfl, rfl⟩
  refine ⟨by rw [List.length_append, d.ln]; rfl, by rw [List.length_append, d.ll]; rfl, ?_, fun k k1 k2 => ?_, fun k u k1 k2 => ?_⟩
  · rw [List.getElem?_append_left (by rw [d.ln]; exact hm)]; exact d.z
  · by_cases hk : k < m
    · obtain ⟨o1, o2⟩ := old k hk
      obtain ⟨a1, a2⟩ := d.at_ k k1 hk
      rw [o2, o1, (old _ (Nat.lt_trans (dif_lt_self a1) hk)).1]
      exact ⟨a1, a2⟩
    · have : k = m := by omega
      subst this
      have e1 : (lasts ++ [v])[k]?.getD 0 = v := by rw [getD_app, d.ll]; simp
      have e2 : (needs ++ [max (needs[dif k (2 ^ v)]?.getD 0) (w (dif k (2 ^ v)) v)])[k]?.getD 0 = max (needs[dif k (2 ^ v)]?.getD 0) (w (dif k (2 ^ v)) v) := by rw [getD_app, d.ln]; simp
      rw [e1, e2, (old _ (dif_lt_self v2)).1]
      exact ⟨v2, rfl⟩
  · by_cases hk : k < m
    · rw [(old k hk).1, (old _ (Nat.lt_trans (dif_lt_self k2) hk)).1]
      exact d.le k u hk k2
    · have : k = m := by omega
      subst this
      have e2 : (needs ++ [max (needs[dif k (2 ^ v)]?.getD 0) (w (dif k (2 ^ v)) v)])[k]?.getD 0 = max (needs[dif k (2 ^ v)]?.getD 0) (w (dif k (2 ^ v)) v) := by rw [getD_app, d.ln]; simp
      rw [e2, (old _ (dif_lt_self k2)).1]
      have := hl _ (List.mem_map.mpr ⟨u, mem_bitsN.mpr ⟨lt_of_test hc k2, k2⟩, rfl⟩)
      unfold leE at this
      simp only [decide_eq_true_eq] at this
      omega
end Pv

end
section
namespace Pv
open PySem

/-! ### best_line -/
def wLine (c : Nat) (E : List (Nat × Nat)) (g _v : Nat) : Nat := 1 + (borderN c (rowsN c E) g).length
end Pv

end
section
namespace Pv
open PySem

/-! ### cells, all lines -/
abbrev scrD (ns : List Int) : D := .list (ns.map PyData.int)
theorem cut_takeT {xs : List D} {n : Nat} : slop (.tuple xs) none (some (n : Int)) = some (.tuple (xs.take n)) := by
  show some (PyData.tuple (cutL xs none (some (n : Int)))) = _
  have h : slop (.list xs) none (some (n : Int)) = some (.list (cutL xs none (some (n : Int)))) := rfl
  rw [cut_take] at h
  have := PyData.list.inj (Option.some.inj h)
  rw [← this]
end Pv

end
section
namespace Pv
open PySem

/-! ### the need of a line, by hand -/
theorem mem_border_mask {c : Nat} {E : List (Nat × Nat)} (hE : EOk c E) {l : List Nat} {v : Nat} : v ∈ borderN c (rowsN c E) (maskN l) ↔ v < c ∧ v ∈ l ∧ ∃ u, adj E v u ∧ u ∉ l := by
  rw [mem_borderN (rowsN_ok hE), test_maskN]
  have tm : ∀ y, (maskN l).testBit y = false ↔ y ∉ l := fun y => by rw [← test_maskN (l := l), Bool.not_eq_true]
  constructor
  · rintro ⟨a, b, u, h1, h2⟩; exact ⟨a, b, u, h1, (tm u).mp h2⟩
  · rintro ⟨a, b, u, h1, h2⟩; exact ⟨a, b, u, h1, (tm u).mpr h2⟩
/-- what the edges tell of a border -/
structure BdL (E : List (Nat × Nat)) (front : List Nat) (rest : List (Nat × Nat)) (due : List Nat) : Prop where
  sub : ∀ e ∈ rest, e ∈ E
  ok : ∀ x ∈ due, x ∈ front ∧ ∃ u, adj E x u ∧ u ∉ front
  al : ∀ e ∈ E, e ∈ rest ∨ ((e.1 ∈ front → e.2 ∉ front → e.1 ∈ due) ∧ (e.2 ∈ front → e.1 ∉ front → e.2 ∈ due))
  len : due.length + 2 * rest.length ≤ 2 * E.length
theorem BdL.start {E : List (Nat × Nat)} {front : List Nat} : BdL E front E [] := ⟨fun _ h => h, by simp, fun e he => .inl he, by simp⟩
theorem BdL.step {E : List (Nat × Nat)} {front due due2 : List Nat} {a b : Nat} {es : List (Nat × Nat)} (h : BdL E front ((a, b) :: es) due) (k1 : ∀ x ∈ due, x ∈ due2) (k2 : ∀ x ∈ due2, x ∈ due ∨ (x = a ∧ a ∈ front ∧ b ∉ front) ∨ (x = b ∧ b ∈ front ∧ a ∉ front))
    (k3 : a ∈ front → b ∉ front → a ∈ due2) (k4 : b ∈ front → a ∉ front → b ∈ due2) (k5 : due2.length ≤ due.length + 2) : BdL E front es due2 := by
  have hab := h.sub (a, b) (by simp)
  refine ⟨fun e he => h.sub e (by simp [he]), fun x hx => ?_, fun e he => ?_, ?_⟩
  · rcases k2 x hx with q | ⟨rfl, q1, q2⟩ | ⟨rfl, q1, q2⟩
    · exact h.ok x q
    · exact ⟨q1, b, .inl hab, q2⟩
    · exact ⟨q1, a, .inr hab, q2⟩
  · rcases h.al e he with q | q
    · rcases List.mem_cons.mp q with rfl | q
      · exact .inr ⟨k3, k4⟩
      · exact .inl q
    · exact .inr ⟨fun x y => k1 _ (q.1 x y), fun x y => k1 _ (q.2 x y)⟩
  · have := h.len
    rw [List.length_cons] at this
    omega
theorem BdL.fin {c : Nat} {E : List (Nat × Nat)} {front due : List Nat} (hE : EOk c E) (hf : ∀ x ∈ front, x < c) (h : BdL E front [] due) : ∀ x, x ∈ due ↔ x ∈ borderN c (rowsN c E) (maskN front) := fun x => by
  rw [mem_border_mask hE]
  constructor
  · exact fun q => ⟨hf x (h.ok x q).1, h.ok x q⟩
  · rintro ⟨_, hx, u, hu, hn⟩
    rcases hu with hu | hu
    · exact ((h.al _ hu).resolve_left (by simp)).1 hx hn
    · exact ((h.al _ hu).resolve_left (by simp)).2 hx hn
theorem BdL.count {c : Nat} {E : List (Nat × Nat)} {front due : List Nat} (hE : EOk c E) (hf : ∀ x ∈ front, x < c) (h : BdL E front [] due) : (ddN due).length = (borderN c (rowsN c E) (maskN front)).length :=
  len_of_mem (ddN_spec due).1 (Asc.nodup ((bits_asc _ _).filter _)) fun x => by rw [(ddN_spec due).2, h.fin hE hf]
end Pv

end
section
namespace Pv
open PySem

/-! ### k13 -/
end Pv

end
section
namespace Pv
open PySem

/-! ### lists or tuples of numbers -/
def seqN (k : Bool) (l : List Nat) : D := if k then natsT l else natsL l
@[simp] theorem seqN_t (l : List Nat) : seqN true l = natsT l := id rfl
@[simp] theorem seqN_f (l : List Nat) : seqN false l = natsL l := id rfl
@[simp] theorem items_s (k : Bool) (l : List Nat) : itemsOf (seqN k l) = .ok (l.map nD) := by cases k <;> exact id rfl
@[simp] theorem in_s (k : Bool) (a : Nat) (l : List Nat) : cmpR .In (nD a) (seqN k l) = .ok (.bool (decide (a ∈ l))) := by cases k <;> simp
@[simp] theorem nin_s (k : Bool) (a : Nat) (l : List Nat) : cmpR .NotIn (nD a) (seqN k l) = .ok (.bool (!decide (a ∈ l))) := by cases k <;> simp
@[simp] theorem lst_s (k : Bool) (l : List Nat) : bltop .list [seqN k l] = some (natsL l) := by cases k <;> exact id rfl
@[simp] theorem tup_s (k : Bool) (l : List Nat) : bltop .tuple [seqN k l] = some (natsT l) := by cases k <;> exact id rfl
@[simp] theorem len_s (k : Bool) (l : List Nat) : bltop .len [seqN k l] = some (nD l.length) := by cases k <;> simp [seqN, natsT, natsL]
/-! ### _law_reach, from any start -/
def StB (st ban : List Nat) : Nat → Prop := fun v => v ∈ st ∧ v ∉ ban
noncomputable def reachM (c : Nat) (E : List (Nat × Nat)) (ban st : List Nat) : Nat := maskP c (Conn E (frB c ban) (StB st ban))
noncomputable def reachL (c : Nat) (E : List (Nat × Nat)) (ban st : List Nat) : List Nat := bitsN c (reachM c E ban st)
theorem mem_reachL {c : Nat} {E : List (Nat × Nat)} {ban st : List Nat} {v : Nat} : v ∈ reachL c E ban st ↔ v < c ∧ Conn E (frB c ban) (StB st ban) v := by
  unfold reachL reachM
  rw [mem_bitsN, test_maskP]
  exact ⟨fun h => h.2, fun h => ⟨h.1, h⟩⟩
structure RgL (E : List (Nat × Nat)) (c : Nat) (ban st : List Nat) (L : List Nat) : Prop where
  nd : L.Nodup
  lt : ∀ x ∈ L, x < c
  sb : ∀ x, StB st ban x → x ∈ L
  co : ∀ x ∈ L, Conn E (frB c ban) (StB st ban) x
theorem RgL.app {E : List (Nat × Nat)} {c : Nat} {ban st : List Nat} {L : List Nat} (h : RgL E c ban st L) {a b : Nat} (ha : a ∈ L) (hb : b ∉ L) (hab : adj E a b) (hf : frB c ban b) : RgL E c ban st (L ++ [b]) := by
  refine ⟨?_, fun x hx => ?_, fun x hx => List.mem_append_left _ (h.sb x hx), fun x hx => ?_⟩
  · rw [List.nodup_append]
    refine ⟨h.nd, by simp, fun x hx y hy => ?_⟩
    have : y = b := by simpa using hy
    subst this
    exact fun z => hb (z ▸ hx)
  · rcases List.mem_append.mp hx with hx | hx
    · exact h.lt x hx
    · have : x = b := by simpa using hx
      subst this; exact hf.1
  · rcases List.mem_append.mp hx with hx | hx
    · exact h.co x hx
    · have : x = b := by simpa using hx
      subst this
      exact .step (h.co a ha) hab hf
/-! ### _law_next -/
noncomputable def nextL (c : Nat) (E : List (Nat × Nat)) (lazy : Bool) (stand poss after : List Nat) : List Nat :=
  (List.range c).filter fun v => (decide (v ∈ reachL c E (stand.filter (fun x => decide (x ∈ after))) (if lazy then poss.filter (fun x => decide (x ∈ after)) else poss)) || decide (v ∈ poss)) && !decide (v ∈ after)
end Pv

end
section
namespace Pv
open PySem

/-! ### equal data -/
structure EncOk {α : Type} [DecidableEq α] (f : α → D) (n : Nat) : Prop where
  eq : ∀ a b, PyData.eqv (f a) (f b) = decide (a = b)
  ok : ∀ a, okN n (f a)
theorem enc_e (n : Nat) : EncOk edgeD (n + 1) := ⟨fun a b => by rw [eqv_e]; by_cases h : a = b <;> simp [h], fun a => okN_edge n a⟩
section
variable {α : Type} [DecidableEq α] {f : α → D} {n : Nat}
theorem eqvAll_map (h : ∀ a b, PyData.eqv (f a) (f b) = decide (a = b)) : ∀ xs ys : List α, PyData.eqvAll (xs.map f) (ys.map f) = decide (xs = ys)
  | [], [] => by simp [PyData.eqvAll]
  | [], _ :: _ => by simp [PyData.eqvAll]
  | _ :: _, [] => by simp [PyData.eqvAll]
  | x :: xs, y :: ys => by
    rw [List.map_cons, List.map_cons, PyData.eqvAll, h, eqvAll_map h xs ys]
    by_cases h1 : x = y <;> by_cases h2 : xs = ys <;> simp [h1, h2]
theorem EncOk.tup (h : EncOk f n) : EncOk (fun l : List α => PyData.tuple (l.map f)) (n + 1) := ⟨fun a b => by
  show PyData.eqv (.tuple _) (.tuple _) = _
  rw [PyData.eqv]; exact eqvAll_map h.eq a b, fun l => okN_tup fun d hd => by
    obtain ⟨x, _, rfl⟩ := List.mem_map.mp hd
    exact h.ok x⟩
theorem EncOk.lst (h : EncOk f n) : EncOk (fun l : List α => PyData.list (l.map f)) (n + 1) := ⟨fun a b => by
  show PyData.eqv (.list _) (.list _) = _
  rw [PyData.eqv]; exact eqvAll_map h.eq a b, fun l => okN_lst fun d hd => by
    obtain ⟨x, _, rfl⟩ := List.mem_map.mp hd
    exact h.ok x⟩
theorem cmp_neL (h : EncOk f n) (hn : n ≤ 59) (xs ys : List α) : cmpR .NotEq (.list (xs.map f)) (.list (ys.map f)) = .ok (.bool (!decide (xs = ys))) := by
  apply cmpR_of
  show (if okD (.list (xs.map f)) && okD (.list (ys.map f)) then some (!PyData.eqv (.list (xs.map f)) (.list (ys.map f))) else none) = _
  rw [okN_ok (h.lst.ok xs) (by omega), okN_ok (h.lst.ok ys) (by omega), h.lst.eq]; rfl
end
/-! ### sorted(set(..)) -/
theorem ssR_of {d : D} {ds : List D} {ns : List Int} (h : seqD d = some ds) (hi : intsOf ds = some ns) : ssR d = if decide (ns.length ≤ 4000) && decide ((ddI ns).length < 64) then .ok (ssD ds) else .st := by
  unfold ssR
  simp only [h, hi]
/-! ### the program's lines -/
end Pv

end
section
namespace Pv
open PySem

/-! ### plans walked, by hand -/
noncomputable def walkN (c : Nat) (E : List (Nat × Nat)) (lazy : Bool) : List Nat → List Nat → List (List Nat) → List (List Nat)
  | _, _, [] => []
  | stand, poss, s :: plan => nextL c E lazy stand poss s :: walkN c E lazy s (nextL c E lazy stand poss s) plan
/-- nothing is possible that was not before, and nothing at the end -/
def Falls : List Nat → List (List Nat) → Bool
  | before, [] => decide (before = [])
  | before, p :: ps => decide (∀ x ∈ p, x ∈ before) && Falls p ps
/-! ### the plan of a line catches -/
end Pv

end
section
namespace Pv
open PySem

/-! ### k12 -/
end Pv

end
section
namespace Pv
open PySem

/-! ### best_order -/
noncomputable def wOrd (c : Nat) (E : List (Nat × Nat)) (g v : Nat) : Nat := 1 + (bitsN c (beyM c E (bitP g) v)).length
/-! ### the need of an order, by hand -/
structure ByL (E : List (Nat × Nat)) (rch beh : List Nat) (rest : List (Nat × Nat)) (fnd : List Nat) : Prop where
  sub : ∀ e ∈ rest, e ∈ E
  ok : ∀ x ∈ fnd, x ∈ beh ∧ ∃ u, adj E u x ∧ u ∈ rch
  al : ∀ e ∈ E, e ∈ rest ∨ ((e.1 ∈ rch → e.2 ∈ beh → e.2 ∈ fnd) ∧ (e.2 ∈ rch → e.1 ∈ beh → e.1 ∈ fnd))
  len : fnd.length + 2 * rest.length ≤ 2 * E.length
theorem ByL.start {E : List (Nat × Nat)} {rch beh : List Nat} : ByL E rch beh E [] := ⟨fun _ h => h, by simp, fun e he => .inl he, by simp⟩
theorem ByL.step {E : List (Nat × Nat)} {rch beh fnd fnd2 : List Nat} {a b : Nat} {es : List (Nat × Nat)} (h : ByL E rch beh ((a, b) :: es) fnd) (k1 : ∀ x ∈ fnd, x ∈ fnd2) (k2 : ∀ x ∈ fnd2, x ∈ fnd ∨ (x = b ∧ a ∈ rch ∧ b ∈ beh) ∨ (x = a ∧ b ∈ rch ∧ a ∈ beh))
    (k3 : a ∈ rch → b ∈ beh → b ∈ fnd2) (k4 : b ∈ rch → a ∈ beh → a ∈ fnd2) (k5 : fnd2.length ≤ fnd.length + 2) : ByL E rch beh es fnd2 := by
  have hab := h.sub (a, b) (by simp)
  refine ⟨fun e he => h.sub e (by simp [he]), fun x hx => ?_, fun e he => ?_, ?_⟩
  · rcases k2 x hx with q | ⟨rfl, q1, q2⟩ | ⟨rfl, q1, q2⟩
    · exact h.ok x q
    · exact ⟨q2, a, .inl hab, q1⟩
    · exact ⟨q2, b, .inr hab, q1⟩
  · rcases h.al e he with q | q
    · rcases List.mem_cons.mp q with rfl | q
      · exact .inr ⟨k3, k4⟩
      · exact .inl q
    · exact .inr ⟨fun x y => k1 _ (q.1 x y), fun x y => k1 _ (q.2 x y)⟩
  · have := h.len
    rw [List.length_cons] at this
    omega
end Pv

end
section
namespace Pv
open PySem

/-! ### dicts over nodes -/
def natDict (l : List Nat) (f : Nat → D) : List (D × D) := l.map fun x => (nD x, f x)
/-! ### the greatest of numbers -/
/-! ### the rooms of an order -/
end Pv

end
section
namespace Pv
open PySem

end Pv

end
section
namespace Pv
open PySem

/-! ### is_tree -/
def okAt (k : Nat) (a : Int) : Prop := (k = 0 → a = -1) ∧ (0 < k → 0 ≤ a ∧ a < k)
end Pv

end
section
namespace Pv
open PySem

/-! ### rooms_hold -/
def rm (rs : List (List Nat × Int)) (k : Nat) : List Nat := (rs[k]?.getD ([], 0)).1
def up (rs : List (List Nat × Int)) (k : Nat) : Int := (rs[k]?.getD ([], 0)).2
def RoomsOk (c : Nat) (rs : List (List Nat × Int)) : Prop := rs.length ≤ 1000 ∧ ∀ r ∈ rs, r.1.Nodup ∧ ∀ x ∈ r.1, x < c
def masksD (rs : List (List Nat × Int)) : D := .list (rs.map fun r => nD (maskN r.1))
def topsD (c : Nat) (f : Nat → Nat) : D := .list ((List.range c).map fun v => nD (f v))
@[simp high] theorem rdB_0M (rs : List (List Nat × Int)) (r : Env) : rdB 0 (some (true, masksD rs) :: r) = .ok (masksD rs) := id rfl
@[simp high] theorem clr_someM (rs : List (List Nat × Int)) (r : Env) : clr (some (true, masksD rs) :: r) = some (false, masksD rs) :: clr r := id rfl
@[simp high] theorem dis1_0M (rs : List (List Nat × Int)) (r : Env) : dis1 0 (some (true, masksD rs) :: r) = some (false, masksD rs) :: r := id rfl
@[simp high] theorem rdB_0T (c : Nat) (f : Nat → Nat) (r : Env) : rdB 0 (some (true, topsD c f) :: r) = .ok (topsD c f) := id rfl
@[simp high] theorem clr_someT (c : Nat) (f : Nat → Nat) (r : Env) : clr (some (true, topsD c f) :: r) = some (false, topsD c f) :: clr r := id rfl
@[simp high] theorem dis1_0T (c : Nat) (f : Nat → Nat) (r : Env) : dis1 0 (some (true, topsD c f) :: r) = some (false, topsD c f) :: r := id rfl
end Pv

end
section
namespace Pv
open PySem

/-! ### the rooms of an order are a tree of rooms -/
section
variable {c : Nat} {E : List (Nat × Nat)} {o : List Nat}
end
end Pv

end
section
namespace Pv
open PySem

end Pv

end
section
namespace Pv
open PySem

/-! ### k09: the judge of rooms -/
@[simp] theorem trev_tup (ds : List D) : trev (.tuple ds) = .ok (.tuple ds.reverse) := id rfl
def RoomsN (c N : Nat) (rs : List (List Nat × Int)) : Prop := rs ≠ [] ∧ rs.length ≤ N ∧ ∀ r ∈ rs, r.1.Nodup ∧ ∀ x ∈ r.1, x < c
theorem RoomsN.ok {c N : Nat} {rs : List (List Nat × Int)} (h : RoomsN c N rs) (hN : N ≤ 1000) : RoomsOk c rs := ⟨Nat.le_trans h.2.1 hN, h.2.2⟩
end Pv

end
section
namespace Pv
open PySem

end Pv

end
section
namespace Pv
open PySem

end Pv

end
section
namespace Pv
open PySem

/-! ### trees of rooms, by index -/
def TopF (R : Nat → List Nat) (U : Nat → Int) (v k : Nat) : Prop := v ∈ R k ∧ (k = 0 ∨ v ∉ R (U k).toNat)
structure TDF (c : Nat) (E : List (Nat × Nat)) (n : Nat) (R : Nat → List Nat) (U : Nat → Int) : Prop where
  pos : 0 < n
  up : ∀ k, k < n → okAt k (U k)
  top : ∀ v, v < c → ∃ t, t < n ∧ ∀ k, k < n → (TopF R U v k ↔ k = t)
  ed : ∀ e ∈ E, ∃ k, k < n ∧ e.1 ∈ R k ∧ e.2 ∈ R k
  as : ∀ k, k < n → Asc (R k) ∧ ∀ x ∈ R k, x < c
section
variable {c n : Nat} {E : List (Nat × Nat)} {R R' : Nat → List Nat} {U U' : Nat → Int}
theorem TDF.upN (h : TDF c E n R U) {k : Nat} (hk : k < n) (h0 : k ≠ 0) : (U k).toNat < k ∧ U k = ((U k).toNat : Int) := by
  obtain ⟨a, b⟩ := (h.up k hk).2 (by omega)
  omega
theorem TDF.first (h : TDF c E n R U) {v : Nat} : ∀ (m k : Nat), k ≤ m → k < n → v ∈ R k → ∃ t, t ≤ k ∧ TopF R U v t
  | 0, k, hm, hk, hv => ⟨k, Nat.le_refl _, hv, .inl (by omega)⟩
  | m + 1, k, hm, hk, hv => by
    by_cases h0 : k = 0
    · exact ⟨k, Nat.le_refl _, hv, .inl h0⟩
    · obtain ⟨q1, q2⟩ := h.upN hk h0
      by_cases hu : v ∈ R (U k).toNat
      · obtain ⟨t, t1, t2⟩ := h.first m (U k).toNat (by omega) (by omega) hu
        exact ⟨t, by omega, t2⟩
      · exact ⟨k, Nat.le_refl _, hv, .inr hu⟩
theorem TDF.front (h : TDF c E n R U) (hR0 : R' 0 = []) (hU0 : U' 0 = -1) (hR : ∀ k, k < n → R' (k + 1) = R k) (hU : ∀ k, k < n → U' (k + 1) = U k + 1) : TDF c E (n + 1) R' U' := by
  have hup : ∀ k, k < n → k ≠ 0 → (U' (k + 1)).toNat = (U k).toNat + 1 ∧ (U k).toNat < n := fun k hk h0 => by
    obtain ⟨q1, q2⟩ := h.upN hk h0
    rw [hU k hk]
    omega
  have htop : ∀ v k, k < n → (TopF R' U' v (k + 1) ↔ TopF R U v k) := fun v k hk => by
    unfold TopF
    rw [hR k hk]
    by_cases h0 : k = 0
    · subst h0
      have : U' (0 + 1) = 0 := by rw [hU 0 hk, (h.up 0 hk).1 rfl]; rfl
      rw [this]
      simp [hR0]
    · obtain ⟨q1, q2⟩ := hup k hk h0
      rw [q1, hR _ q2]
      simp [h0]
  refine ⟨by omega, fun k hk => ?_, fun v hv => ?_, fun e he => ?_, fun k hk => ?_⟩
  · cases k with
    | zero => exact ⟨fun _ => hU0, fun z => by omega⟩
    | succ k =>
      have := h.up k (by omega)
      refine ⟨fun z => by omega, fun _ => ?_⟩
      rw [hU k (by omega)]
      by_cases h0 : k = 0
      · have := this.1 h0
        omega
      · have := this.2 (by omega)
        omega
  · obtain ⟨t, ht, q⟩ := h.top v hv
    refine ⟨t + 1, by omega, fun k hk => ?_⟩
    cases k with
    | zero =>
      constructor
      · intro z
        have := z.1
        rw [hR0] at this
        cases this
      · intro z; omega
    | succ k =>
      rw [htop v k (by omega), q k (by omega)]
      omega
  · obtain ⟨k, hk, k1, k2⟩ := h.ed e he
    exact ⟨k + 1, by omega, by rw [hR k hk]; exact k1, by rw [hR k hk]; exact k2⟩
  · cases k with
    | zero => rw [hR0]; exact ⟨List.Pairwise.nil, fun x hx => by cases hx⟩
    | succ k => rw [hR k (by omega)]; exact h.as k (by omega)
end
end Pv

end
section
namespace Pv
open PySem

/-! ### the plan of a tree of rooms catches the lazy runner -/
inductive Desc (U : Nat → Int) (k : Nat) : Nat → Prop
  | refl : Desc U k k
  | step {j : Nat} (h0 : j ≠ 0) (h : Desc U k (U j).toNat) : Desc U k j
section
variable {c n : Nat} {E : List (Nat × Nat)} {R : Nat → List Nat} {U : Nat → Int}
theorem Desc.trans {k t j : Nat} (h1 : Desc U k t) (h2 : Desc U t j) : Desc U k j := by
  induction h2 with
  | refl => exact h1
  | step h0 _ ih => exact .step h0 ih
theorem Desc.le (h : TDF c E n R U) {k j : Nat} (hd : Desc U k j) (hj : j < n) : k ≤ j := by
  induction hd with
  | refl => exact Nat.le_refl _
  | step h0 _ ih =>
    have := (h.upN hj h0).1
    have := ih (by omega)
    omega
theorem TDF.down (h : TDF c E n R U) {v t : Nat} (ht : ∀ k, k < n → (TopF R U v k ↔ k = t)) : ∀ (m j : Nat), j ≤ m → j < n → v ∈ R j → Desc U t j
  | 0, j, hm, hj, hv => by
    have : j = t := (ht j hj).mp ⟨hv, .inl (by omega)⟩
    rw [this]; exact .refl
  | m + 1, j, hm, hj, hv => by
    by_cases q : TopF R U v j
    · rw [(ht j hj).mp q]; exact .refl
    · have h0 : j ≠ 0 := fun z => q ⟨hv, .inl z⟩
      have hu : v ∈ R (U j).toNat := Classical.byContradiction fun z => q ⟨hv, .inr z⟩
      have := (h.upN hj h0).1
      exact .step h0 (h.down ht m _ (by omega) (by omega) hu)
theorem TDF.cross (h : TDF c E n R U) {v t k j : Nat} (ht : ∀ k, k < n → (TopF R U v k ↔ k = t)) (hd : Desc U k j) (hj : j < n) (hv : v ∈ R j) (hn : ¬ Desc U k t) : k ≠ 0 ∧ v ∈ R k ∧ v ∈ R (U k).toNat := by
  induction hd with
  | refl =>
    have q : ¬ TopF R U v k := fun z => hn (by rw [(ht k hj).mp z]; exact .refl)
    have h0 : k ≠ 0 := fun z => q ⟨hv, .inl z⟩
    exact ⟨h0, hv, Classical.byContradiction fun z => q ⟨hv, .inr z⟩⟩
  | @step j h0 hd ih =>
    have q : ¬ TopF R U v j := fun z => hn (by rw [← (ht j hj).mp z]; exact .step h0 hd)
    have hu : v ∈ R (U j).toNat := Classical.byContradiction fun z => q ⟨hv, .inr z⟩
    have := (h.upN hj h0).1
    exact ih (by omega) hu
noncomputable def pos (c : Nat) (R : Nat → List Nat) (k : Nat) : List Nat := by
  classical exact (List.range c).filter fun v => decide (∀ j, j ≤ k → v ∉ R j)
end
end Pv

end
section
namespace Pv
open PySem

def TDL (c : Nat) (E : List (Nat × Nat)) (rs : List (List Nat × Int)) : Prop := TDF c E rs.length (rm rs) (up rs)
/-! plan_of -/
end Pv

end
section
namespace Pv
open PySem

/-! ### _law_merged -/
end Pv

end
section
namespace Pv
open PySem

/-! ### k11: the plan of rooms -/
end Pv

end
section
namespace Pv
open PySem

/-! ### the parts in which a seen runner may be -/
/-- the parts that are due, by their least nodes -/
noncomputable def dueR (c : Nat) (E : List (Nat × Nat)) (stand part after : List Nat) : List Nat := (repsN E (frB c after) c).filter fun r => decide (r ∈ reachL c E (stand.filter fun x => decide (x ∈ after)) part)
noncomputable def dueM (c : Nat) (E : List (Nat × Nat)) (stand part after : List Nat) : List Nat := (dueR c E stand part after).map (compM c E (frB c after))
noncomputable def dueL (c : Nat) (E : List (Nat × Nat)) (stand part after : List Nat) : List (List Nat) := (dueM c E stand part after).map (bitsN c)
end Pv

end
section
namespace Pv
open PySem

/-! ### hunts -/
def HT : Nat → Type
  | 0 => Unit
  | n + 1 => List (List Nat × List Nat × HT n)
def SetOk (c : Nat) (l : List Nat) : Prop := l.Nodup ∧ ∀ x ∈ l, x < c
theorem SetOk.len {c : Nat} {l : List Nat} (h : SetOk c l) : l.length ≤ c := nodup_len h.1 h.2
theorem SetOk.bits (c m : Nat) : SetOk c (bitsN c m) := ⟨(bits_asc _ _).nodup, fun x hx => (mem_bitsN.mp hx).1⟩
def HOk (c B : Nat) : (n : Nat) → HT n → Prop
  | 0, _ => True
  | n + 1, l => List.length (α := List Nat × List Nat × HT n) l ≤ B ∧ ∀ b : List Nat × List Nat × HT n, b ∈ (show List (List Nat × List Nat × HT n) from l) → SetOk c b.1 ∧ SetOk c b.2.1 ∧ HOk c B n b.2.2
noncomputable def ansN (c : Nat) (E : List (Nat × Nat)) (count : Nat) : (n : Nat) → HT n → List (List Nat) → List Nat → Bool
  | 0, _, due, _ => decide (due = [])
  | n + 1, l, due, stand => decide (List.map (fun b : List Nat × List Nat × HT n => b.1) l = due) && List.all (α := List Nat × List Nat × HT n) l fun b => decide (b.2.1.length ≤ count) && ansN c E count n b.2.2 (dueL c E stand b.1 b.2.1) b.2.1
end Pv

end
section
namespace Pv
open PySem

/-! ### hunts, judged by the law -/
/-! spoilt hunts -/
theorem HOk.mono {c B B' : Nat} (hB : B ≤ B') : ∀ (n : Nat) (h : HT n), HOk c B n h → HOk c B' n h
  | 0, _, _ => trivial
  | n + 1, l, h => ⟨Nat.le_trans h.1 hB, fun b hb => ⟨(h.2 b hb).1, (h.2 b hb).2.1, HOk.mono hB n _ (h.2 b hb).2.2⟩⟩
def BrOk (c B : Nat) {n : Nat} (b : List Nat × List Nat × HT n) : Prop := SetOk c b.1 ∧ SetOk c b.2.1 ∧ HOk c B n b.2.2
theorem BrOk.mono {c B B' : Nat} (hB : B ≤ B') {n : Nat} {b : List Nat × List Nat × HT n} (h : BrOk c B b) : BrOk c B' b := ⟨h.1, h.2.1, HOk.mono hB n _ h.2.2⟩
end Pv

end
section
namespace Pv
open PySem

end Pv

end
section
namespace Pv
open PySem

/-! ### hunt_of -/
end Pv

end
section
namespace Pv
open PySem

/-! hunt_of -/
/-! k05 -/
end Pv

end
section
namespace Pv
open PySem

/-! ### rooms below a room -/
section
variable {c n : Nat} {E : List (Nat × Nat)} {R : Nat → List Nat} {U : Nat → Int}
def inB (n : Nat) (R : Nat → List Nat) (U : Nat → Int) (k v : Nat) : Prop := ∃ j, j < n ∧ Desc U k j ∧ v ∈ R j
theorem Desc.child {k t : Nat} (hd : Desc U k t) (hne : t ≠ k) (h : TDF c E n R U) (ht : t < n) : ∃ i, i < n ∧ i ≠ 0 ∧ (U i).toNat = k ∧ Desc U i t := by
  induction hd with
  | refl => exact absurd rfl hne
  | @step j h0 hd ih =>
    by_cases e : (U j).toNat = k
    · exact ⟨j, ht, h0, e, .refl⟩
    · have := (h.upN ht h0).1
      obtain ⟨i, i1, i2, i3, i4⟩ := ih e (by omega)
      exact ⟨i, i1, i2, i3, .step h0 i4⟩
theorem inB_iff (h : TDF c E n R U) {k v : Nat} (hk : k < n) : inB n R U k v ↔ v ∈ R k ∨ ∃ i, i < n ∧ i ≠ 0 ∧ (U i).toNat = k ∧ inB n R U i v := by
  constructor
  · rintro ⟨j, hj, hd, hv⟩
    by_cases e : j = k
    · exact .inl (e ▸ hv)
    · obtain ⟨i, i1, i2, i3, i4⟩ := hd.child e h hj
      exact .inr ⟨i, i1, i2, i3, j, hj, i4, hv⟩
  · rintro (q | ⟨i, i1, i2, i3, j, j1, j2, j3⟩)
    · exact ⟨k, hk, .refl, q⟩
    · exact ⟨j, j1, Desc.trans (.step i2 (by rw [i3]; exact .refl)) j2, j3⟩
theorem Desc.line {a b t : Nat} (h1 : Desc U a t) (h2 : Desc U b t) : Desc U a b ∨ Desc U b a := by
  induction h1 with
  | refl => exact .inr h2
  | @step j h0 h ih =>
    cases h2 with
    | refl => exact .inl (.step h0 h)
    | step _ h' => exact ih h'
/-- the top of v lies at or below k -/
def TopB (n : Nat) (R : Nat → List Nat) (U : Nat → Int) (k v : Nat) : Prop := ∀ t, t < n → (∀ j, j < n → (TopF R U v j ↔ j = t)) → Desc U k t
theorem topB_step (h : TDF c E n R U) {i y z : Nat} (hy : y < c) (hz : z < c) (ty : TopB n R U i y) (ha : adj E y z) (hn : ¬ (z ∈ R i ∧ z ∈ R (U i).toNat)) : TopB n R U i z := fun t ht htop => Classical.byContradiction fun hd => by
  obtain ⟨j, hj, j1, j2⟩ : ∃ j, j < n ∧ y ∈ R j ∧ z ∈ R j := by
    rcases ha with ha | ha
    · obtain ⟨j, hj, j1, j2⟩ := h.ed _ ha; exact ⟨j, hj, j1, j2⟩
    · obtain ⟨j, hj, j1, j2⟩ := h.ed _ ha; exact ⟨j, hj, j2, j1⟩
  obtain ⟨s, hs, htopy⟩ := h.top y hy
  have d1 := ty s hs htopy
  have d2 := h.down htopy j j (Nat.le_refl _) hj j1
  obtain ⟨_, c1, c2⟩ := h.cross htop (d1.trans d2) hj j2 hd
  exact hn ⟨c1, c2⟩
/-- a part below room k -/
structure Good (c n : Nat) (E : List (Nat × Nat)) (R : Nat → List Nat) (U : Nat → Int) (k : Nat) (P : List Nat) : Prop where
  ne : P ≠ []
  ok : SetOk c P
  out : ∀ v ∈ P, v ∉ R k
  low : ∀ v ∈ P, TopB n R U k v
  con : ∀ u ∈ P, ∀ v ∈ P, InC E (frB c (R k)) u v
structure ChildOf (n : Nat) (R : Nat → List Nat) (U : Nat → Int) (k : Nat) (P : List Nat) (i : Nat) : Prop where
  lt : i < n
  ne : i ≠ 0
  up : (U i).toNat = k
  al : ∀ v ∈ P, inB n R U i v
  un : ∀ j, j < n → j ≠ 0 → (U j).toNat = k → (∀ v ∈ P, inB n R U j v) → j = i
theorem Good.child (h : TDF c E n R U) {k : Nat} {P : List Nat} (g : Good c n E R U k P) : ∃ i, ChildOf n R U k P i ∧ ∀ v ∈ P, TopB n R U i v := by
  obtain ⟨u, hu⟩ := List.exists_mem_of_ne_nil _ g.ne
  have huc := g.ok.2 u hu
  obtain ⟨t, ht, htop⟩ := h.top u huc
  have hd := g.low u hu t ht htop
  have hut := ((htop t ht).mpr rfl).1
  have hne : t ≠ k := fun z => g.out u hu (z ▸ hut)
  obtain ⟨i, i1, i2, i3, i4⟩ := hd.child hne h ht
  have all : ∀ v ∈ P, TopB n R U i v := fun v hv => by
    have key : ∀ w, InC E (frB c (R k)) u w → w < c ∧ TopB n R U i w := fun w hw => by
      induction hw with
      | base e =>
        rw [e]
        refine ⟨huc, fun s hs hst => ?_⟩
        have : s = t := ((htop s hs).mp ((hst s hs).mpr rfl))
        rw [this]; exact i4
      | step _ ha hf ih =>
        refine ⟨hf.1, topB_step h ih.1 hf.1 ih.2 ha fun z => ?_⟩
        rw [i3] at z
        exact hf.2 z.2
    exact (key v (g.con u hu v hv)).2
  refine ⟨i, ⟨i1, i2, i3, fun v hv => ?_, fun j hj h0 hup hal => ?_⟩, all⟩
  · obtain ⟨s, hs, hst⟩ := h.top v (g.ok.2 v hv)
    exact ⟨s, hs, all v hv s hs hst, ((hst s hs).mpr rfl).1⟩
  · obtain ⟨m, hm, hdm, hvm⟩ := hal u hu
    have hjt : Desc U j t := Classical.byContradiction fun z => by
      obtain ⟨_, c1, c2⟩ := h.cross htop hdm hm hvm z
      rw [hup] at c2
      exact g.out u hu c2
    have hki : k < i := by have := (h.upN i1 i2).1; omega
    have hkj : k < j := by have := (h.upN hj h0).1; omega
    rcases i4.line hjt with q | q
    · by_cases e : j = i
      · exact e
      · cases q with
        | refl => rfl
        | step _ q =>
          rw [hup] at q
          have := q.le h (by omega)
          omega
    · by_cases e : j = i
      · exact e
      · cases q with
        | refl => rfl
        | step _ q =>
          rw [i3] at q
          have := q.le h (by omega)
          omega
end
end Pv

end
section
namespace Pv
open PySem

/-! ### below_masks, exactly -/
def BmX (rs : List (List Nat × Int)) (a : Nat) (m : List Nat) : Prop := m.length = rs.length ∧ ∀ k, k < rs.length → ∀ v, (m[k]?.getD 0).testBit v = true ↔ v ∈ rm rs k ∨ ∃ i, a ≤ i ∧ i < rs.length ∧ i ≠ 0 ∧ (up rs i).toNat = k ∧ inB rs.length (rm rs) (up rs) i v
theorem BmX.step {c : Nat} {E : List (Nat × Nat)} {rs : List (List Nat × Int)} (h : TDL c E rs) {a : Nat} (ha : a < rs.length) (h0 : a ≠ 0) {m : List Nat} (hm : BmX rs (a + 1) m) : BmX rs a (m.set (up rs a).toNat (m[(up rs a).toNat]?.getD 0 ||| m[a]?.getD 0)) := by
  obtain ⟨u1, u2⟩ := h.upN ha h0
  obtain ⟨hl, hm⟩ := hm
  refine ⟨by rw [List.length_set]; exact hl, fun k hk v => ?_⟩
  have ha2 : (m[a]?.getD 0).testBit v = true ↔ inB rs.length (rm rs) (up rs) a v := by
    rw [hm a ha v, inB_iff h ha]
    refine or_congr_right ⟨fun ⟨i, _, q⟩ => ⟨i, q⟩, fun ⟨i, i1, i2, i3, i4⟩ => ⟨i, ?_, i1, i2, i3, i4⟩⟩
    have := (h.upN i1 i2).1
    omega
  rw [get_set (by omega)]
  by_cases e : (up rs a).toNat = k
  · rw [if_pos e, Nat.testBit_or, Bool.or_eq_true, e, hm k hk v, ha2]
    constructor
    · rintro ((q | ⟨i, i1, i2⟩) | q)
      · exact .inl q
      · exact .inr ⟨i, by omega, i2⟩
      · exact .inr ⟨a, Nat.le_refl _, ha, h0, e, q⟩
    · rintro (q | ⟨i, i1, i2, i3, i4, i5⟩)
      · exact .inl (.inl q)
      · by_cases ei : i = a
        · exact .inr (ei ▸ i5)
        · exact .inl (.inr ⟨i, by omega, i2, i3, i4, i5⟩)
  · rw [if_neg e, hm k hk v]
    refine or_congr_right ⟨fun ⟨i, i1, q⟩ => ⟨i, by omega, q⟩, fun ⟨i, i1, i2, i3, i4, i5⟩ => ⟨i, ?_, i2, i3, i4, i5⟩⟩
    have : i ≠ a := fun z => e (z ▸ i4)
    omega
/-! the law's own list of what lies below -/
end Pv

end
section
namespace Pv
open PySem

/-! ### follow, exactly -/
def GoesP (c : Nat) (rs : List (List Nat × Int)) : (n : Nat) → Nat → HT n → Prop
  | 0, _, _ => True
  | n + 1, k, l => ∀ b : List Nat × List Nat × HT n, b ∈ (show List (List Nat × List Nat × HT n) from l) → SetOk c b.1 ∧ ∃ i, ChildOf rs.length (rm rs) (up rs) k b.1 i ∧ b.2.1 = rm rs i ∧ GoesP c rs n i b.2.2
structure FolX (c : Nat) (E : List (Nat × Nat)) (rs : List (List Nat × Int)) (n k m i : Nat) (sub : HT n) : Prop where
  ch : ChildOf rs.length (rm rs) (up rs) k (bitsN c m) i
  ok : HOk c 20 n sub
  go : GoesP c rs n i sub
  an : ∀ count, (∀ j, j < rs.length → (rm rs j).length ≤ count) → ansN c E count n sub (dueL c E (rm rs k) (bitsN c m) (rm rs i)) (rm rs i) = true
end Pv

end
section
namespace Pv
open PySem

/-! ### hunt_of, exactly -/
end Pv

end
section
namespace Pv
open PySem

/-! ### _law_goes -/
/-! one room -/
/-! k10 -/
end Pv

end
section
namespace Pv
open PySem

/-! ### k18: needs and best plans -/
def IsMin (c : Nat) (w : Nat → Nat → Nat) (v : Nat) : Prop := ∃ o : List Nat, o.Perm (List.range c) ∧ v = costN w 0 o ∧ ∀ o' : List Nat, o'.Perm (List.range c) → v ≤ costN w 0 o'
theorem IsMin.eq {c : Nat} {w : Nat → Nat → Nat} {v v' : Nat} (h : IsMin c w v) (h' : IsMin c w v') : v = v' := by
  obtain ⟨o, o1, o2, o3⟩ := h
  obtain ⟨p, p1, p2, p3⟩ := h'
  have := o3 p p1
  have := p3 o o1
  omega
end Pv

end
section
namespace Pv
open PySem

/-! ### plans judged by the program -/
/-! caught_at -/
end Pv

end
section
namespace Pv
open PySem

/-! gives_ground, searchers_of -/
end Pv

end
section
namespace Pv
open PySem

/-! ### _law_plan -/
/-! ### _law_caught -/
@[simp] theorem ex_tryx (x : Str) (n : Option Str) (iE N : Nat) (t : Itab) (h : Hs) (b : Ss) : ex (.tryx x n iE N t h b) = (fun Φ ρ => tryR n iE t x h N (exs b Φ ρ)) := id rfl
end Pv

end
section
namespace Pv
open PySem

/-! ### k04: the law -/
end Pv

end
section
namespace Pv
open PySem

/-! ### sorting, generally -/
def sortW {α : Type} (enc : α → D) (L : List α) : List α := L.mergeSort fun a b => !PySem.W.dataLt (enc b) (enc a)
theorem sortW_perm {α : Type} (enc : α → D) (L : List α) : (sortW enc L).Perm L := List.mergeSort_perm L _
/-! ### the small sets -/
def subS (c most : Nat) (L : List Nat) (v : Nat) : List Nat := L ++ (L.filter fun m => decide ((bitsN c m).length < most)).map (· ||| 2 ^ v)
def subsK (c most k : Nat) : List Nat := (List.range k).foldl (subS c most) [0]
def subsN (c most : Nat) : List Nat := subsK c most c
def stS (most : Nat) (L : List (List Nat)) (v : Nat) : List (List Nat) := L ++ (L.filter fun r => decide (r.length < most)).map (· ++ [v])
def stK (most k : Nat) : List (List Nat) := (List.range k).foldl (stS most) [[]]
theorem subsK_s (c most k : Nat) : subsK c most (k + 1) = subS c most (subsK c most k) k := by
  unfold subsK
  rw [List.range_succ, List.foldl_append]; rfl
theorem subsK_lt (c most : Nat) : ∀ k, ∀ m ∈ subsK c most k, m < 2 ^ k
  | 0, m, h => by
    have : m = 0 := by simpa [subsK] using h
    subst this; decide
  | k + 1, m, h => by
    rw [subsK_s] at h
    unfold subS at h
    rcases List.mem_append.mp h with h | h
    · have := subsK_lt c most k m h
      rw [Nat.pow_succ]; omega
    · obtain ⟨x, hx, rfl⟩ := List.mem_map.mp h
      have := subsK_lt c most k x (List.mem_filter.mp hx).1
      exact Nat.or_lt_two_pow (by rw [Nat.pow_succ]; omega) (by rw [Nat.pow_succ]; have := Nat.two_pow_pos k; omega)
theorem subs_nodup (c most : Nat) : ∀ k, (subsK c most k).Nodup
  | 0 => by simp [subsK]
  | k + 1 => by
    have ih := subs_nodup c most k
    rw [subsK_s]
    unfold subS
    refine List.nodup_append.mpr ⟨ih, ?_, ?_⟩
    · refine List.pairwise_map.mpr (List.Pairwise.imp_of_mem (fun {a b} ha hb hne e => hne ?_) (ih.filter _))
      have h1 := subsK_lt c most k a (List.mem_filter.mp ha).1
      have h2 := subsK_lt c most k b (List.mem_filter.mp hb).1
      rw [or_disj (a := a) (b := 2 ^ k) fun v t u => by rw [test_2pow] at u; subst u; exact absurd (lt_of_test h1 t) (by omega), or_disj (a := b) (b := 2 ^ k) fun v t u => by rw [test_2pow] at u; subst u; exact absurd (lt_of_test h2 t) (by omega)] at e
      omega
    · intro a ha b hb e
      subst e
      obtain ⟨x, hx, q⟩ := List.mem_map.mp hb
      have := subsK_lt c most k a ha
      have t : (x ||| 2 ^ k).testBit k = true := by rw [Nat.testBit_or, test_2pow.mpr rfl, Bool.or_true]
      rw [q] at t
      exact absurd (lt_of_test this t) (by omega)
theorem subsK_zero (c most : Nat) : ∀ k, ∃ r, subsK c most k = 0 :: r
  | 0 => ⟨[], rfl⟩
  | k + 1 => by
    obtain ⟨r, e⟩ := subsK_zero c most k
    rw [subsK_s, e]
    exact ⟨_, rfl⟩
theorem subsK_len {c most k : Nat} (h : k ≤ 8) : (subsK c most k).length ≤ 256 := by
  have := nodup_len (subs_nodup c most k) (subsK_lt c most k)
  have h2 : 2 ^ k ≤ 2 ^ 8 := Nat.pow_le_pow_right (by decide) h
  omega
/-! ### standings -/
def stdL (c most : Nat) : List (List Nat) := sortW natsT (stK most c)
end Pv

end
section
namespace Pv
open PySem

/-! ### the parts by what is taken -/
noncomputable def pm (c : Nat) (E : List (Nat × Nat)) (g : Nat) : List Nat := partsM c E (bitP (dif (2 ^ c - 1) g))
/-! ### together -/
noncomputable def togB (c : Nat) (E : List (Nat × Nat)) (s p a o : Nat) : Bool := match (pm c E (s &&& a)).find? (fun r => !(r &&& p == 0)) with
  | some r => !(r &&& o == 0)
  | none => false
/-! ### the options -/
abbrev optD (S : List Nat) (f : Nat → List Nat) : D := .dict (natDict S fun m => natsL (f m))
structure OptOk (c : Nat) (S : List Nat) (f : Nat → List Nat) : Prop where
  lt : ∀ m ∈ S, m < 2 ^ c
  nd : S.Nodup
  len : S.length ≤ 256
  fl : ∀ m ∈ S, (f m).length ≤ 256
  el : ∀ m ∈ S, ∀ x ∈ f m, x < 2 ^ c
/-! ### one value changed -/
/-- a haven, as a map -/
def HavM (c : Nat) (E : List (Nat × Nat)) (S : List Nat) (β : Nat → Nat) : Prop := ∀ s ∈ S, β s ∈ pm c E s ∧ ∀ a ∈ S, togB c E s (β s) a (β a) = true
structure SafeOk (c : Nat) (E : List (Nat × Nat)) (S : List Nat) (f : Nat → List Nat) : Prop where
  o : OptOk c S f
  pt : ∀ m ∈ S, ∀ x ∈ f m, x ∈ pm c E m
  hv : ∀ β, HavM c E S β → ∀ m ∈ S, β m ∈ f m
theorem subsN_len {c most : Nat} (h : c ≤ 8) : (subsN c most).length ≤ 256 := subsK_len h
@[simp] theorem purR_b (b : Bool) : purR (.ok (.bool b)) = .ok (.bool b) := id rfl
end Pv

end
section
namespace Pv
open PySem

/-! ### narrowed -/
/-! ### settled -/
structure FulG (c : Nat) (E : List (Nat × Nat)) (S : List Nat) (D : List Nat) (g : Nat → List Nat) : Prop where
  o : OptOk c S g
  ne : ∀ m ∈ S, g m ≠ []
  pt : ∀ m ∈ S, ∀ x ∈ g m, x ∈ pm c E m
  sat : ∀ s ∈ D, ∃ p, g s = [p] ∧ ∀ a ∈ S, ∀ o ∈ g a, togB c E s p a o = true
structure SetIn (c : Nat) (E : List (Nat × Nat)) (S : List Nat) (f : Nat → List Nat) (R D : List Nat) : Prop where
  o : OptOk c S f
  pt : ∀ m ∈ S, ∀ x ∈ f m, x ∈ pm c E m
  sat : ∀ s ∈ D, ∃ p, f s = [p] ∧ ∀ a ∈ S, ∀ o ∈ f a, togB c E s p a o = true
  r : ∀ x ∈ R, x ∈ S
  d : ∀ x ∈ D, x ∈ S
  ne : R ≠ [] ∨ ∀ m ∈ S, f m ≠ []
end Pv

end
section
namespace Pv
open PySem

/-! ### told -/
def pairD (p : List Nat × List Nat) : D := .tuple [natsT p.1, natsT p.2]
def AscC (c : Nat) (l : List Nat) : Prop := Asc l ∧ ∀ x ∈ l, x < c
def ToldOk (c N : Nat) (t : List (List Nat × List Nat)) : Prop := t.length ≤ N ∧ ∀ p ∈ t, AscC c p.1 ∧ AscC c p.2
theorem ascC_bits (c m : Nat) : AscC c (bitsN c m) := ⟨bits_asc _ _, fun x hx => (mem_bitsN.mp hx).1⟩
theorem AscC.len {c : Nat} {l : List Nat} (h : AscC c l) : l.length ≤ c := nodup_len h.1.nodup h.2
theorem AscC.back {c : Nat} {l : List Nat} (h : AscC c l) : bitsN c (maskN l) = l := asc_eq (bits_asc _ _) h.1 fun x => by
  rw [mem_bitsN, test_maskN]
  exact ⟨fun q => q.2, fun q => ⟨h.2 x q, q⟩⟩
theorem mask_bits {c m : Nat} (h : m < 2 ^ c) : maskN (bitsN c m) = m := mask_ext fun v => by
  rw [test_maskN, mem_bitsN]
  exact ⟨fun q => q.2, fun q => ⟨lt_of_test h q, q⟩⟩
/-! ### haven -/
def HavT (c : Nat) (E : List (Nat × Nat)) (count : Nat) (t : List (List Nat × List Nat)) : Prop := ∃ β, HavM c E (subsN c count) β ∧ t = sortW pairD ((subsN c count).map fun m => (bitsN c m, bitsN c (β m)))
theorem subsN_ne (c count : Nat) : subsN c count ≠ [] := fun q => by
  obtain ⟨r, hr⟩ := subsK_zero c count c
  have : subsK c count c = [] := q
  rw [this] at hr; cases hr
theorem HavT.ok {c : Nat} {E : List (Nat × Nat)} {count : Nat} {t : List (List Nat × List Nat)} (h : HavT c E count t) (hc : c ≤ 8) : ToldOk c 256 t ∧ t ≠ [] := by
  obtain ⟨β, hβ, ht⟩ := h
  refine ⟨⟨?_, fun p hp => ?_⟩, fun q => ?_⟩
  · rw [ht, (sortW_perm pairD _).length_eq, List.length_map]; exact subsN_len hc
  · rw [ht, (sortW_perm pairD _).mem_iff] at hp
    obtain ⟨m, _, rfl⟩ := List.mem_map.mp hp
    exact ⟨ascC_bits _ _, ascC_bits _ _⟩
  · have := (sortW_perm pairD ((subsN c count).map fun m => (bitsN c m, bitsN c (β m)))).length_eq
    rw [← ht, q, List.length_map] at this
    exact subsN_ne c count (List.eq_nil_of_length_eq_zero this.symm)
end Pv

end
section
namespace Pv
open PySem

/-! ### the two judges of a haven -/
noncomputable def hhIn (c : Nat) (E : List (Nat × Nat)) (t : List (List Nat × List Nat)) (p : List Nat × List Nat) : Bool := t.all fun q => togB c E (maskN p.1) (maskN p.2) (maskN q.1) (maskN q.2)
noncomputable def hhP (c : Nat) (E : List (Nat × Nat)) (t : List (List Nat × List Nat)) (p : List Nat × List Nat) : Bool := decide (maskN p.2 ∈ pm c E (maskN p.1)) && hhIn c E t p
noncomputable def hhB (c : Nat) (E : List (Nat × Nat)) (count : Nat) (t : List (List Nat × List Nat)) : Bool := decide (t.map (·.1) = stdL c count) && t.all (hhP c E t)
/-! ### the law's judge -/
noncomputable def lrIn (c : Nat) (E : List (Nat × Nat)) (t : List (List Nat × List Nat)) (p : List Nat × List Nat) : Bool := t.all fun q => q.2.all fun x => decide (x ∈ reachL c E (p.1.filter fun y => decide (y ∈ q.1)) p.2)
noncomputable def lrB (c : Nat) (E : List (Nat × Nat)) (count : Nat) (t : List (List Nat × List Nat)) : Bool := decide (t.map (·.1) = stdL c count) && t.all fun p => decide (p.2 ∈ partsT c E (frB c p.1)) && lrIn c E t p
end Pv

end
section
namespace Pv
open PySem

/-! ### the two judges agree -/
theorem Conn.mono {E : List (Nat × Nat)} {f1 f2 s1 s2 : Nat → Prop} (hf : ∀ x, f1 x → f2 x) (hs : ∀ x, s1 x → s2 x) {v : Nat} (h : Conn E f1 s1 v) : Conn E f2 s2 v := by
  induction h with
  | base h => exact .base (hs _ h)
  | step _ a b ih => exact .step ih a (hf _ b)
theorem bitP_free {c : Nat} {l : List Nat} : bitP (dif (2 ^ c - 1) (maskN l)) = frB c l := by
  funext v
  apply propext
  show (dif (2 ^ c - 1) (maskN l)).testBit v = true ↔ v < c ∧ v ∉ l
  rw [test_dif, test_all, Bool.and_eq_true, decide_eq_true_iff]
  have := test_maskN (l := l) (v := v)
  cases q : (maskN l).testBit v <;> simp_all
theorem pm_mask {c : Nat} {E : List (Nat × Nat)} {l : List Nat} : pm c E (maskN l) = partsM c E (frB c l) := by
  unfold pm
  rw [bitP_free]
theorem mem_pm {c : Nat} {E : List (Nat × Nat)} {l p : List Nat} (hp : AscC c p) : maskN p ∈ pm c E (maskN l) ↔ p ∈ partsT c E (frB c l) := by
  rw [pm_mask]
  unfold partsT
  constructor
  · intro h
    exact List.mem_map.mpr ⟨_, h, hp.back⟩
  · intro h
    obtain ⟨m, hm, e⟩ := List.mem_map.mp h
    obtain ⟨v, _, rfl⟩ := List.mem_map.mp hm
    rw [← e, mask_bits compM_lt]
    exact hm
theorem part_mem {c : Nat} {E : List (Nat × Nat)} {fr : Nat → Prop} {p : List Nat} (h : p ∈ partsT c E fr) : ∃ v, v < c ∧ isRep E fr v ∧ ∀ x, x ∈ p ↔ x < c ∧ InC E fr v x := by
  obtain ⟨m, hm, rfl⟩ := List.mem_map.mp h
  obtain ⟨v, hv, rfl⟩ := List.mem_map.mp hm
  obtain ⟨h1, h2⟩ := mem_reps.mp hv
  refine ⟨v, h1, h2, fun x => ?_⟩
  rw [mem_bitsN]
  unfold compM
  rw [test_maskP]
  exact ⟨fun q => q.2, fun q => ⟨q.1, q⟩⟩
theorem maskN_and {a b : List Nat} : maskN a &&& maskN b = maskN (a.filter fun x => decide (x ∈ b)) := mask_ext fun v => by
  rw [Nat.testBit_and, Bool.and_eq_true, test_maskN, test_maskN, test_maskN, List.mem_filter, decide_eq_true_iff]
theorem and_ne {a b : Nat} : (!(a &&& b == 0)) = true ↔ ∃ x, a.testBit x = true ∧ b.testBit x = true := by
  rw [Bool.not_eq_true', beq_eq_false_iff_ne]
  constructor
  · intro h
    apply Classical.byContradiction
    intro hn
    apply h
    apply Nat.eq_of_testBit_eq
    intro i
    rw [Nat.zero_testBit, Nat.testBit_and]
    cases e1 : a.testBit i <;> cases e2 : b.testBit i <;> first | rfl | exact absurd ⟨i, e1, e2⟩ hn
  · rintro ⟨x, h1, h2⟩ e
    have : (a &&& b).testBit x = true := by rw [Nat.testBit_and, h1, h2]; rfl
    rw [e, Nat.zero_testBit] at this
    cases this
theorem tog_right {c : Nat} {E : List (Nat × Nat)} {p q : List Nat × List Nat} (hE : EOk c E) (hp : p.2 ∈ partsT c E (frB c p.1)) (hq : q.2 ∈ partsT c E (frB c q.1)) :
    togB c E (maskN p.1) (maskN p.2) (maskN q.1) (maskN q.2) = q.2.all fun x => decide (x ∈ reachL c E (p.1.filter fun y => decide (y ∈ q.1)) p.2) := by
  obtain ⟨sh, hsh⟩ : ∃ sh, sh = p.1.filter fun y => decide (y ∈ q.1) := ⟨_, rfl⟩
  obtain ⟨v, hv, rv, mv⟩ := part_mem hp
  obtain ⟨w, hw, rw', mw⟩ := part_mem hq
  have f1 : ∀ x, frB c p.1 x → frB c sh x := fun x h => ⟨h.1, fun z => h.2 (by rw [hsh] at z; exact (List.mem_filter.mp z).1)⟩
  have f2 : ∀ x, frB c q.1 x → frB c sh x := fun x h => ⟨h.1, fun z => h.2 (by rw [hsh] at z; exact of_decide_eq_true (List.mem_filter.mp z).2)⟩
  have vp : v ∈ p.2 := (mv v).mpr ⟨hv, .refl⟩
  have wq : w ∈ q.2 := (mw w).mpr ⟨hw, .refl⟩
  have pfr : ∀ x ∈ p.2, frB c sh x := fun x h => f1 x (((mv x).mp h).2.within rv.1)
  have qfr : ∀ x ∈ q.2, frB c sh x := fun x h => f2 x (((mw x).mp h).2.within rw'.1)
  have pin : ∀ x ∈ p.2, InC E (frB c sh) v x := fun x h => Conn.mono f1 (fun _ h => h) ((mv x).mp h).2
  have qin : ∀ x ∈ q.2, InC E (frB c sh) w x := fun x h => Conn.mono f2 (fun _ h => h) ((mw x).mp h).2
  obtain ⟨r, hrv, hr, hrc⟩ := rep_ex (E := E) (fr := frB c sh) v v (Nat.le_refl _) (pfr v vp)
  unfold togB
  rw [maskN_and, ← hsh, pm_mask]
  have hmem : compM c E (frB c sh) r ∈ partsM c E (frB c sh) := List.mem_map.mpr ⟨r, mem_reps.mpr ⟨by omega, hr⟩, rfl⟩
  have hsome : ∃ R, (partsM c E (frB c sh)).find? (fun r => !(r &&& maskN p.2 == 0)) = some R := by
    cases e : (partsM c E (frB c sh)).find? (fun r => !(r &&& maskN p.2 == 0)) with
    | some R => exact ⟨R, rfl⟩
    | none =>
      exfalso
      have h1 := List.find?_eq_none.mp e _ hmem
      apply h1
      rw [and_ne]
      refine ⟨v, ?_, test_maskN.mpr vp⟩
      unfold compM
      rw [test_maskP]
      exact ⟨hv, hrc⟩
  obtain ⟨R, hR⟩ := hsome
  rw [hR]
  have hR1 := List.find?_some hR
  have hR2 := List.mem_of_find?_eq_some hR
  obtain ⟨r0, hr0, rfl⟩ := List.mem_map.mp hR2
  obtain ⟨hr0c, hr0r⟩ := mem_reps.mp hr0
  obtain ⟨x0, hx0, hx0p⟩ := and_ne.mp hR1
  rw [test_maskN] at hx0p
  unfold compM at hx0
  rw [test_maskP] at hx0
  have r0v : InC E (frB c sh) r0 v := hx0.2.trans ((pin x0 hx0p).symm (pfr v vp))
  have key : ∀ x, x ∈ reachL c E sh p.2 ↔ x < c ∧ InC E (frB c sh) r0 x := fun x => by
    rw [mem_reachL]
    constructor
    · rintro ⟨hx, h⟩
      refine ⟨hx, ?_⟩
      induction h with
      | base h => exact r0v.trans (pin _ h.1)
      | step _ a b ih => exact .step (ih (by
          rcases a with a | a
          · exact (hE _ a).1
          · exact (hE _ a).2)) a b
    · rintro ⟨hx, h⟩
      refine ⟨hx, ?_⟩
      have h2 : InC E (frB c sh) v x := (r0v.symm hr0r.1).trans h
      exact Conn.mono (fun _ h => h) (fun y (e : y = v) => by show y ∈ p.2 ∧ y ∉ sh; rw [e]; exact ⟨vp, (pfr v vp).2⟩) h2
  show (!(compM c E (frB c sh) r0 &&& maskN q.2 == 0)) = _
  rw [Bool.eq_iff_iff, and_ne, List.all_eq_true]
  constructor
  · rintro ⟨x, h1, h2⟩ y hy
    rw [test_maskN] at h2
    unfold compM at h1
    rw [test_maskP] at h1
    rw [decide_eq_true_iff, key]
    exact ⟨((mw y).mp hy).1, h1.2.trans (((qin x h2).symm (qfr w wq)).trans (qin y hy))⟩
  · intro h
    have := h w wq
    rw [decide_eq_true_iff, key] at this
    refine ⟨w, ?_, test_maskN.mpr wq⟩
    unfold compM
    rw [test_maskP]
    exact this
theorem judges {c : Nat} {E : List (Nat × Nat)} {count N : Nat} {t : List (List Nat × List Nat)} (hE : EOk c E) (ht : ToldOk c N t) : hhB c E count t = lrB c E count t := by
  unfold hhB lrB
  congr 1
  by_cases h : ∀ p ∈ t, p.2 ∈ partsT c E (frB c p.1)
  · rw [Bool.eq_iff_iff, List.all_eq_true, List.all_eq_true]
    have : ∀ p ∈ t, hhP c E t p = (decide (p.2 ∈ partsT c E (frB c p.1)) && lrIn c E t p) := fun p hp => by
      unfold hhP hhIn lrIn
      rw [decide_eq_true (h p hp), decide_eq_true ((mem_pm (ht.2 p hp).2).mpr (h p hp)), Bool.true_and, Bool.true_and, Bool.eq_iff_iff, List.all_eq_true, List.all_eq_true]
      exact ⟨fun z q hq => by rw [← tog_right hE (h p hp) (h q hq)]; exact z q hq, fun z q hq => by rw [tog_right hE (h p hp) (h q hq)]; exact z q hq⟩
    exact ⟨fun z p hp => by rw [← this p hp]; exact z p hp, fun z p hp => by rw [this p hp]; exact z p hp⟩
  · obtain ⟨p, hp⟩ := Classical.not_forall.mp h
    obtain ⟨hp1, hp2⟩ := Classical.not_imp.mp hp
    have a : t.all (hhP c E t) = false := by
      cases e : t.all (hhP c E t) with
      | false => rfl
      | true =>
        have := List.all_eq_true.mp e p hp1
        unfold hhP at this
        rw [decide_eq_false (fun z => hp2 ((mem_pm (ht.2 p hp1).2).mp z)), Bool.false_and] at this
        cases this
    have b : (t.all fun p => decide (p.2 ∈ partsT c E (frB c p.1)) && lrIn c E t p) = false := by
      cases e : (t.all fun p => decide (p.2 ∈ partsT c E (frB c p.1)) && lrIn c E t p) with
      | false => rfl
      | true =>
        have := List.all_eq_true.mp e p hp1
        simp only [decide_eq_false hp2, Bool.false_and] at this
        cases this
    rw [a, b]
end Pv

end
section
namespace Pv
open PySem

/-! ### drawn -/
/-! ### spoilt -/
theorem ToldOk.app {c N M : Nat} {a b : List (List Nat × List Nat)} (h1 : ToldOk c N a) (h2 : ToldOk c M b) : ToldOk c (N + M) (a ++ b) :=
  ⟨by rw [List.length_append]; have := h1.1; have := h2.1; omega, fun p hp => (List.mem_append.mp hp).elim (h1.2 p) (h2.2 p)⟩
end Pv

end
section
namespace Pv
open PySem

/-! ### k14 -/
end Pv

end
section
namespace Pv
open PySem

/-! ### graphs as numbers -/
/-! ### an order that needs no more -/
/-! ### a haven of an obstruction -/
abbrev HvT := List (Nat × Nat × Nat)
/-! ### the cover: each graph lies within a good one or holds an obstruction -/
inductive Tr
  | t (i : Nat)
  | o (i : Nat)
  | b (i : Nat) (l r : Tr)
/-! ### a haven where each order needs more -/
end Pv

end
section
namespace Pv
open PySem
end Pv

end
section
namespace Pv
open PySem

/-! ### a haven against hunts -/
/-! ### the due parts, as a list -/
/-! ### dicts of standings -/
end Pv

end
section
namespace Pv
open PySem

/-! ### k20 -/
end Pv

end
section
namespace Pv
open PySem

/-! ### the tables, second form: with what is computed along the way -/
abbrev TsE := Nat × List Nat × List (Nat × Nat × Nat)
abbrev OsE := Nat × List Nat × HvT
inductive Tr2
  | t (i j : Nat)
  | o (i : Nat)
  | b (i : Nat) (l r : Tr2)
end Pv

end
section
namespace Pv
open PySem
end Pv

end
section
namespace Pv
open PySem
end Pv

end
section
namespace Pv
open PySem
end Pv

end
section
namespace Pv
open PySem

/-! ### the keys of sorted pairs -/
end Pv

end
section
namespace PvX
open Pv
open PySem PySem.Spec PyProof.Rows L2
/-! ### the text -/
def topS (i : Nat) : Stmt := .Pass ⟨0, 0, 0, 0⟩
abbrev st_mask_of : Stmt := topS 1
def d_mask_of : Fd := ⟨"mask_of", st_mask_of, ["nodes"], ["nodes", "mask", "node"], b_mask_of⟩
abbrev st_nodes_of : Stmt := topS 2
def d_nodes_of : Fd := ⟨"nodes_of", st_nodes_of, ["mask"], ["mask", "node"], b_nodes_of⟩
abbrev st_size_of : Stmt := topS 3
def d_size_of : Fd := ⟨"size_of", st_size_of, ["mask"], ["mask"], b_size_of⟩
abbrev st_all_nodes : Stmt := topS 5
def d_all_nodes : Fd := ⟨"all_nodes", st_all_nodes, ["graph"], ["graph"], b_all_nodes⟩
abbrev st_neighbour_masks : Stmt := topS 6
def d_neighbour_masks : Fd := ⟨"neighbour_masks", st_neighbour_masks, ["graph"], ["graph", "rows", "first", "second"], b_neighbour_masks⟩
abbrev st_around : Stmt := topS 7
def d_around : Fd := ⟨"around", st_around, ["rows", "mask"], ["rows", "mask", "found", "node"], b_around⟩
abbrev st_spread : Stmt := topS 8
def d_spread : Fd := ⟨"spread", st_spread, ["rows", "start", "free"], ["rows", "start", "free", "reached", "fresh"], b_spread⟩
abbrev st_part_masks : Stmt := topS 9
def d_part_masks : Fd := ⟨"part_masks", st_part_masks, ["rows", "free"], ["rows", "free", "found", "left", "part"], b_part_masks⟩
abbrev st_border_mask : Stmt := topS 10
def d_border_mask : Fd := ⟨"border_mask", st_border_mask, ["rows", "mask"], ["rows", "mask", "found", "node"], b_border_mask⟩
abbrev st_next_parts : Stmt := topS 12
def d_next_parts : Fd := ⟨"next_parts", st_next_parts, ["rows", "stand", "part", "after"], ["rows", "stand", "part", "after", "every", "region", "other"], b_next_parts⟩
abbrev st_line_need : Stmt := topS 14
def d_line_need : Fd := ⟨"line_need", st_line_need, ["graph", "line"], ["graph", "line", "rows", "passed", "need", "node"], b_line_need⟩
abbrev st_best_line : Stmt := topS 15
def d_best_line : Fd := ⟨"best_line", st_best_line, ["graph"], ["graph", "rows", "needs", "lasts", "mask", "line", "options", "node", "passed", "need"], b_best_line⟩
abbrev st_plan_of_line : Stmt := topS 16
def d_plan_of_line : Fd := ⟨"plan_of_line", st_plan_of_line, ["graph", "line"], ["graph", "line", "rows", "passed", "plan", "node"], b_plan_of_line⟩
abbrev st_beyond : Stmt := topS 18
def d_beyond : Fd := ⟨"beyond", st_beyond, ["rows", "gone", "node"], ["rows", "gone", "node", "reached"], b_beyond⟩
abbrev st_order_need : Stmt := topS 19
def d_order_need : Fd := ⟨"order_need", st_order_need, ["graph", "order"], ["graph", "order", "rows", "gone", "need", "node"], b_order_need⟩
abbrev st_needs_by_gone : Stmt := topS 20
def d_needs_by_gone : Fd := ⟨"needs_by_gone", st_needs_by_gone, ["rows"], ["rows", "needs", "lasts", "mask", "options", "node", "gone", "need"], b_needs_by_gone⟩
abbrev st_best_order : Stmt := topS 21
def d_best_order : Fd := ⟨"best_order", st_best_order, ["graph"], ["graph", "lasts", "mask", "order"], b_best_order⟩
abbrev st_rooms_of : Stmt := topS 23
def d_rooms_of : Fd := ⟨"rooms_of", st_rooms_of, ["graph", "order"], ["graph", "order", "rows", "places", "gone", "found", "node", "others", "above", "at", "other"], b_rooms_of⟩
abbrev st_below_masks : Stmt := topS 24
def d_below_masks : Fd := ⟨"below_masks", st_below_masks, ["rooms"], ["rooms", "masks", "at", "above", "room", "_"], b_below_masks⟩
abbrev st_follow : Stmt := topS 25
def d_follow : Fd := ⟨"follow", st_follow, ["rows", "rooms", "below", "at", "part"], ["rows", "rooms", "below", "at", "part", "child", "room", "above", "stand", "due", "other"], b_follow⟩
abbrev st_hunt_of : Stmt := topS 26
def d_hunt_of : Fd := ⟨"hunt_of", st_hunt_of, ["graph", "rooms"], ["graph", "rooms", "rows", "below", "room", "found", "part", "due", "branches", "other"], b_hunt_of⟩
abbrev st_plan_of : Stmt := topS 27
def d_plan_of : Fd := ⟨"plan_of", st_plan_of, ["rooms"], ["rooms", "plan", "room", "above"], b_plan_of⟩
abbrev st_need : Stmt := topS 29
def d_need : Fd := ⟨"need", st_need, ["graph", "runner"], ["graph", "runner"], b_need⟩
abbrev st_best_plan : Stmt := topS 30
def d_best_plan : Fd := ⟨"best_plan", st_best_plan, ["graph", "runner"], ["graph", "runner", "rooms"], b_best_plan⟩
abbrev st__law_mixed : Stmt := topS 32
def d__law_mixed : Fd := ⟨"_law_mixed", st__law_mixed, ["_law_cell_here", "_law_turn"], ["_law_cell_here", "_law_turn", "_law_value", "_law_first", "_law_second", "_law_third"], b__law_mixed⟩
abbrev st__law_cell : Stmt := topS 33
def d__law_cell : Fd := ⟨"_law_cell", st__law_cell, ["_law_script", "_law_k"], ["_law_script", "_law_k"], b__law_cell⟩
abbrev st__law_graph : Stmt := topS 34
def d__law_graph : Fd := ⟨"_law_graph", st__law_graph, ["_law_value", "_law_most"], ["_law_value", "_law_most", "_law_count", "_law_thin", "_law_left", "_law_edges", "_law_second", "_law_first"], b__law_graph⟩
abbrev st__law_reach : Stmt := topS 35
def d__law_reach : Fd := ⟨"_law_reach", st__law_reach, ["_law_graph_here", "_law_start", "_law_banned"], ["_law_graph_here", "_law_start", "_law_banned", "_law_reached", "_law_spare", "_law_node", "_law_first", "_law_second"], b__law_reach⟩
abbrev st__law_parts : Stmt := topS 36
def d__law_parts : Fd := ⟨"_law_parts", st__law_parts, ["_law_graph_here", "_law_gone"], ["_law_graph_here", "_law_gone", "_law_found", "_law_met", "_law_node", "_law_part"], b__law_parts⟩
abbrev st__law_next : Stmt := topS 37
def d__law_next : Fd := ⟨"_law_next", st__law_next, ["_law_graph_here", "_law_stand", "_law_possible", "_law_after", "_law_runner"], ["_law_graph_here", "_law_stand", "_law_possible", "_law_after", "_law_runner", "_law_stay", "_law_start", "_law_reached", "_law_node"], b__law_next_v2⟩
abbrev st__law_walk : Stmt := topS 38
def d__law_walk : Fd := ⟨"_law_walk", st__law_walk, ["_law_graph_here", "_law_plan", "_law_runner"], ["_law_graph_here", "_law_plan", "_law_runner", "_law_stand", "_law_possible", "_law_found", "_law_standing"], b__law_walk⟩
abbrev st__law_catches : Stmt := topS 39
def d__law_catches : Fd := ⟨"_law_catches", st__law_catches, ["_law_graph_here", "_law_plan", "_law_runner", "_law_count"], ["_law_graph_here", "_law_plan", "_law_runner", "_law_count", "_law_before", "_law_possible", "_law_standing", "_law_node"], b__law_catches⟩
abbrev st__law_due : Stmt := topS 40
def d__law_due : Fd := ⟨"_law_due", st__law_due, ["_law_graph_here", "_law_stand", "_law_part", "_law_after"], ["_law_graph_here", "_law_stand", "_law_part", "_law_after", "_law_stay", "_law_region", "_law_node", "_law_other"], b__law_due_v4⟩
abbrev st__law_branches : Stmt := topS 41
def d__law_branches : Fd := ⟨"_law_branches", st__law_branches, ["_law_graph_here", "_law_count", "_law_branches_here", "_law_due_here", "_law_stand"], ["_law_graph_here", "_law_count", "_law_branches_here", "_law_due_here", "_law_stand", "_law_part", "_law_go", "_law_branch"], b__law_branches⟩
abbrev st__law_hunt_right : Stmt := topS 42
def d__law_hunt_right : Fd := ⟨"_law_hunt_right", st__law_hunt_right, ["_law_graph_here", "_law_count", "_law_hunt"], ["_law_graph_here", "_law_count", "_law_hunt"], b__law_hunt_right⟩
abbrev st__law_beyond : Stmt := topS 43
def d__law_beyond : Fd := ⟨"_law_beyond", st__law_beyond, ["_law_graph_here", "_law_order", "_law_at"], ["_law_graph_here", "_law_order", "_law_at", "_law_node", "_law_behind", "_law_reached", "_law_found", "_law_first", "_law_second"], b__law_beyond⟩
abbrev st__law_order_need : Stmt := topS 44
def d__law_order_need : Fd := ⟨"_law_order_need", st__law_order_need, ["_law_graph_here", "_law_order"], ["_law_graph_here", "_law_order", "_law_at"], b__law_order_need⟩
abbrev st__law_line_need : Stmt := topS 45
def d__law_line_need : Fd := ⟨"_law_line_need", st__law_line_need, ["_law_graph_here", "_law_line"], ["_law_graph_here", "_law_line", "_law_most", "_law_at", "_law_front", "_law_edge", "_law_first", "_law_second"], b__law_line_need⟩
abbrev st_law : Stmt := topS 46
def d_law : Fd := ⟨"law", st_law, ["_law_script"], ["_law_script", "_law_graph_here", "_law_due_here", "_law_line", "_law_needs", "_law_runner", "_law_count", "_law_plan", "_law_one"], b_law_v10⟩
def TT : Tab := [d_mask_of, d_nodes_of, d_size_of, d_all_nodes, d_neighbour_masks, d_around, d_spread, d_part_masks, d_border_mask, d_next_parts, d_line_need, d_best_line, d_plan_of_line, d_beyond, d_order_need, d_needs_by_gone, d_best_order, d_rooms_of, d_below_masks, d_follow, d_hunt_of, d_plan_of, d_need, d_best_plan, d__law_mixed, d__law_cell, d__law_graph, d__law_reach, d__law_parts, d__law_next, d__law_walk, d__law_catches, d__law_due, d__law_branches, d__law_hunt_right, d__law_beyond, d__law_order_need, d__law_line_need, d_law]
def BB : Base := ⟨["bool", "enumerate", "int", "isinstance", "len", "list", "max", "min", "range", "reversed", "set", "sorted", "tuple"], [], [], []⟩
theorem find__law_mixed : findT TT "_law_mixed" = some d__law_mixed := by kernel_rfl

theorem find__law_graph : findT TT "_law_graph" = some d__law_graph := by kernel_rfl

theorem find_law : findT TT "law" = some d_law := by kernel_rfl




theorem p_mixed (n : Nat) : SMixed (callAt TT (n + 1)) := fun cell turn => let ⟨v, e⟩ := law_mixed_run (callAt TT n) cell turn; ⟨v, (callAt_eq find__law_mixed).trans e⟩
theorem p_graph (n : Nat) : SGraph (callAt TT (n + 1)) := fun v most h1 h2 => let ⟨c, E, e, r⟩ := law_graph_run (callAt TT n) v most h1 h2; ⟨c, E, (callAt_eq find__law_graph).trans e, r⟩
end PvX

end
section
namespace Pv
open PySem

/-! ### no haven where an order needs no more -/
end Pv

end
section
namespace Pv
open PySem

/-! ### k15 -/
end Pv

end
section
namespace Pv
open PySem

/-! ### counts of nodes -/
open Classical in
noncomputable def cnt (c : Nat) (p : Nat → Prop) : Nat := ((List.range c).filter fun v => decide (p v)).length
/-! ### rows of sets -/
def bdP (E : List (Nat × Nat)) (X : Nat → Prop) (v : Nat) : Prop := X v ∧ ∃ u, adj E v u ∧ ¬ X u
def LkS (c : Nat) (X Y : Nat → Prop) : Prop := ∀ u v, u < c → v < c → Y u → ¬ X u → Y v → ¬ X v → u = v
noncomputable def dlt (c : Nat) (E : List (Nat × Nat)) (X : Nat → Prop) : Nat := cnt c (bdP E X)
structure RowS (c k : Nat) (E : List (Nat × Nat)) (N : Nat) (X : Nat → Nat → Prop) : Prop where
  h0 : ∀ v, v < c → ¬ X 0 v
  hN : ∀ v, v < c → X N v
  lk : ∀ i, i < N → LkS c (X i) (X (i + 1))
  dl : ∀ i, i ≤ N → dlt c E (X i) < k
/-! ### a plan makes a row -/
inductive Way (c k : Nat) (E : List (Nat × Nat)) : (Nat → Prop) → Prop
  | zero : Way c k E (fun _ => False)
  | step {X Y : Nat → Prop} : Way c k E X → LkS c X Y → dlt c E Y < k → Way c k E Y
structure PlI (c k : Nat) (E : List (Nat × Nat)) (stand poss : List Nat) (Q : Nat → Prop) : Prop where
  way : Way c k E Q
  sub : ∀ v, Q v → v ∉ poss
  lk : LkS c Q (fun v => v ∉ poss)
  dj : ∀ v, v ∈ poss → v ∉ stand
  bd : ∀ u v, u ∈ poss → adj E u v → v ∉ poss → v ∈ stand
  lt : ∀ v, v ∈ poss → v < c
  sn : stand.Nodup
  sk : stand.length ≤ k
  sl : ∀ v ∈ stand, v < c
end Pv

end
section
namespace Pv
open PySem

/-! ### partitions of a finite ground; borders; what is glued together -/
abbrev SN := Nat → Prop
section
variable {c m k : Nat} {inc : Nat → Nat → Prop}
def bdL (m : Nat) (inc : Nat → Nat → Prop) (μ : List SN) (v : Nat) : Prop := ∃ i j, i < m ∧ j < m ∧ inc i v ∧ inc j v ∧ ∀ Z ∈ μ, ¬ (Z i ∧ Z j)
structure IsPt (m : Nat) (μ : List SN) : Prop where
  sup : ∀ Z ∈ μ, ∀ i, Z i → i < m
  cov : ∀ i, i < m → ∃ Z ∈ μ, Z i
  dis : μ.Pairwise fun Y Z => ∀ i, ¬ (Y i ∧ Z i)
inductive Glu (c m k : Nat) (inc : Nat → Nat → Prop) : List SN → Prop
  | base {μ : List SN} : IsPt m μ → cnt c (bdL m inc μ) ≤ k → Glu c m k inc μ
  | glue {A B : SN} {μ ν : List SN} : Glu c m k inc (A :: μ) → Glu c m k inc (B :: ν) → (∀ i, B i ↔ i < m ∧ ¬ A i) → Glu c m k inc (μ ++ ν)
  | perm {μ ν : List SN} : Glu c m k inc μ → μ.Perm ν → Glu c m k inc ν
theorem dis_symm {Y Z : SN} (h : ∀ i, ¬ (Y i ∧ Z i)) : ∀ i, ¬ (Z i ∧ Y i) := fun i z => h i z.symm
theorem IsPt.perm {μ ν : List SN} (h : IsPt m μ) (p : μ.Perm ν) : IsPt m ν :=
  ⟨fun Z hZ => h.sup Z (p.mem_iff.mpr hZ), fun i hi => let ⟨Z, a, b⟩ := h.cov i hi; ⟨Z, p.mem_iff.mp a, b⟩, (p.pairwise_iff fun {x y} q => dis_symm q).mp h.dis⟩
theorem Glu.pt {μ : List SN} (h : Glu c m k inc μ) : IsPt m μ := by
  induction h with
  | base h _ => exact h
  | @glue A B μ ν _ _ hB i1 i2 =>
    obtain ⟨d1, d2⟩ := List.pairwise_cons.mp i1.dis
    obtain ⟨e1, e2⟩ := List.pairwise_cons.mp i2.dis
    refine ⟨fun Z hZ => ?_, fun i hi => ?_, ?_⟩
    · rcases List.mem_append.mp hZ with q | q
      · exact i1.sup Z (by simp [q])
      · exact i2.sup Z (by simp [q])
    · by_cases q : A i
      · obtain ⟨Z, a, b⟩ := i2.cov i hi
        rcases List.mem_cons.mp a with rfl | a
        · exact absurd q ((hB i).mp b).2
        · exact ⟨Z, by simp [a], b⟩
      · obtain ⟨Z, a, b⟩ := i1.cov i hi
        rcases List.mem_cons.mp a with rfl | a
        · exact absurd b q
        · exact ⟨Z, by simp [a], b⟩
    · rw [List.pairwise_append]
      refine ⟨d2, e2, fun Y hY Z hZ i ⟨y, z⟩ => ?_⟩
      have h1 := d1 Y hY i
      have h2 := e1 Z hZ i
      have hi := i1.sup Y (by simp [hY]) i y
      by_cases q : A i
      · exact h1 ⟨q, y⟩
      · exact h2 ⟨(hB i).mpr ⟨hi, q⟩, z⟩
  | perm _ p ih => exact ih.perm p
/-! ### a family that every member meets -/
structure FamOk (c m k : Nat) (inc : Nat → Nat → Prop) (big : SN → Prop) (F : SN → Prop) : Prop where
  big : ∀ X, F X → big X
  up : ∀ X Y, F X → (∀ i, X i → Y i) → (∀ i, Y i → i < m) → F Y
  hit : ∀ μ, Glu c m k inc μ → ∃ Z ∈ μ, F Z
end
end Pv

end
section
namespace Pv
open PySem

/-! ### small parts give an order -/
structure GrI (c m : Nat) (E : List (Nat × Nat)) (inc : Nat → Nat → Prop) : Prop where
  loop : ∀ v, v < c → ∃ i, i < m ∧ inc i v
  edge : ∀ u v, adj E u v → ∃ i, i < m ∧ inc i u ∧ inc i v
  ends : ∀ i u v, inc i u → inc i v → u = v ∨ adj E u v
  lt : ∀ i v, inc i v → v < c
  some : ∀ i, i < m → ∃ v, inc i v
section
variable {c m k : Nat} {E : List (Nat × Nat)} {inc : Nat → Nat → Prop}
end
/-! ### no order: a haven whose parts touch -/
/-! ### against such a haven no plan catches the lazy runner -/
end Pv

end
section
namespace Pv
open PySem

/-! ### best plans of both runners, alike -/
noncomputable def wRun (c : Nat) (E : List (Nat × Nat)) (lazy : Bool) : Nat → Nat → Nat := if lazy then wOrd c E else wLine c E
structure BpOk (c : Nat) (E : List (Nat × Nat)) (lazy : Bool) (plan : List (List Nat)) (v : Nat) : Prop where
  mn : IsMin c (wRun c E lazy) v
  asc : ∀ s ∈ plan, Asc s
  lt : ∀ s ∈ plan, ∀ x ∈ s, x < c
  wid : ∀ s ∈ plan, s.length ≤ v
  len : plan.length ≤ 40
  fl : Falls (List.range c) (walkN c E lazy [] (List.range c) plan) = true
/-! ### straighten -/
/-! ### _law_mixed_plan -/
end Pv

end
section
namespace Pv
open PySem

/-! ### blockades: moves by masks -/
noncomputable def nxM (c : Nat) (E : List (Nat × Nat)) (lazy : Bool) (s p a : Nat) : Nat := maskN (nextL c E lazy (bitsN c s) (bitsN c p) (bitsN c a))
/-! ### families -/
def covF (F : Nat → List Nat) (s x : Nat) : Prop := ∃ m ∈ F s, dif m x = 0
/-- what the searchers can bring about -/
inductive Rch (c : Nat) (E : List (Nat × Nat)) (lazy : Bool) (S : List Nat) : Nat → Nat → Prop
  | zero : Rch c E lazy S 0 (2 ^ c - 1)
  | step {s p a : Nat} : Rch c E lazy S s p → s ∈ S → a ∈ S → nxM c E lazy s p a ≠ 0 → Rch c E lazy S a (nxM c E lazy s p a)
structure FamK (c : Nat) (E : List (Nat × Nat)) (lazy : Bool) (S : List Nat) (F : Nat → List Nat) : Prop where
  o : OptOk c S F
  nd : ∀ s ∈ S, (F s).Nodup
  rch : ∀ s ∈ S, ∀ m ∈ F s, Rch c E lazy S s m
  zero : covF F 0 (2 ^ c - 1)
end Pv

end
section
namespace Pv
open PySem

/-! ### blockade -/
/-! ### what searchers can bring about is a plan -/
/-! ### a touching haven is a haven -/
end Pv

end
section
namespace Pv
open PySem

/-! ### dicts of lists that are owned, read -/
/-! ### blockade_holds takes what blockade gives -/
end Pv

end
section
namespace Pv
open PySem

/-! ### k17: the law's own judges on what blockade gives -/
end Pv

end
section
namespace Pv
open PySem

/-! ### k17 -/
end Pv

end
section
namespace Pv
open PySem

/-! ### decide -/
inductive Runr | seen | hid (lazy : Bool)
end Pv

end
section
namespace Pv
open PySem

/-! ### k40: thin graphs -/
theorem dedup_ex : ∀ (L : List (Nat × Nat)), ∃ l : List (Nat × Nat), l.Nodup ∧ ∀ e, e ∈ l ↔ e ∈ L
  | [] => ⟨[], .nil, by simp⟩
  | a :: L => by
    obtain ⟨l, h1, h2⟩ := dedup_ex L
    by_cases q : a ∈ l
    · refine ⟨l, h1, fun e => ?_⟩
      rw [h2, List.mem_cons]
      constructor
      · exact fun z => .inr z
      · rintro (rfl | z)
        · exact (h2 e).mp q
        · exact z
    · refine ⟨a :: l, List.nodup_cons.mpr ⟨q, h1⟩, fun e => ?_⟩
      rw [List.mem_cons, List.mem_cons, h2]
theorem sorted_edges (L : List (Nat × Nat)) : ∃ E : List (Nat × Nat), E.Pairwise ltE ∧ ∀ e, e ∈ E ↔ e ∈ L := by
  obtain ⟨l, h1, h2⟩ := dedup_ex L
  refine ⟨l.mergeSort leE, ?_, fun e => by rw [List.mem_mergeSort, h2]⟩
  have hs : (l.mergeSort leE).Pairwise fun a b => leE a b = true := List.pairwise_mergeSort (fun a b d h1 h2 => by unfold leE at *; simp only [decide_eq_true_eq] at *; omega) (fun a b => by unfold leE; simp only [Bool.or_eq_true, decide_eq_true_eq]; omega) l
  have hn : (l.mergeSort leE).Nodup := (List.mergeSort_perm l leE).nodup_iff.mpr h1
  refine List.Pairwise.imp ?_ (List.Pairwise.and hs hn)
  intro a b ⟨h1, h2⟩
  unfold leE at h1
  simp only [decide_eq_true_eq] at h1
  unfold ltE
  have : ¬ (a.1 = b.1 ∧ a.2 = b.2) := fun z => h2 (Prod.ext z.1 z.2)
  omega
def zE (e : Nat × Nat) : Int × Int := ((e.1 : Int), (e.2 : Int))
theorem ss_edges {L E : List (Nat × Nat)} (hL : ∀ e ∈ L, e.1 < 64 ∧ e.2 < 64) (hlen : L.length < 64) (hs : E.Pairwise ltE) (hm : ∀ e, e ∈ E ↔ e ∈ L) : ssR (.list (L.map edgeD)) = .ok (.list (E.map edgeD)) := by
  have e1 : L.map edgeD = (L.map zE).map pdD := by rw [List.map_map]; rfl
  have e2 : E.map edgeD = (E.map zE).map pdD := by rw [List.map_map]; rfl
  have inj : ∀ a b : Nat × Nat, zE a = zE b → a = b := fun a b h => by
    have h1 := congrArg Prod.fst h
    have h2 := congrArg Prod.snd h
    simp only [zE] at h1 h2
    exact Prod.ext (by omega) (by omega)
  have hb : ∀ e ∈ L.map zE, PrB e := fun e he => by
    obtain ⟨x, hx, rfl⟩ := List.mem_map.mp he
    have := hL x hx
    simp only [PrB, zE]
    omega
  have hss : ssD (L.map edgeD) = .list (E.map edgeD) := by
    rw [e1, e2]
    refine ssD_prs hb ?_ fun e => ?_
    · refine List.pairwise_map.mpr (hs.imp_of_mem fun {a b} ha hb' h => ?_)
      have h1 := hL a ((hm a).mp ha)
      have h2 := hL b ((hm b).mp hb')
      unfold ltE at h
      simp only [prC, zE]
      omega
    · rw [List.mem_map, List.mem_map]
      constructor
      · rintro ⟨x, hx, rfl⟩; exact ⟨x, (hm x).mp hx, rfl⟩
      · rintro ⟨x, hx, rfl⟩; exact ⟨x, (hm x).mpr hx, rfl⟩
  cases L with
  | nil =>
    rw [ssR_of (d := .list (([] : List (Nat × Nat)).map edgeD)) (ns := []) rfl rfl]
    show (if decide (([] : List Int).length ≤ 4000) && decide ((ddI []).length < 64) then Res.ok (ssD []) else Res.st) = _
    have : ssD [] = .list (E.map edgeD) := hss
    rw [this]; rfl
  | cons a L =>
    have e0 : ssR (.list ((a :: L).map edgeD)) = ssP (.list ((a :: L).map edgeD)) := by unfold ssR; rfl
    rw [e0]
    have hp : prsOf ((a :: L).map edgeD) = some ((a :: L).map zE) := by
      have go : ∀ M : List (Nat × Nat), (∀ e ∈ M, e.1 < 64 ∧ e.2 < 64) → prsOf (M.map edgeD) = some (M.map zE) := by
        intro M
        induction M with
        | nil => intro _; rfl
        | cons x M ih =>
          intro h
          have hx := h x (by simp)
          have h1 : prOf (edgeD x) = some (zE x) := by
            show (if decide ((0 : Int) ≤ (x.1 : Int)) && decide ((x.1 : Int) < 64) && decide ((0 : Int) ≤ (x.2 : Int)) && decide ((x.2 : Int) < 64) then some ((x.1 : Int), (x.2 : Int)) else none) = _
            rw [decide_eq_true (by omega), decide_eq_true (by omega), decide_eq_true (by omega), decide_eq_true (by omega)]
            rfl
          rw [List.map_cons, prsOf, h1, ih fun y hy => h y (by simp [hy])]
          rfl
      exact go _ hL
    unfold ssP
    show (match prsOf ((a :: L).map edgeD) with | some ps => if decide (ps.length < 64) then Res.ok (ssD ((a :: L).map edgeD)) else .st | none => .st) = _
    rw [hp]
    show (if decide (((a :: L).map zE).length < 64) then Res.ok (ssD ((a :: L).map edgeD)) else .st) = _
    rw [List.length_map, decide_eq_true hlen, if_pos rfl, hss]
def yN (o : Option Nat) : Option (Bool × D) := o.map fun k => (false, nD k)
@[simp] theorem clr_yN (o : Option Nat) (r : Env) : clr (yN o :: r) = yN o :: clr r := by cases o <;> rfl
end Pv

end
section
namespace Pv
open PySem

/-! ### k40: the law's own judges -/
/-- where the runner can be then -/
noncomputable def regL (c : Nat) (E : List (Nat × Nat)) (r : Runr) (p : List Nat × List Nat) (a : List Nat) : List Nat := match r with
  | .seen => reachL c E (p.1.filter fun x => decide (x ∈ a)) p.2
  | .hid lazy => nextL c E lazy p.1 p.2 a
def metP (c : Nat) (E : List (Nat × Nat)) (r : Runr) (t : List (List Nat × List Nat)) (p : List Nat × List Nat) (a : List Nat) : Prop := ∃ q ∈ t, q.1 = a ∧ q.2 ≠ [] ∧ ∀ x ∈ q.2, x ∈ regL c E r p a
/-- what the law asks of a paper -/
structure FreeOk (c : Nat) (E : List (Nat × Nat)) (k : Nat) (r : Runr) (t : List (List Nat × List Nat)) : Prop where
  m0 : ∃ p ∈ t, p.1 = []
  asc : ∀ p ∈ t, AscC c p.1 ∧ AscC c p.2
  std : ∀ p ∈ t, p.1 ∈ stdL c k
  dj : ∀ p ∈ t, ∀ x ∈ p.2, x ∉ p.1
  pt : r = .seen → ∀ p ∈ t, p.2 ∈ partsT c E (frB c p.1)
  met : ∀ p ∈ t, ∀ a ∈ stdL c k, metP c E r t p a
  keys : r = .seen → t.map (·.1) = stdL c k
  len : t.length ≤ 65536
end Pv

end
section
namespace Pv
open PySem

/-! ### k40 -/
end Pv

end
section
namespace Pv
open PySem

/-! ### rings and orders -/
structure RingP (E : List (Nat × Nat)) (L : List Nat) : Prop where
  len : 3 ≤ L.length
  nd : L.Nodup
  ad : ∀ i (h : i < L.length), adj E L[i] (L[(i + 1) % L.length]'(Nat.mod_lt _ (by omega)))
/-! ### spiders and lines -/
structure SpiP (E : List (Nat × Nat)) (s : Nat) (prs : List (Nat × Nat)) : Prop where
  len : prs.length = 3
  nd : (s :: (prs.map fun p => [p.1, p.2]).flatten).Nodup
  ad : ∀ p ∈ prs, adj E s p.1 ∧ adj E p.1 p.2
end Pv

end
section
namespace Pv
open PySem

/-! ### a shortest way -/
structure PathP (E : List (Nat × Nat)) (u : Nat) (L : List Nat) : Prop where
  ne : L ≠ []
  hd : L.head? = some u
  nd : L.Nodup
  ad : ∀ i (h : i + 1 < L.length), adj E L[i] L[i + 1]
structure WyO (c : Nat) (E : List (Nat × Nat)) (u v : Nat) (W : List (List Nat)) (M : Nat) : Prop where
  lt : M < 2 ^ c
  pt : ∀ L ∈ W, PathP E u L ∧ ∀ x ∈ L, M.testBit x = true
  st : M.testBit u = true
  cl : ∀ x, M.testBit x = true → (∃ L ∈ W, ∃ h : L ≠ [], L.getLast h = x) ∨ ∀ y, adj E x y → M.testBit y = true
  tg : M.testBit v = true → ∃ L ∈ W, ∃ h : L ≠ [], L.getLast h = v
noncomputable def misN (c M : Nat) : Nat := cnt c fun x => ¬ M.testBit x = true
/-- within the walk over the ways -/
structure WyJ (c : Nat) (E : List (Nat × Nat)) (u v : Nat) (W : List (List Nat)) (M : Nat) (rest N : List (List Nat)) (M' : Nat) : Prop where
  lt : M' < 2 ^ c
  up : ∀ x, M.testBit x = true → M'.testBit x = true
  pt : ∀ L ∈ N, PathP E u L ∧ ∀ x ∈ L, M'.testBit x = true
  nw : ∀ x, M'.testBit x = true → M.testBit x = true ∨ ∃ L ∈ N, ∃ h : L ≠ [], L.getLast h = x
  dn : ∀ L ∈ W, L ∈ rest ∨ ∀ h : L ≠ [], L.getLast h ≠ v ∧ ∀ y, adj E (L.getLast h) y → M'.testBit y = true
  ms : misN c M' + N.length = misN c M
  sb : ∀ L ∈ rest, L ∈ W
end Pv

end
section
namespace Pv
open PySem

/-! ### ring -/
end Pv

end
section
namespace Pv
open PySem

/-! ### the judges of rings -/
def YN (r : Res D) (p : Prop) : Prop := ∃ b : Bool, r = .ok (.bool b) ∧ (b = true ↔ p)
@[simp] theorem YN_ok {b : Bool} {p : Prop} : YN (.ok (.bool b)) p ↔ (b = true ↔ p) := ⟨fun ⟨b', e, h⟩ => by cases e; exact h, fun h => ⟨b, rfl, h⟩⟩
end Pv

end
section
namespace Pv
open PySem

/-! ### the judges of spiders -/
end Pv

end
section
namespace Pv
open PySem

/-! ### spider -/
end Pv

end
section
namespace Pv
open PySem

/-! ### one searcher; obstacle -/
/-! ### the law's drawn orders and planted spiders -/
end Pv

end
section
namespace Pv
open PySem

/-! ### the law of small obstacles -/
end Pv

end
section
namespace Pv
open PySem

/-! ### k22 -/
def yD (o : Option D) : Option (Bool × D) := o.map fun d => (false, d)
@[simp] theorem clr_yD (o : Option D) (r : Env) : clr (yD o :: r) = yD o :: clr r := by cases o <;> rfl
end Pv

end
section
namespace Pv
open PySem

/-! ### sentences -/
inductive Sn where
  | pr (j : Bool) (x y : Str) | on (e : Bool) (x : Str) | at (i : Nat) (x : Str) | ng (s : Sn) | tw (o : Bool) (s t : Sn) | bd (e : Bool) (x : Str) (s : Sn)
def w2 (k : Bool) (a b : Str) : D := .str (if k then b else a)
def FreeIn : Sn → Str → Prop
  | .pr _ x y, z => z = x ∨ z = y
  | .on _ x, z => z = x
  | .at _ x, z => z = x
  | .ng s, z => FreeIn s z
  | .tw _ s t, z => FreeIn s z ∨ FreeIn t z
  | .bd _ x s, z => FreeIn s z ∧ z ≠ x
def dep : Sn → Nat
  | .pr _ _ _ => 0
  | .on _ _ => 0
  | .at _ _ => 0
  | .ng s => dep s + 1
  | .tw _ s t => max (dep s) (dep t) + 1
  | .bd _ _ s => dep s + 1
def nms : Sn → Nat
  | .pr _ _ _ => 2
  | .on _ _ => 1
  | .at _ _ => 1
  | .ng s => nms s
  | .tw _ s t => nms s + nms t
  | .bd _ _ s => nms s
def yE (o : Option D) : Option (Bool × D) := o.map fun d => (false, d)
@[simp] theorem clr_yE (o : Option D) (r : Env) : clr (yE o :: r) = yE o :: clr r := by cases o <;> rfl
end Pv

end
section
namespace Pv
open PySem

/-! ### the words of sentences -/
@[simp] theorem kx_P_within : cmpR .In (.str "within") (.tuple [.str "within", .str "joined"]) = .ok (.bool true) := id rfl
@[simp] theorem kx_O_within : cmpR .In (.str "within") (.tuple [.str "single", .str "empty"]) = .ok (.bool false) := id rfl
@[simp] theorem kx_T_within : cmpR .In (.str "within") (.tuple [.str "and", .str "or"]) = .ok (.bool false) := id rfl
@[simp] theorem kx_B_within : cmpR .In (.str "within") (.tuple [.str "some", .str "each"]) = .ok (.bool false) := id rfl
@[simp] theorem ke_at_within : cmpR .Eq (.str "within") (.str "at") = .ok (.bool false) := id rfl
@[simp] theorem ke_not_within : cmpR .Eq (.str "within") (.str "not") = .ok (.bool false) := id rfl
@[simp] theorem ke_within_within : cmpR .Eq (.str "within") (.str "within") = .ok (.bool true) := id rfl
@[simp] theorem ke_joined_within : cmpR .Eq (.str "within") (.str "joined") = .ok (.bool false) := id rfl
@[simp] theorem ke_single_within : cmpR .Eq (.str "within") (.str "single") = .ok (.bool false) := id rfl
@[simp] theorem ke_empty_within : cmpR .Eq (.str "within") (.str "empty") = .ok (.bool false) := id rfl
@[simp] theorem ke_and_within : cmpR .Eq (.str "within") (.str "and") = .ok (.bool false) := id rfl
@[simp] theorem ke_or_within : cmpR .Eq (.str "within") (.str "or") = .ok (.bool false) := id rfl
@[simp] theorem ke_some_within : cmpR .Eq (.str "within") (.str "some") = .ok (.bool false) := id rfl
@[simp] theorem ke_each_within : cmpR .Eq (.str "within") (.str "each") = .ok (.bool false) := id rfl
@[simp] theorem kx_P_joined : cmpR .In (.str "joined") (.tuple [.str "within", .str "joined"]) = .ok (.bool true) := id rfl
@[simp] theorem kx_O_joined : cmpR .In (.str "joined") (.tuple [.str "single", .str "empty"]) = .ok (.bool false) := id rfl
@[simp] theorem kx_T_joined : cmpR .In (.str "joined") (.tuple [.str "and", .str "or"]) = .ok (.bool false) := id rfl
@[simp] theorem kx_B_joined : cmpR .In (.str "joined") (.tuple [.str "some", .str "each"]) = .ok (.bool false) := id rfl
@[simp] theorem ke_at_joined : cmpR .Eq (.str "joined") (.str "at") = .ok (.bool false) := id rfl
@[simp] theorem ke_not_joined : cmpR .Eq (.str "joined") (.str "not") = .ok (.bool false) := id rfl
@[simp] theorem ke_within_joined : cmpR .Eq (.str "joined") (.str "within") = .ok (.bool false) := id rfl
@[simp] theorem ke_joined_joined : cmpR .Eq (.str "joined") (.str "joined") = .ok (.bool true) := id rfl
@[simp] theorem ke_single_joined : cmpR .Eq (.str "joined") (.str "single") = .ok (.bool false) := id rfl
@[simp] theorem ke_empty_joined : cmpR .Eq (.str "joined") (.str "empty") = .ok (.bool false) := id rfl
@[simp] theorem ke_and_joined : cmpR .Eq (.str "joined") (.str "and") = .ok (.bool false) := id rfl
@[simp] theorem ke_or_joined : cmpR .Eq (.str "joined") (.str "or") = .ok (.bool false) := id rfl
@[simp] theorem ke_some_joined : cmpR .Eq (.str "joined") (.str "some") = .ok (.bool false) := id rfl
@[simp] theorem ke_each_joined : cmpR .Eq (.str "joined") (.str "each") = .ok (.bool false) := id rfl
@[simp] theorem kx_P_single : cmpR .In (.str "single") (.tuple [.str "within", .str "joined"]) = .ok (.bool false) := id rfl
@[simp] theorem kx_O_single : cmpR .In (.str "single") (.tuple [.str "single", .str "empty"]) = .ok (.bool true) := id rfl
@[simp] theorem kx_T_single : cmpR .In (.str "single") (.tuple [.str "and", .str "or"]) = .ok (.bool false) := id rfl
@[simp] theorem kx_B_single : cmpR .In (.str "single") (.tuple [.str "some", .str "each"]) = .ok (.bool false) := id rfl
@[simp] theorem ke_at_single : cmpR .Eq (.str "single") (.str "at") = .ok (.bool false) := id rfl
@[simp] theorem ke_not_single : cmpR .Eq (.str "single") (.str "not") = .ok (.bool false) := id rfl
@[simp] theorem ke_within_single : cmpR .Eq (.str "single") (.str "within") = .ok (.bool false) := id rfl
@[simp] theorem ke_joined_single : cmpR .Eq (.str "single") (.str "joined") = .ok (.bool false) := id rfl
@[simp] theorem ke_single_single : cmpR .Eq (.str "single") (.str "single") = .ok (.bool true) := id rfl
@[simp] theorem ke_empty_single : cmpR .Eq (.str "single") (.str "empty") = .ok (.bool false) := id rfl
@[simp] theorem ke_and_single : cmpR .Eq (.str "single") (.str "and") = .ok (.bool false) := id rfl
@[simp] theorem ke_or_single : cmpR .Eq (.str "single") (.str "or") = .ok (.bool false) := id rfl
@[simp] theorem ke_some_single : cmpR .Eq (.str "single") (.str "some") = .ok (.bool false) := id rfl
@[simp] theorem ke_each_single : cmpR .Eq (.str "single") (.str "each") = .ok (.bool false) := id rfl
@[simp] theorem kx_P_empty : cmpR .In (.str "empty") (.tuple [.str "within", .str "joined"]) = .ok (.bool false) := id rfl
@[simp] theorem kx_O_empty : cmpR .In (.str "empty") (.tuple [.str "single", .str "empty"]) = .ok (.bool true) := id rfl
@[simp] theorem kx_T_empty : cmpR .In (.str "empty") (.tuple [.str "and", .str "or"]) = .ok (.bool false) := id rfl
@[simp] theorem kx_B_empty : cmpR .In (.str "empty") (.tuple [.str "some", .str "each"]) = .ok (.bool false) := id rfl
@[simp] theorem ke_at_empty : cmpR .Eq (.str "empty") (.str "at") = .ok (.bool false) := id rfl
@[simp] theorem ke_not_empty : cmpR .Eq (.str "empty") (.str "not") = .ok (.bool false) := id rfl
@[simp] theorem ke_within_empty : cmpR .Eq (.str "empty") (.str "within") = .ok (.bool false) := id rfl
@[simp] theorem ke_joined_empty : cmpR .Eq (.str "empty") (.str "joined") = .ok (.bool false) := id rfl
@[simp] theorem ke_single_empty : cmpR .Eq (.str "empty") (.str "single") = .ok (.bool false) := id rfl
@[simp] theorem ke_empty_empty : cmpR .Eq (.str "empty") (.str "empty") = .ok (.bool true) := id rfl
@[simp] theorem ke_and_empty : cmpR .Eq (.str "empty") (.str "and") = .ok (.bool false) := id rfl
@[simp] theorem ke_or_empty : cmpR .Eq (.str "empty") (.str "or") = .ok (.bool false) := id rfl
@[simp] theorem ke_some_empty : cmpR .Eq (.str "empty") (.str "some") = .ok (.bool false) := id rfl
@[simp] theorem ke_each_empty : cmpR .Eq (.str "empty") (.str "each") = .ok (.bool false) := id rfl
@[simp] theorem kx_P_at : cmpR .In (.str "at") (.tuple [.str "within", .str "joined"]) = .ok (.bool false) := id rfl
@[simp] theorem kx_O_at : cmpR .In (.str "at") (.tuple [.str "single", .str "empty"]) = .ok (.bool false) := id rfl
@[simp] theorem kx_T_at : cmpR .In (.str "at") (.tuple [.str "and", .str "or"]) = .ok (.bool false) := id rfl
@[simp] theorem kx_B_at : cmpR .In (.str "at") (.tuple [.str "some", .str "each"]) = .ok (.bool false) := id rfl
@[simp] theorem ke_at_at : cmpR .Eq (.str "at") (.str "at") = .ok (.bool true) := id rfl
@[simp] theorem ke_not_at : cmpR .Eq (.str "at") (.str "not") = .ok (.bool false) := id rfl
@[simp] theorem ke_within_at : cmpR .Eq (.str "at") (.str "within") = .ok (.bool false) := id rfl
@[simp] theorem ke_joined_at : cmpR .Eq (.str "at") (.str "joined") = .ok (.bool false) := id rfl
@[simp] theorem ke_single_at : cmpR .Eq (.str "at") (.str "single") = .ok (.bool false) := id rfl
@[simp] theorem ke_empty_at : cmpR .Eq (.str "at") (.str "empty") = .ok (.bool false) := id rfl
@[simp] theorem ke_and_at : cmpR .Eq (.str "at") (.str "and") = .ok (.bool false) := id rfl
@[simp] theorem ke_or_at : cmpR .Eq (.str "at") (.str "or") = .ok (.bool false) := id rfl
@[simp] theorem ke_some_at : cmpR .Eq (.str "at") (.str "some") = .ok (.bool false) := id rfl
@[simp] theorem ke_each_at : cmpR .Eq (.str "at") (.str "each") = .ok (.bool false) := id rfl
@[simp] theorem kx_P_not : cmpR .In (.str "not") (.tuple [.str "within", .str "joined"]) = .ok (.bool false) := id rfl
@[simp] theorem kx_O_not : cmpR .In (.str "not") (.tuple [.str "single", .str "empty"]) = .ok (.bool false) := id rfl
@[simp] theorem kx_T_not : cmpR .In (.str "not") (.tuple [.str "and", .str "or"]) = .ok (.bool false) := id rfl
@[simp] theorem kx_B_not : cmpR .In (.str "not") (.tuple [.str "some", .str "each"]) = .ok (.bool false) := id rfl
@[simp] theorem ke_at_not : cmpR .Eq (.str "not") (.str "at") = .ok (.bool false) := id rfl
@[simp] theorem ke_not_not : cmpR .Eq (.str "not") (.str "not") = .ok (.bool true) := id rfl
@[simp] theorem ke_within_not : cmpR .Eq (.str "not") (.str "within") = .ok (.bool false) := id rfl
@[simp] theorem ke_joined_not : cmpR .Eq (.str "not") (.str "joined") = .ok (.bool false) := id rfl
@[simp] theorem ke_single_not : cmpR .Eq (.str "not") (.str "single") = .ok (.bool false) := id rfl
@[simp] theorem ke_empty_not : cmpR .Eq (.str "not") (.str "empty") = .ok (.bool false) := id rfl
@[simp] theorem ke_and_not : cmpR .Eq (.str "not") (.str "and") = .ok (.bool false) := id rfl
@[simp] theorem ke_or_not : cmpR .Eq (.str "not") (.str "or") = .ok (.bool false) := id rfl
@[simp] theorem ke_some_not : cmpR .Eq (.str "not") (.str "some") = .ok (.bool false) := id rfl
@[simp] theorem ke_each_not : cmpR .Eq (.str "not") (.str "each") = .ok (.bool false) := id rfl
@[simp] theorem kx_P_and : cmpR .In (.str "and") (.tuple [.str "within", .str "joined"]) = .ok (.bool false) := id rfl
@[simp] theorem kx_O_and : cmpR .In (.str "and") (.tuple [.str "single", .str "empty"]) = .ok (.bool false) := id rfl
@[simp] theorem kx_T_and : cmpR .In (.str "and") (.tuple [.str "and", .str "or"]) = .ok (.bool true) := id rfl
@[simp] theorem kx_B_and : cmpR .In (.str "and") (.tuple [.str "some", .str "each"]) = .ok (.bool false) := id rfl
@[simp] theorem ke_at_and : cmpR .Eq (.str "and") (.str "at") = .ok (.bool false) := id rfl
@[simp] theorem ke_not_and : cmpR .Eq (.str "and") (.str "not") = .ok (.bool false) := id rfl
@[simp] theorem ke_within_and : cmpR .Eq (.str "and") (.str "within") = .ok (.bool false) := id rfl
@[simp] theorem ke_joined_and : cmpR .Eq (.str "and") (.str "joined") = .ok (.bool false) := id rfl
@[simp] theorem ke_single_and : cmpR .Eq (.str "and") (.str "single") = .ok (.bool false) := id rfl
@[simp] theorem ke_empty_and : cmpR .Eq (.str "and") (.str "empty") = .ok (.bool false) := id rfl
@[simp] theorem ke_and_and : cmpR .Eq (.str "and") (.str "and") = .ok (.bool true) := id rfl
@[simp] theorem ke_or_and : cmpR .Eq (.str "and") (.str "or") = .ok (.bool false) := id rfl
@[simp] theorem ke_some_and : cmpR .Eq (.str "and") (.str "some") = .ok (.bool false) := id rfl
@[simp] theorem ke_each_and : cmpR .Eq (.str "and") (.str "each") = .ok (.bool false) := id rfl
@[simp] theorem kx_P_or : cmpR .In (.str "or") (.tuple [.str "within", .str "joined"]) = .ok (.bool false) := id rfl
@[simp] theorem kx_O_or : cmpR .In (.str "or") (.tuple [.str "single", .str "empty"]) = .ok (.bool false) := id rfl
@[simp] theorem kx_T_or : cmpR .In (.str "or") (.tuple [.str "and", .str "or"]) = .ok (.bool true) := id rfl
@[simp] theorem kx_B_or : cmpR .In (.str "or") (.tuple [.str "some", .str "each"]) = .ok (.bool false) := id rfl
@[simp] theorem ke_at_or : cmpR .Eq (.str "or") (.str "at") = .ok (.bool false) := id rfl
@[simp] theorem ke_not_or : cmpR .Eq (.str "or") (.str "not") = .ok (.bool false) := id rfl
@[simp] theorem ke_within_or : cmpR .Eq (.str "or") (.str "within") = .ok (.bool false) := id rfl
@[simp] theorem ke_joined_or : cmpR .Eq (.str "or") (.str "joined") = .ok (.bool false) := id rfl
@[simp] theorem ke_single_or : cmpR .Eq (.str "or") (.str "single") = .ok (.bool false) := id rfl
@[simp] theorem ke_empty_or : cmpR .Eq (.str "or") (.str "empty") = .ok (.bool false) := id rfl
@[simp] theorem ke_and_or : cmpR .Eq (.str "or") (.str "and") = .ok (.bool false) := id rfl
@[simp] theorem ke_or_or : cmpR .Eq (.str "or") (.str "or") = .ok (.bool true) := id rfl
@[simp] theorem ke_some_or : cmpR .Eq (.str "or") (.str "some") = .ok (.bool false) := id rfl
@[simp] theorem ke_each_or : cmpR .Eq (.str "or") (.str "each") = .ok (.bool false) := id rfl
@[simp] theorem kx_P_some : cmpR .In (.str "some") (.tuple [.str "within", .str "joined"]) = .ok (.bool false) := id rfl
@[simp] theorem kx_O_some : cmpR .In (.str "some") (.tuple [.str "single", .str "empty"]) = .ok (.bool false) := id rfl
@[simp] theorem kx_T_some : cmpR .In (.str "some") (.tuple [.str "and", .str "or"]) = .ok (.bool false) := id rfl
@[simp] theorem kx_B_some : cmpR .In (.str "some") (.tuple [.str "some", .str "each"]) = .ok (.bool true) := id rfl
@[simp] theorem ke_at_some : cmpR .Eq (.str "some") (.str "at") = .ok (.bool false) := id rfl
@[simp] theorem ke_not_some : cmpR .Eq (.str "some") (.str "not") = .ok (.bool false) := id rfl
@[simp] theorem ke_within_some : cmpR .Eq (.str "some") (.str "within") = .ok (.bool false) := id rfl
@[simp] theorem ke_joined_some : cmpR .Eq (.str "some") (.str "joined") = .ok (.bool false) := id rfl
@[simp] theorem ke_single_some : cmpR .Eq (.str "some") (.str "single") = .ok (.bool false) := id rfl
@[simp] theorem ke_empty_some : cmpR .Eq (.str "some") (.str "empty") = .ok (.bool false) := id rfl
@[simp] theorem ke_and_some : cmpR .Eq (.str "some") (.str "and") = .ok (.bool false) := id rfl
@[simp] theorem ke_or_some : cmpR .Eq (.str "some") (.str "or") = .ok (.bool false) := id rfl
@[simp] theorem ke_some_some : cmpR .Eq (.str "some") (.str "some") = .ok (.bool true) := id rfl
@[simp] theorem ke_each_some : cmpR .Eq (.str "some") (.str "each") = .ok (.bool false) := id rfl
@[simp] theorem kx_P_each : cmpR .In (.str "each") (.tuple [.str "within", .str "joined"]) = .ok (.bool false) := id rfl
@[simp] theorem kx_O_each : cmpR .In (.str "each") (.tuple [.str "single", .str "empty"]) = .ok (.bool false) := id rfl
@[simp] theorem kx_T_each : cmpR .In (.str "each") (.tuple [.str "and", .str "or"]) = .ok (.bool false) := id rfl
@[simp] theorem kx_B_each : cmpR .In (.str "each") (.tuple [.str "some", .str "each"]) = .ok (.bool true) := id rfl
@[simp] theorem ke_at_each : cmpR .Eq (.str "each") (.str "at") = .ok (.bool false) := id rfl
@[simp] theorem ke_not_each : cmpR .Eq (.str "each") (.str "not") = .ok (.bool false) := id rfl
@[simp] theorem ke_within_each : cmpR .Eq (.str "each") (.str "within") = .ok (.bool false) := id rfl
@[simp] theorem ke_joined_each : cmpR .Eq (.str "each") (.str "joined") = .ok (.bool false) := id rfl
@[simp] theorem ke_single_each : cmpR .Eq (.str "each") (.str "single") = .ok (.bool false) := id rfl
@[simp] theorem ke_empty_each : cmpR .Eq (.str "each") (.str "empty") = .ok (.bool false) := id rfl
@[simp] theorem ke_and_each : cmpR .Eq (.str "each") (.str "and") = .ok (.bool false) := id rfl
@[simp] theorem ke_or_each : cmpR .Eq (.str "each") (.str "or") = .ok (.bool false) := id rfl
@[simp] theorem ke_some_each : cmpR .Eq (.str "each") (.str "some") = .ok (.bool false) := id rfl
@[simp] theorem ke_each_each : cmpR .Eq (.str "each") (.str "each") = .ok (.bool true) := id rfl
def aftL (r : SR) (k : Env → SR) : SR := match r with
  | .nx ρ => k ρ
  | .ct ρ => k ρ
  | .bk ρ => .nx ρ
  | r => r
@[simp] theorem aftL_nx (ρ : Env) (k : Env → SR) : aftL (.nx ρ) k = k ρ := id rfl
@[simp] theorem aftL_rt (d : D) (k : Env → SR) : aftL (.rt d) k = .rt d := id rfl
def txL (ws : List Str) : D := .list (ws.map .str)
theorem txtsOf_map : ∀ ws : List Str, txtsOf (ws.map PyData.str) = some ws
  | [] => rfl
  | w :: ws => by rw [List.map_cons, txtsOf, txtsOf_map ws]; rfl
theorem neq_ss (a b : Str) : cmpR .NotEq (.str a) (.str b) = .ok (.bool (!decide (a = b))) := by
  apply cmpR_of
  show some (!(a == b)) = _
  by_cases h : a = b
  · subst h; simp
  · simp [h]
end Pv

end
section
namespace Pv
open PySem

/-! ### k24: the law's free names and ranks -/
inductive Pt where
  | w (x : Str) | i (n : Nat) | s (t : Sn)
end Pv

end
section
namespace Pv
open PySem

/-! ### drawn sentences -/
def AtLt : Sn → Nat → Prop
  | .pr _ _ _, _ => True
  | .on _ _, _ => True
  | .at i _, m => i < m
  | .ng s, m => AtLt s m
  | .tw _ s t, m => AtLt s m ∧ AtLt t m
  | .bd _ _ s, m => AtLt s m
theorem AtLt.mono : ∀ {s : Sn} {m k : Nat}, AtLt s m → m ≤ k → AtLt s k
  | .pr _ _ _, _, _, _, _ => trivial
  | .on _ _, _, _, _, _ => trivial
  | .at i _, m, k, h, hk => Nat.lt_of_lt_of_le h hk
  | .ng s, m, k, h, hk => AtLt.mono (s := s) h hk
  | .tw _ s t, m, k, h, hk => ⟨AtLt.mono h.1 hk, AtLt.mono h.2 hk⟩
  | .bd _ _ s, m, k, h, hk => AtLt.mono (s := s) h hk
def xyzwL : List Str := ["x", "y", "z", "w"]
def AllN (P : Str → Prop) : Sn → Prop
  | .pr _ x y => P x ∧ P y
  | .on _ x => P x
  | .at _ x => P x
  | .ng s => AllN P s
  | .tw _ s t => AllN P s ∧ AllN P t
  | .bd _ x s => P x ∧ AllN P s
theorem AllN.imp {P Q : Str → Prop} (h : ∀ x, P x → Q x) : ∀ {s : Sn}, AllN P s → AllN Q s
  | .pr _ _ _, k => ⟨h _ k.1, h _ k.2⟩
  | .on _ _, k => h _ k
  | .at _ _, k => h _ k
  | .ng s, k => AllN.imp h (s := s) k
  | .tw _ s t, k => ⟨AllN.imp h k.1, AllN.imp h k.2⟩
  | .bd _ _ s, k => ⟨h _ k.1, AllN.imp h k.2⟩
/-- how many words a sentence's text has -/
def wsn : Sn → Nat
  | .pr _ _ _ => 3
  | .on _ _ => 2
  | .at _ _ => 3
  | .ng s => 1 + wsn s
  | .tw _ s t => 1 + wsn s + wsn t
  | .bd _ _ s => 2 + wsn s
structure SnOk (names : List Str) (s : Sn) (d n : Nat) : Prop where
  dp : dep s ≤ d
  nm : nms s ≤ n
  fr : ∀ z, FreeIn s z → z ∈ names
  nat : AtLt s 0
  al : AllN (fun z => z ∈ names ∨ z ∈ xyzwL) s
  wl : wsn s + 3 ≤ 4 * n
end Pv

end
section
namespace Pv
open PySem

/-! ### k24 -/
end Pv

end
section
namespace Pv
open PySem

/-! ### what sentences say -/
end Pv

end
section
namespace Pv
open PySem

/-! ### is_true -/
end Pv

end
section
namespace Pv
open PySem

/-! ### the law's meaning -/
def hL (c : Nat) (d : D) (S : Nat → Prop) : Prop := ∃ l : List Nat, d = natsT l ∧ l.Nodup ∧ (∀ v ∈ l, v < c) ∧ ∀ v, S v ↔ v ∈ l
structure SubOk (c : Nat) (rows : List (List Nat)) : Prop where
  nd : ∀ r ∈ rows, r.Nodup ∧ ∀ v ∈ r, v < c
  all : ∀ S : Nat → Prop, (∀ v, S v → v < c) → ∃ r ∈ rows, ∀ v, S v ↔ v ∈ r
  len : rows.length ≤ 2 ^ c
end Pv

end
section
namespace Pv
open PySem

/-! ### _law_holds -/
end Pv

end
section
namespace Pv
open PySem

/-! ### pairs of names and sets -/
structure PsOk (c : Nat) (L : Str → List Nat) (s : Sn) (g : Str → Nat → Prop) : Prop where
  ok : ∀ x, FreeIn s x → (L x).Nodup ∧ (∀ v ∈ L x, v < c) ∧ ∀ v, g x v ↔ v ∈ L x
end Pv

end
section
namespace Pv
open PySem

/-! ### k01: texts of graphs -/
def dgS (k : Nat) : Str := ⟨#[48 + k]⟩
def hdS (c : Nat) : Str := ⟨#[48 + c, 58]⟩
def ewS (e : Nat × Nat) : Str := ⟨#[48 + e.1, 45, 48 + e.2]⟩
theorem str_k : ∀ k, k < 10 → bltop .str [nD k] = some (.str (dgS k)) := by
  intro k h
  match k, h with
  | 0, _ => rfl
  | 1, _ => rfl
  | 2, _ => rfl
  | 3, _ => rfl
  | 4, _ => rfl
  | 5, _ => rfl
  | 6, _ => rfl
  | 7, _ => rfl
  | 8, _ => rfl
  | 9, _ => rfl
theorem int_k (k : Nat) (h : k < 10) : bltop .int [.str (dgS k)] = some (nD k) := by
  have := PySem.intText_digits (x := dgS k) (by
    intro c hc
    have : c = 48 + k := by simpa [dgS] using hc
    omega) (by simp [dgS]) (by show 1 ≤ _; omega)
  show (if decide (1 ≤ 600) then (PySem.intText? (dgS k)).map PyData.int else none) = _
  rw [this]
  show some (PyData.int ((PySem.NumText.digitsVal [48 + k] : Nat) : Int)) = some (.int (k : Nat))
  have e : PySem.NumText.digitsVal [48 + k] = k := by
    show 0 * 10 + (48 + k - 48) = k
    omega
  rw [e]
theorem in_07 : ∀ k, k < 8 → cmpR .NotIn (.str (dgS k)) (.str "01234567") = .ok (.bool false) := by
  intro k h
  match k, h with
  | 0, _ => rfl
  | 1, _ => rfl
  | 2, _ => rfl
  | 3, _ => rfl
  | 4, _ => rfl
  | 5, _ => rfl
  | 6, _ => rfl
  | 7, _ => rfl
theorem in_18 : ∀ k, 1 ≤ k → k < 9 → cmpR .NotIn (.str (dgS k)) (.str "12345678") = .ok (.bool false) := by
  intro k h1 h
  match k, h1, h with
  | 1, _, _ => rfl
  | 2, _, _ => rfl
  | 3, _, _ => rfl
  | 4, _, _ => rfl
  | 5, _, _ => rfl
  | 6, _, _ => rfl
  | 7, _, _ => rfl
  | 8, _, _ => rfl
theorem ew_len (e : Nat × Nat) : bltop .len [.str (ewS e)] = some (nD 3) := rfl
theorem ew_0 (e : Nat × Nat) : ixop (.str (ewS e)) (nD 0) = some (.str (dgS e.1)) := rfl
theorem ew_1 (e : Nat × Nat) : ixop (.str (ewS e)) (nD 1) = some (.str "-") := rfl
theorem ew_2 (e : Nat × Nat) : ixop (.str (ewS e)) (nD 2) = some (.str (dgS e.2)) := rfl
theorem add_ss {x y : Str} (h : x.length + y.length ≤ 1000000) : binop .Add (.str x) (.str y) = some (.str (x ++ y)) := by
  show (if sm (x.length + y.length) then some (PyData.str (x ++ y)) else none) = _
  rw [if_pos (show sm _ = true from decide_eq_true h)]
theorem tl_app (x y : Str) : (x ++ y).cps.toList = x.cps.toList ++ y.cps.toList := TL.tl_append x y
theorem hd_app (c : Nat) : dgS c ++ (":" : Str) = hdS c := PySem.W.str_of_cps (by rw [tl_app]; rfl)
theorem len_tl (x : Str) : x.length = x.cps.toList.length := by rw [Array.length_toList]; rfl
def grS (c : Nat) (E : List (Nat × Nat)) : Str := Txt.join " " (hdS c :: E.map ewS)
theorem joinL_snoc (S : List Nat) (w : List Nat) : ∀ ps : List (List Nat), ps ≠ [] → TL.joinL S (ps ++ [w]) = TL.joinL S ps ++ (S ++ w)
  | [], h => absurd rfl h
  | [p], _ => rfl
  | p :: q :: r, _ => by
    show p ++ (S ++ TL.joinL S ((q :: r) ++ [w])) = (p ++ (S ++ TL.joinL S (q :: r))) ++ (S ++ w)
    rw [joinL_snoc S w (q :: r) (by simp)]
    simp
theorem grS_snoc (c : Nat) (E : List (Nat × Nat)) (e : Nat × Nat) : grS c (E ++ [e]) = grS c E ++ (" " : Str) ++ dgS e.1 ++ ("-" : Str) ++ dgS e.2 := by
  refine PySem.W.str_of_cps ?_
  unfold grS
  rw [TL.join_eq, TL.join_eq]
  have h1 := TL.tl_join " " (hdS c :: (E ++ [e]).map ewS)
  have h2 := TL.tl_join " " (hdS c :: E.map ewS)
  show (Str.join " " (hdS c :: (E ++ [e]).map ewS)).cps.toList = _
  rw [tl_app, tl_app, tl_app, tl_app]
  have h1 : (Str.join " " (hdS c :: (E ++ [e]).map ewS)).cps.toList = _ := h1
  have h2 : (Str.join " " (hdS c :: E.map ewS)).cps.toList = _ := h2
  rw [h1, h2]
  have e1 : (hdS c :: (E ++ [e]).map ewS).map TL.tl = (hdS c :: E.map ewS).map TL.tl ++ [(ewS e).cps.toList] := by simp
  rw [e1, joinL_snoc _ _ _ (by simp)]
  have e2 : (ewS e).cps.toList = (dgS e.1).cps.toList ++ (("-" : Str).cps.toList ++ (dgS e.2).cps.toList) := rfl
  rw [e2]
  simp
theorem joinL_len (S : List Nat) : ∀ ps : List (List Nat), (TL.joinL S ps).length ≤ (ps.map (·.length)).sum + ps.length * S.length
  | [] => by simp [TL.joinL]
  | [p] => by simp [TL.joinL]
  | p :: q :: r => by
    have := joinL_len S (q :: r)
    show (p ++ (S ++ TL.joinL S (q :: r))).length ≤ _
    rw [List.length_append, List.length_append, List.map_cons, List.sum_cons]
    have e : (p :: q :: r).length * S.length = S.length + (q :: r).length * S.length := by
      rw [List.length_cons (a := p), Nat.add_mul, Nat.one_mul, Nat.add_comm]
    omega
theorem ssR_seq {d d' : D} (h : seqD d = seqD d') : ssR d = ssR d' := by
  unfold ssR ssP
  rw [h]
theorem ss_edgesT {c : Nat} {E : List (Nat × Nat)} (g : GOk c E) (hc : c ≤ 8) (hl : E.length < 64) : ssR (.tuple (E.map edgeD)) = .ok (.list (E.map edgeD)) := by
  rw [ssR_seq (d := .tuple (E.map edgeD)) (d' := .list (E.map edgeD)) rfl]
  exact ss_edges (fun e he => by have := g.lt e he; omega) hl g.so fun e => Iff.rfl
end Pv

end
section
namespace Pv
open PySem

/-! ### k01 -/
structure G01 (c : Nat) (E : List (Nat × Nat)) : Prop where
  g : GOk c E
  c1 : 1 ≤ c
  c8 : c ≤ 8
  l : E.length < 64
theorem joinR_tx (z : Str) {ws : List Str} (h : (ws.map (·.length)).sum + ws.length * z.length ≤ 1000000) : joinR z (.list (ws.map .str)) = .ok (.str (Txt.join z ws)) := by
  unfold joinR
  have e : seqD (.list (ws.map PyData.str)) = some (ws.map PyData.str) := rfl
  simp only [e, txtsOf_map, if_pos h]
theorem splitR_s {a b : Str} (hb : b.length ≠ 0) (ha : a.length ≤ 100000) : splitR (.str a) (.ok (.str b)) = .ok (.list ((Txt.split a b).map .str)) := by
  show (if b.length ≠ 0 ∧ a.length ≤ 100000 then Res.ok (PyData.list ((Txt.split a b).map .str)) else .st) = _
  rw [if_pos ⟨hb, ha⟩]
theorem reade_run (Φ : Calls) {e : Nat × Nat} (h1 : e.1 < 8) (h2 : e.2 < 8) : runB 1 1 b_read_edge Φ [.str (ewS e)] = .ok (edgeD e) := by
  refine (run_of (by rfl)).trans ?_
  unfold b_read_edge
  have w1 : cmpR .NotEq (.str "-") (.str "-") = .ok (.bool false) := rfl
  obtain ⟨W, hW⟩ : ∃ W, W = PyData.str (ewS e) := ⟨_, rfl⟩
  have f0 := ew_0 e
  have f1 := ew_1 e
  have f2 := ew_2 e
  have f3 := ew_len e
  rw [← hW] at f0 f1 f2 f3
  rw [← hW]
  simp [start1, f0, f1, f2, f3, w1, in_07 _ h1, in_07 _ h2, int_k _ (show e.1 < 10 by omega), int_k _ (show e.2 < 10 by omega), edgeD]
theorem isg_run (Φ : Calls) {c : Nat} {E : List (Nat × Nat)} (G : G01 c E) : runB 1 5 b_is_graph Φ [grD c E] = .ok (.bool true) := by
  refine (run_of (by rfl)).trans ?_
  unfold b_is_graph
  have h1 := G.c1
  have h8 := G.c8
  have hs := ss_edgesT G.g G.c8 G.l
  have hne : cmpR .NotEq (.list (E.map edgeD)) (.list (E.map edgeD)) = .ok (.bool false) := by
    rw [cmp_neL (enc_e 0) (by omega) E E, decide_eq_true rfl]; rfl
  obtain ⟨R, hR⟩ : ∃ R, R = E.map edgeD := ⟨_, rfl⟩
  have hl1 : ¬ c < 1 := by omega
  have hl8 : ¬ 8 < c := by omega
  simp [start1, grD, hl1, hl8, hs, hne]
  refine for_EI (g := edgeD) (fun rest ρ => ∃ y3 y4, ρ = [some (false, .tuple [nD c, .tuple (E.map edgeD)]), some (false, nD c), some (false, .tuple (E.map edgeD)), y3, y4] ∧ ∀ e ∈ rest, e ∈ E) ⟨none, none, rfl, fun _ h => h⟩ ?_ ?_
  · rintro ⟨a, b⟩ rest ρ ⟨y3, y4, q, hr⟩
    subst q
    refine ⟨_, rfl, ?_⟩
    have h := G.g.lt _ (hr (a, b) (by simp))
    simp only at h
    simp [h.1, h.2]
    exact fun x y hx => hr (x, y) (by simp [hx])
  · rintro ρ ⟨y3, y4, q, hr⟩
    subst q
    simp
theorem len_app (x y : Str) : (x ++ y).length = x.length + y.length := by rw [len_tl, tl_app, List.length_append, ← len_tl, ← len_tl]
theorem grS_nil (c : Nat) : grS c [] = hdS c := by
  refine PySem.W.str_of_cps ?_
  unfold grS
  rw [TL.join_eq]
  have h : (Str.join " " [hdS c]).cps.toList = TL.joinL (TL.tl " ") ([hdS c].map TL.tl) := TL.tl_join " " [hdS c]
  show (Str.join " " [hdS c]).cps.toList = _
  rw [h]; rfl
theorem gok_len {c : Nat} {E : List (Nat × Nat)} (g : GOk c E) (hc : c ≤ 8) : E.length < 64 := by
  have : (0 :: E.map fun e => e.1 * 8 + e.2).Nodup := by
    refine List.nodup_cons.mpr ⟨fun h => ?_, List.pairwise_map.mpr (g.so.imp_of_mem fun {a b} ha hb h z => ?_)⟩
    · obtain ⟨e, he, q⟩ := List.mem_map.mp h
      have := g.lt e he
      omega
    · have := g.lt a ha
      have := g.lt b hb
      unfold ltE at h
      omega
  have h2 := nodup_len (c := 64) this fun x hx => by
    rcases List.mem_cons.mp hx with rfl | hx
    · omega
    · obtain ⟨e, he, rfl⟩ := List.mem_map.mp hx
      have := g.lt e he
      omega
  rw [List.length_cons, List.length_map] at h2
  omega
end Pv

end
section
namespace Pv
open PySem

/-! ### k33: gluing -/
structure PcOk (c : Nat) (E : List (Nat × Nat)) (B : List Nat) : Prop where
  g : GOk c E
  c8 : c ≤ 8
  nd : B.Nodup
  lt : ∀ x ∈ B, x < c
def othB (B : List Nat) (c : Nat) : List Nat := (List.range c).filter fun v => !decide (v ∈ B)
def nmP (B : List Nat) (c : Nat) : List Nat := B ++ othB B c
theorem mem_oth {B : List Nat} {c v : Nat} : v ∈ othB B c ↔ v < c ∧ v ∉ B := by
  unfold othB
  rw [List.mem_filter, List.mem_range]
  simp
theorem nd_oth {B : List Nat} {c : Nat} : (othB B c).Nodup := List.Pairwise.filter _ List.nodup_range
theorem PcOk.nm {c : Nat} {E : List (Nat × Nat)} {B : List Nat} (h : PcOk c E B) : (nmP B c).Perm (List.range c) := by
  refine (List.perm_ext_iff_of_nodup ?_ List.nodup_range).mpr fun v => ?_
  · unfold nmP
    rw [List.nodup_append]
    refine ⟨h.nd, nd_oth, fun a ha b hb q => ?_⟩
    subst q
    exact (mem_oth.mp hb).2 ha
  · unfold nmP
    rw [List.mem_append, mem_oth, List.mem_range]
    constructor
    · rintro (q | q)
      · exact h.lt v q
      · exact q.1
    · intro q
      by_cases z : v ∈ B
      · exact .inl z
      · exact .inr ⟨q, z⟩
theorem PcOk.len {c : Nat} {E : List (Nat × Nat)} {B : List Nat} (h : PcOk c E B) : (nmP B c).length = c := by rw [h.nm.length_eq, List.length_range]
end Pv

end
section
namespace Pv
open PySem

/-! ### k33: the law -/
/-! a piece -/
end Pv

end
section
namespace Pv
open PySem

/-! ### k23: texts of sentences -/
def isNm (w : Str) : Bool := w.length == 1 && decide (w.cps.toList.headD 0 ∈ ("abcdefghijklmnopqrstuvwxyz" : Str).cps.toList)
structure GdSn (s : Sn) : Prop where
  al : AllN (fun z => isNm z = true) s
  at3 : AtLt s 3
/-! join, split -/
theorem spl_len (l : List Nat) : ∀ acc : List Nat, (TL.spl [32] 0 acc l).length = l.count 32 + 1 := by
  induction l with
  | nil => intro acc; rw [TL.spl_nil]; rfl
  | cons c l ih =>
    intro acc
    by_cases h : c = 32
    · subst h
      rw [TL.spl_hit (by exact TL.pre_self [32] l)]
      rw [List.length_cons]
      show (TL.spl [32] 0 [] l).length + 1 = _
      rw [ih, List.count_cons_self]
    · rw [TL.spl_miss (TL.pre_of_head [] l h), ih, List.count_cons_of_ne h]
theorem joinL_cons {S p : List Nat} {ps : List (List Nat)} (h : ps ≠ []) : TL.joinL S (p :: ps) = p ++ (S ++ TL.joinL S ps) := by
  cases ps with
  | nil => exact absurd rfl h
  | cons q r => rfl
theorem spl_join32 (l : List Nat) : ∀ acc : List Nat, TL.joinL [32] (TL.spl [32] 0 acc l) = acc ++ l := by
  induction l with
  | nil => intro acc; rw [TL.spl_nil]; simp [TL.joinL]
  | cons c l ih =>
    intro acc
    by_cases h : c = 32
    · subst h
      rw [TL.spl_hit (by exact TL.pre_self [32] l)]
      have hne : TL.spl [32] 0 [] l ≠ [] := fun e => by have := spl_len l []; rw [e] at this; simp at this
      show TL.joinL [32] (acc :: TL.spl [32] 0 [] l) = _
      rw [joinL_cons hne, ih]
      simp
    · rw [TL.spl_miss (TL.pre_of_head [] l h), ih]; simp
theorem sp_split (t : Str) : (Txt.split t " ").map TL.tl = TL.spl [32] 0 [] t.cps.toList := TL.split_spl t " " (by show [32] ≠ []; simp) (TL.kind_ok (by rw [← Array.all_toList]; rfl))
theorem sp_len (t : Str) : (Txt.split t " ").length = t.cps.toList.count 32 + 1 := by
  have := congrArg List.length (sp_split t)
  rw [List.length_map, spl_len] at this
  exact this
theorem tl_joinT (ps : List Str) : (Txt.join " " ps).cps.toList = TL.joinL [32] (ps.map TL.tl) := by
  rw [TL.join_eq]
  exact TL.tl_join " " ps
theorem sp_join (t : Str) : Txt.join " " (Txt.split t " ") = t := by
  refine PySem.W.str_of_cps ?_
  rw [tl_joinT, sp_split, spl_join32]; rfl
end Pv

end
section
namespace Pv
open PySem

/-! ### k23: reading -/
@[simp] theorem ex_rais (x : Str) : ex (S.rais x) = (fun _ ρ => .ex x ρ) := id rfl
structure WOk (W : List Str) : Prop where
  len : W.length ≤ 1000
  wd : ∀ w ∈ W, w.length ≤ 100000
theorem str_len {w : Str} (h : w.length ≤ 100000) : bltop .len [.str w] = some (nD w.length) := by
  show (if sm w.length then some (PyData.int w.length) else none) = _
  rw [if_pos (show sm w.length = true from decide_eq_true (by omega))]; rfl
theorem nin_str {w z : Str} (h : w.length = 1) : cmpR .NotIn (.str w) (.str z) = .ok (.bool (!decide (w.cps.toList.headD 0 ∈ z.cps.toList))) := by
  apply cmpR_of
  show (if w.length == 1 then some (!decide (w.cps.toList.headD 0 ∈ z.cps.toList)) else none) = _
  rw [if_pos (by rw [h]; rfl)]
theorem spl_wlen (l : List Nat) : ∀ acc : List Nat, ∀ w ∈ TL.spl [32] 0 acc l, w.length ≤ acc.length + l.length ∧ (32 ∉ acc → 32 ∉ w) := by
  induction l with
  | nil =>
    intro acc w h
    rw [TL.spl_nil, List.mem_singleton] at h
    subst h
    exact ⟨by simp, id⟩
  | cons c l ih =>
    intro acc w h
    by_cases q : c = 32
    · subst q
      rw [TL.spl_hit (by exact TL.pre_self [32] l)] at h
      rcases List.mem_cons.mp h with rfl | h
      · exact ⟨by simp, id⟩
      · have := ih [] w h
        exact ⟨by have := this.1; simp at this ⊢; omega, fun _ => this.2 (by simp)⟩
    · rw [TL.spl_miss (TL.pre_of_head [] l q)] at h
      have := ih _ w h
      rw [List.length_append] at this
      refine ⟨by have := this.1; simp at this ⊢; omega, fun z => this.2 ?_⟩
      simp [z]; exact fun z => q z.symm
theorem sp_wlen (t : Str) : ∀ w ∈ Txt.split t " ", w.length ≤ t.length ∧ 32 ∉ w.cps.toList := fun w h => by
  have : TL.tl w ∈ TL.spl [32] 0 [] t.cps.toList := by rw [← sp_split]; exact List.mem_map.mpr ⟨w, h, rfl⟩
  have := spl_wlen _ _ _ this
  rw [len_tl, len_tl]
  exact ⟨by simpa using this.1, this.2 (by simp)⟩
end Pv

end
section
namespace Pv
open PySem

/-! ### k23: writing, turning -/
theorem sum_le {ws : List Str} {m : Nat} (h : ∀ w ∈ ws, w.length ≤ m) : (ws.map (·.length)).sum ≤ m * ws.length := by
  induction ws with
  | nil => simp
  | cons w ws ih =>
    rw [List.map_cons, List.sum_cons, List.length_cons, Nat.mul_add, Nat.mul_one]
    have := ih fun x hx => h x (by simp [hx])
    have := h w (by simp)
    omega
/-! turning -/
end Pv

end
section
namespace Pv
open PySem

/-! ### k23: spoilt texts -/
end Pv

end
section
namespace Pv
open PySem

/-! ### k23: the law -/
end Pv

end
section
namespace Pv
open PySem

/-! ### k37: needs of less -/
abbrev Mz := List (Nat × Nat) → List Nat → (Nat → Prop) → Nat → Nat → Prop
/-! the program's numbers -/
end Pv

end
section
namespace Pv
open PySem

/-! ### k37: the law -/
end Pv

end
section
namespace Pv
open PySem

/-! ### k02: reading any text -/
def sgS (a : Nat) : Str := ⟨#[a]⟩
def s2S (a b : Nat) : Str := ⟨#[a, b]⟩
def s3S (a b c : Nat) : Str := ⟨#[a, b, c]⟩
theorem w3_of {w : Str} (h : w.length = 3) : ∃ a b c, w = s3S a b c := by
  rw [len_tl] at h
  match hw : w.cps.toList, h with
  | [a, b, c], _ => exact ⟨a, b, c, PySem.W.str_of_cps (by rw [hw]; rfl)⟩
theorem w2_of {w : Str} (h : w.length = 2) : ∃ a b, w = s2S a b := by
  rw [len_tl] at h
  match hw : w.cps.toList, h with
  | [a, b], _ => exact ⟨a, b, PySem.W.str_of_cps (by rw [hw]; rfl)⟩
theorem nin_sg (a : Nat) (z : Str) : cmpR .NotIn (.str (sgS a)) (.str z) = .ok (.bool (!decide (a ∈ z.cps.toList))) := nin_str (w := sgS a) rfl
theorem sg_inj {a b : Nat} : sgS a = sgS b ↔ a = b := by
  constructor
  · intro h
    have := congrArg (fun s : Str => s.cps.toList) h
    simpa [sgS] using this
  · rintro rfl; rfl
def SRdEa (Φ : Calls) : Prop := ∀ w : Str, w.length ≤ 100000 → Φ "read_edge" [.str w] = .ex "BadText" ∨ ∃ e : Nat × Nat, e.1 < 8 ∧ e.2 < 8 ∧ w = ewS e ∧ Φ "read_edge" [.str w] = .ok (edgeD e)
theorem dig07 {a : Nat} (h : a ∈ ("01234567" : Str).cps.toList) : ∃ i, i < 8 ∧ a = 48 + i := by
  have h : a ∈ [48, 49, 50, 51, 52, 53, 54, 55] := h
  refine ⟨a - 48, ?_, ?_⟩ <;> (simp at h; omega)
theorem dig18 {a : Nat} (h : a ∈ ("12345678" : Str).cps.toList) : ∃ i, 1 ≤ i ∧ i ≤ 8 ∧ a = 48 + i := by
  have h : a ∈ [49, 50, 51, 52, 53, 54, 55, 56] := h
  refine ⟨a - 48, ?_, ?_, ?_⟩ <;> (simp at h; omega)
theorem read_edge_any (Φ : Calls) {w : Str} (hw : w.length ≤ 100000) : runB 1 1 b_read_edge Φ [.str w] = .ex "BadText" ∨ ∃ e : Nat × Nat, e.1 < 8 ∧ e.2 < 8 ∧ w = ewS e ∧ runB 1 1 b_read_edge Φ [.str w] = .ok (edgeD e) := by
  have hl := str_len hw
  by_cases q : w.length = 3
  · obtain ⟨a, b, c, rfl⟩ := w3_of q
    by_cases qb : b = 45
    · by_cases qa : a ∈ ("01234567" : Str).cps.toList
      · by_cases qc : c ∈ ("01234567" : Str).cps.toList
        · obtain ⟨i, hi, rfl⟩ := dig07 qa
          obtain ⟨j, hj, rfl⟩ := dig07 qc
          subst qb
          exact .inr ⟨(i, j), hi, hj, rfl, reade_run Φ (e := (i, j)) hi hj⟩
        · refine .inl ?_
          rw [run_of (by rfl)]
          unfold b_read_edge
          subst qb
          have f0 : ixop (.str (s3S a 45 c)) (nD 0) = some (.str (sgS a)) := rfl
          have f1 : ixop (.str (s3S a 45 c)) (nD 1) = some (.str "-") := rfl
          have f2 : ixop (.str (s3S a 45 c)) (nD 2) = some (.str (sgS c)) := rfl
          have f3 : bltop .len [.str (s3S a 45 c)] = some (nD 3) := rfl
          have n0 := nin_sg a "01234567"
          have n2 := nin_sg c "01234567"
          rw [decide_eq_true qa] at n0
          rw [decide_eq_false qc] at n2
          obtain ⟨T, hT⟩ : ∃ T, T = PyData.str (s3S a 45 c) := ⟨_, rfl⟩
          rw [← hT] at f0 f1 f2 f3
          rw [← hT]
          simp [start1, f0, f1, f2, f3, neq_ss, n0, n2]
      · refine .inl ?_
        rw [run_of (by rfl)]
        unfold b_read_edge
        subst qb
        have f0 : ixop (.str (s3S a 45 c)) (nD 0) = some (.str (sgS a)) := rfl
        have f1 : ixop (.str (s3S a 45 c)) (nD 1) = some (.str "-") := rfl
        have f3 : bltop .len [.str (s3S a 45 c)] = some (nD 3) := rfl
        have n0 := nin_sg a "01234567"
        rw [decide_eq_false qa] at n0
        obtain ⟨T, hT⟩ : ∃ T, T = PyData.str (s3S a 45 c) := ⟨_, rfl⟩
        rw [← hT] at f0 f1 f3
        rw [← hT]
        simp [start1, f0, f1, f3, neq_ss, n0]
    · refine .inl ?_
      rw [run_of (by rfl)]
      unfold b_read_edge
      have f1 : ixop (.str (s3S a b c)) (nD 1) = some (.str (sgS b)) := rfl
      have f3 : bltop .len [.str (s3S a b c)] = some (nD 3) := rfl
      have n1 : cmpR .NotEq (.str (sgS b)) (.str "-") = .ok (.bool true) := by
        rw [neq_ss, decide_eq_false]; rfl
        exact fun z => qb (sg_inj.mp (show sgS b = sgS 45 from z))
      obtain ⟨T, hT⟩ : ∃ T, T = PyData.str (s3S a b c) := ⟨_, rfl⟩
      rw [← hT] at f1 f3
      rw [← hT]
      simp [start1, f1, f3, n1]
  · refine .inl ?_
    rw [run_of (by rfl)]
    unfold b_read_edge
    obtain ⟨T, hT⟩ : ∃ T, T = PyData.str w := ⟨_, rfl⟩
    rw [← hT] at hl
    rw [← hT]
    simp [start1, hl, q]
/-! is_graph, of any pairs -/
def SIsGa (Φ : Calls) : Prop := ∀ c E, 1 ≤ c → c ≤ 8 → (∀ e ∈ E, e.1 < 8 ∧ e.2 < 8) → E.length < 64 → (Φ "is_graph" [grD c E] = .ok (.bool true) ∧ G01 c E) ∨ Φ "is_graph" [grD c E] = .ok (.bool false)
theorem is_graph_any (Φ : Calls) {c : Nat} {E : List (Nat × Nat)} (h1 : 1 ≤ c) (h8 : c ≤ 8) (hE : ∀ e ∈ E, e.1 < 8 ∧ e.2 < 8) (hl : E.length < 64) : (runB 1 5 b_is_graph Φ [grD c E] = .ok (.bool true) ∧ G01 c E) ∨ runB 1 5 b_is_graph Φ [grD c E] = .ok (.bool false) := by
  obtain ⟨S, s1, s2⟩ := sorted_edges E
  have hs : ssR (.tuple (E.map edgeD)) = .ok (.list (S.map edgeD)) := by
    rw [ssR_seq (d := .tuple (E.map edgeD)) (d' := .list (E.map edgeD)) rfl]
    exact ss_edges (fun e he => by have := hE e he; omega) hl s1 s2
  have hne : cmpR .NotEq (.list (E.map edgeD)) (.list (S.map edgeD)) = .ok (.bool (!decide (E = S))) := cmp_neL (enc_e 0) (by omega) E S
  have hl1 : ¬ c < 1 := by omega
  have hl8 : ¬ 8 < c := by omega
  by_cases q : E = S
  · by_cases ha : ∀ e ∈ E, e.1 < e.2 ∧ e.2 < c
    · have G : G01 c E := ⟨⟨ha, by rw [q]; exact s1, by omega⟩, h1, h8, hl⟩
      exact .inl ⟨isg_run Φ G, G⟩
    · refine .inr ?_
      rw [run_of (by rfl)]
      unfold b_is_graph
      rw [decide_eq_true q] at hne
      obtain ⟨R, hR⟩ : ∃ R, R = S.map edgeD := ⟨_, rfl⟩
      rw [← hR] at hs hne
      simp [start1, grD, hl1, hl8, hs, hne]
      refine for_EI (g := edgeD) (fun rest ρ => ∃ y3 y4, ρ = [some (false, .tuple [nD c, .tuple (E.map edgeD)]), some (false, nD c), some (false, .tuple (E.map edgeD)), y3, y4] ∧ ∃ e ∈ rest, ¬ (e.1 < e.2 ∧ e.2 < c)) ⟨none, none, rfl, ?_⟩ ?_ ?_
      · exact Classical.byContradiction fun z => ha fun e he => Classical.byContradiction fun y => z ⟨e, he, y⟩
      · rintro ⟨a, b⟩ rest ρ ⟨y3, y4, e0, e, he, hb⟩
        subst e0
        refine ⟨_, rfl, ?_⟩
        by_cases h : a < b ∧ b < c
        · have hr : e ∈ rest := by
            rcases List.mem_cons.mp he with z | z
            · subst z; exact absurd h hb
            · exact z
          simp [h.1, h.2]
          exact ⟨e.1, e.2, hr, by simpa using fun z => Nat.le_of_not_lt fun y => hb ⟨z, y⟩⟩
        · by_cases h2 : a < b
          · have h3 : ¬ b < c := fun z => h ⟨h2, z⟩
            simp [h2, h3]
          · simp [h2]
      · rintro ρ ⟨y3, y4, e0, e, he, _⟩
        cases he
  · refine .inr ?_
    rw [run_of (by rfl)]
    unfold b_is_graph
    rw [decide_eq_false q] at hne
    obtain ⟨R, hR⟩ : ∃ R, R = S.map edgeD := ⟨_, rfl⟩
    rw [← hR] at hs hne
    simp [start1, grD, hl1, hl8, hs, hne]
/-! read_graph -/
theorem grS_leneq (c : Nat) (E : List (Nat × Nat)) : (grS c E).length = 4 * E.length + 2 := by
  have key : ∀ (R D : List (Nat × Nat)), (grS c (D ++ R)).length = (grS c D).length + 4 * R.length := by
    intro R
    induction R with
    | nil => intro D; simp
    | cons e R ih =>
      intro D
      have : D ++ e :: R = (D ++ [e]) ++ R := by simp
      rw [this, ih, grS_snoc]
      have l1 : (" " : Str).length = 1 := by decide
      have l2 : ("-" : Str).length = 1 := by decide
      have l3 : ∀ k, (dgS k).length = 1 := fun _ => rfl
      rw [len_app, len_app, len_app, len_app, l1, l2, l3, l3, List.length_cons]
      omega
  have := key E []
  rw [List.nil_append, grS_nil] at this
  rw [this]
  show 2 + _ = _
  omega
theorem lcX_any {asg : D → Res Env} {elt : Env → Res D} (h : ∀ w : Str, w.length ≤ 1000 → ∃ ρ', asg (.str w) = .ok ρ' ∧ (elt ρ' = .ex "BadText" ∨ ∃ e : Nat × Nat, e.1 < 8 ∧ e.2 < 8 ∧ w = ewS e ∧ elt ρ' = .ok (edgeD e))) :
    ∀ ws : List Str, (∀ w ∈ ws, w.length ≤ 1000) → lcLX asg elt (ws.map .str) = .ex "BadText" ∨ ∃ E : List (Nat × Nat), ws = E.map ewS ∧ (∀ e ∈ E, e.1 < 8 ∧ e.2 < 8) ∧ lcLX asg elt (ws.map .str) = .ok (E.map edgeD)
  | [], _ => .inr ⟨[], rfl, by simp, rfl⟩
  | w :: ws, hw => by
    obtain ⟨ρ', e1, e2⟩ := h w (hw w (by simp))
    have hc : lcLX asg elt ((w :: ws).map .str) = (elt ρ' >>= fun y => lcLX asg elt (ws.map .str) >>= fun r => pure (y :: r)) := by
      rw [List.map_cons, lcLX, e1]; rfl
    rw [hc]
    rcases e2 with e2 | ⟨e, a1, a2, a3, e2⟩
    · rw [e2]; exact .inl rfl
    · rw [e2]
      rcases lcX_any h ws fun x hx => hw x (by simp [hx]) with q | ⟨E, b1, b2, b3⟩
      · refine .inl ?_
        show (lcLX asg elt (ws.map .str) >>= fun r => pure (edgeD e :: r)) = _
        rw [q]; rfl
      · refine .inr ⟨e :: E, by rw [a3, b1]; rfl, fun x hx => ?_, ?_⟩
        · rcases List.mem_cons.mp hx with rfl | hx
          · exact ⟨a1, a2⟩
          · exact b2 x hx
        · show (lcLX asg elt (ws.map .str) >>= fun r => pure (edgeD e :: r)) = _
          rw [b3]; rfl
def SRdGa (Φ : Calls) : Prop := ∀ t : Str, t.length ≤ 250 → Φ "read_graph" [.str t] = .ex "BadText" ∨ ∃ c E, G01 c E ∧ t = grS c E ∧ Φ "read_graph" [.str t] = .ok (grD c E)
theorem read_graph_any {Φ : Calls} (h1 : SRdEa Φ) (h2 : SIsGa Φ) {t : Str} (ht : t.length ≤ 250) : runB 1 4 b_read_graph_v2 Φ [.str t] = .ex "BadText" ∨ ∃ c E, G01 c E ∧ t = grS c E ∧ runB 1 4 b_read_graph_v2 Φ [.str t] = .ok (grD c E) := by
  rw [run_of (by rfl)]
  unfold b_read_graph_v2
  obtain ⟨W, hW⟩ : ∃ W, W = Txt.split t " " := ⟨_, rfl⟩
  have hsp : splitR (.str t) (.ok (.str " ")) = .ok (txL W) := by rw [splitR_s (by decide) (by omega), hW]; rfl
  have hj : Txt.join " " W = t := by rw [hW]; exact sp_join t
  have hwl : ∀ w ∈ W, w.length ≤ 250 := fun w hw => by have := (sp_wlen t w (hW ▸ hw)).1; omega
  have hlen : W.length = t.cps.toList.count 32 + 1 := by rw [hW, sp_len]
  obtain ⟨ST, hST⟩ : ∃ S, S = PyData.str t := ⟨_, rfl⟩
  rw [← hST] at hsp ⊢
  match W, hlen, hwl, hsp, hj with
  | [], hlen, _, _, _ => simp at hlen
  | w0 :: ws, hlen, hwl, hsp, hj =>
    have hx0 : ixop (txL (w0 :: ws)) (nD 0) = some (.str w0) := by
      show ixop (.list _) _ = _
      rw [ix_l]; rfl
    have hs1 : slop (txL (w0 :: ws)) (some 1) none = some (.list (ws.map .str)) := by
      have : slop (.list ((w0 :: ws).map PyData.str)) (some ((1 : Nat) : Int)) none = some (.list (((w0 :: ws).map PyData.str).drop 1)) := cut_drop
      exact this
    have hl0 := str_len (w := w0) (by have := hwl w0 (by simp); omega)
    obtain ⟨TW, hTW⟩ : ∃ T, T = txL (w0 :: ws) := ⟨_, rfl⟩
    rw [← hTW] at hsp hx0 hs1
    by_cases q : w0.length = 2
    · obtain ⟨a, b, rfl⟩ := w2_of q
      have f0 : ixop (.str (s2S a b)) (nD 0) = some (.str (sgS a)) := rfl
      have f1 : ixop (.str (s2S a b)) (nD 1) = some (.str (sgS b)) := rfl
      have f2 : bltop .len [.str (s2S a b)] = some (nD 2) := rfl
      by_cases qb : b = 58
      · by_cases qa : a ∈ ("12345678" : Str).cps.toList
        · obtain ⟨c, c1, c8, rfl⟩ := dig18 qa
          subst qb
          have n1 : cmpR .NotEq (.str (sgS 58)) (.str ":") = .ok (.bool false) := by
            rw [neq_ss, decide_eq_true (show sgS 58 = ":" from rfl)]; rfl
          have n0 : cmpR .NotIn (.str (sgS (48 + c))) (.str "12345678") = .ok (.bool false) := in_18 c c1 (by omega)
          have hint : bltop .int [.str (sgS (48 + c))] = some (nD c) := int_k c (by omega)
          obtain ⟨W0, hW0⟩ : ∃ T, T = PyData.str (s2S (48 + c) 58) := ⟨_, rfl⟩
          rw [← hW0] at f0 f1 f2 hx0
          have hwl2 : ws.length ≤ 1000000 := by
            have : t.cps.toList.count 32 ≤ t.cps.toList.length := List.count_le_length
            rw [← len_tl] at this
            rw [List.length_cons] at hlen
            omega
          have hlc : ∀ y : Option (Bool × D), lcXE [3] (.var 3) (evi (.val (.slc (.varB 1) (.some (.cst (.int 1))) .none))) (ev (.call "read_edge" (.cons (.var 3) .nil))) Φ [some (false, ST), some (false, TW), none, y] = .ex "BadText" ∨ ∃ E : List (Nat × Nat), ws = E.map ewS ∧ (∀ e ∈ E, e.1 < 8 ∧ e.2 < 8) ∧ lcXE [3] (.var 3) (evi (.val (.slc (.varB 1) (.some (.cst (.int 1))) .none))) (ev (.call "read_edge" (.cons (.var 3) .nil))) Φ [some (false, ST), some (false, TW), none, y] = .ok (.list (E.map edgeD)) := fun y => by
            have hi : evi (.val (.slc (.varB 1) (.some (.cst (.int 1))) .none)) Φ [some (false, ST), some (false, TW), none, y] = .ok (ws.map .str) := by simp [hs1]
            have key := lcX_any (asg := fun d => asgT (.var 3) d (wipeE [some (false, ST), some (false, TW), none, y] [3])) (elt := ev (.call "read_edge" (.cons (.var 3) .nil)) Φ) (fun w hw => by
              refine ⟨[some (false, ST), some (false, TW), none, some (false, .str w)], rfl, ?_⟩
              rcases h1 w (by omega) with e | ⟨ee, a1, a2, a3, e⟩
              · exact .inl (by simp [e])
              · exact .inr ⟨ee, a1, a2, a3, by simp [e]⟩) ws fun w hw => by have := hwl w (by simp [hw]); omega
            have hE : ∀ r, lcLX (fun d => asgT (.var 3) d (wipeE [some (false, ST), some (false, TW), none, y] [3])) (ev (.call "read_edge" (.cons (.var 3) .nil)) Φ) (ws.map .str) = r → lcXE [3] (.var 3) (evi (.val (.slc (.varB 1) (.some (.cst (.int 1))) .none))) (ev (.call "read_edge" (.cons (.var 3) .nil))) Φ [some (false, ST), some (false, TW), none, y] = (r >>= fun r => pure (.list r)) := fun r hr => by
              unfold lcXE
              rw [hi, Res.ok_bind]
              unfold sm
              rw [if_pos (by rw [List.length_map]; exact decide_eq_true hwl2), hr]
            rcases key with k | ⟨E, b1, b2, b3⟩
            · exact .inl (hE _ k)
            · exact .inr ⟨E, b1, b2, hE _ b3⟩
          have hlc := hlc none
          simp at hlc
          rcases hlc with hlc | ⟨E, b1, b2, b3⟩
          · refine .inl ?_
            simp [start1, hsp, hx0, f0, f1, f2, n0, n1, hint, hlc]
          · have b2' : ∀ e ∈ E, e.1 < 8 ∧ e.2 < 8 := fun e he => b2 e.1 e.2 he
            have htx : t = grS c E := by rw [← hj, b1]; rfl
            have hEl : E.length < 64 := by
              have := grS_leneq c E
              rw [← htx] at this
              omega
            rcases h2 c E c1 c8 b2' hEl with ⟨g, G⟩ | g
            · refine .inr ⟨c, E, G, htx, ?_⟩
              have g : Φ "is_graph" [.tuple [nD c, .tuple (E.map edgeD)]] = .ok (.bool true) := g
              simp [start1, hsp, hx0, f0, f1, f2, n0, n1, hint, b3, g, grD]
            · refine .inl ?_
              have g : Φ "is_graph" [.tuple [nD c, .tuple (E.map edgeD)]] = .ok (.bool false) := g
              simp [start1, hsp, hx0, f0, f1, f2, n0, n1, hint, b3, g]
        · refine .inl ?_
          subst qb
          have n1 : cmpR .NotEq (.str (sgS 58)) (.str ":") = .ok (.bool false) := by
            rw [neq_ss, decide_eq_true (show sgS 58 = ":" from rfl)]; rfl
          have n0 := nin_sg a "12345678"
          rw [decide_eq_false qa] at n0
          obtain ⟨W0, hW0⟩ : ∃ T, T = PyData.str (s2S a 58) := ⟨_, rfl⟩
          rw [← hW0] at f0 f1 f2 hx0
          simp [start1, hsp, hx0, f0, f1, f2, n0, n1]
      · refine .inl ?_
        have n1 : cmpR .NotEq (.str (sgS b)) (.str ":") = .ok (.bool true) := by
          rw [neq_ss, decide_eq_false]; rfl
          exact fun z => qb (sg_inj.mp (show sgS b = sgS 58 from z))
        obtain ⟨W0, hW0⟩ : ∃ T, T = PyData.str (s2S a b) := ⟨_, rfl⟩
        rw [← hW0] at f1 f2 hx0
        simp [start1, hsp, hx0, f1, f2, n1]
    · refine .inl ?_
      obtain ⟨W0, hW0⟩ : ∃ T, T = PyData.str w0 := ⟨_, rfl⟩
      rw [← hW0] at hl0 hx0
      simp [start1, hsp, hx0, hl0, q]
end Pv

end
section
namespace Pv
open PySem

/-! ### k02: the law -/
def SLTg (Φ : Calls) : Prop := ∀ c E, c < 10 → E.length ≤ 100 → (∀ e ∈ E, e.1 < 10 ∧ e.2 < 10) → Φ "_law_text" [grD c E] = .ok (.str (grS c E))
theorem law_textG_run (Φ : Calls) {c : Nat} {E : List (Nat × Nat)} (hc : c < 10) (hl : E.length ≤ 100) (hE : ∀ e ∈ E, e.1 < 10 ∧ e.2 < 10) : runB 1 4 b__law_text Φ [grD c E] = .ok (.str (grS c E)) := by
  refine (run_of (by rfl)).trans ?_
  unfold b__law_text
  have s1 := str_k c hc
  have a1 : binop .Add (.str (dgS c)) (.str ":") = some (.str (grS c [])) := by rw [add_ss (by show 1 + 1 ≤ _; omega), hd_app, grS_nil]
  have hix0 : ixop (grD c E) (nD 0) = some (nD c) := rfl
  have hix1 : ixop (grD c E) (nD 1) = some (.tuple (E.map edgeD)) := rfl
  obtain ⟨gD, hgD⟩ : ∃ gD, gD = grD c E := ⟨_, rfl⟩
  rw [← hgD] at hix0 hix1
  rw [← hgD]
  simp [start1, hix0, hix1, s1, a1]
  refine for_EI (g := edgeD) (fun rest ρ => ∃ (done : List (Nat × Nat)) (y2 y3 : Option Nat), done ++ rest = E ∧ ρ = [some (false, gD), some (false, .str (grS c done)), yN y2, yN y3]) ⟨[], none, none, rfl, rfl⟩ ?_ ?_
  · rintro ⟨a, b⟩ rest ρ ⟨done, y2, y3, e, q⟩
    subst q
    refine ⟨_, rfl, ?_⟩
    have h := hE (a, b) (by rw [← e]; simp)
    simp only at h
    have hdl : done.length ≤ 100 := by have := congrArg List.length e; rw [List.length_append] at this; omega
    have hgl := grS_leneq c done
    have f1 := str_k a h.1
    have f2 := str_k b h.2
    have l1 : (" " : Str).length = 1 := by decide
    have l2 : ("-" : Str).length = 1 := by decide
    have l3 : ∀ k, (dgS k).length = 1 := fun _ => rfl
    have b1 : binop .Add (.str (grS c done)) (.str " ") = some (.str (grS c done ++ (" " : Str))) := add_ss (by omega)
    have b2 : binop .Add (.str (grS c done ++ (" " : Str))) (.str (dgS a)) = some (.str (grS c done ++ (" " : Str) ++ dgS a)) := add_ss (by rw [len_app, l1, l3]; omega)
    have b3 : binop .Add (.str (grS c done ++ (" " : Str) ++ dgS a)) (.str "-") = some (.str (grS c done ++ (" " : Str) ++ dgS a ++ ("-" : Str))) := add_ss (by rw [len_app, len_app, l1, l2, l3]; omega)
    have b4 : binop .Add (.str (grS c done ++ (" " : Str) ++ dgS a ++ ("-" : Str))) (.str (dgS b)) = some (.str (grS c (done ++ [(a, b)]))) := by
      rw [add_ss (by rw [len_app, len_app, len_app, l1, l2, l3, l3]; omega), grS_snoc]
    simp [f1, f2, b1, b2, b3, b4]
    exact ⟨done ++ [(a, b)], by simpa using e, rfl, ⟨some a, rfl⟩, some b, rfl⟩
  · rintro ρ ⟨done, y2, y3, e, q⟩
    rw [List.append_nil] at e
    subst q e
    simp
theorem str_ix {w : Str} (hw : w.length ≤ 1000000) {i : Nat} (h : i < w.length) : ixop (.str w) (nD i) = some (.str (sgS (w.cps.toList[i]?.getD 0))) := by
  have e : ixop (.str w) (nD i) = (L2.atI w.cps.toList (i : Int)).map fun c => PyData.str ⟨#[c]⟩ := by
    show (if sm w.length then (L2.atI w.cps.toList (i : Int)).map fun c => PyData.str ⟨#[c]⟩ else none) = _
    rw [if_pos (show sm w.length = true from decide_eq_true hw)]
  rw [e, atI_nn, List.getElem?_eq_getElem (by rw [← len_tl]; exact h)]; rfl
theorem arr_len (l : List Nat) : (⟨l.toArray⟩ : Str).length = l.length := by rw [len_tl]
theorem cut_a {t : Str} (ht : t.length ≤ 1000) {a : Nat} (h : a ≤ t.length) : ∃ p : Str, slop (.str t) none (some (a : Int)) = some (.str p) ∧ p.length = a := by
  refine ⟨L2.cutS t none (some (a : Int)), ?_, ?_⟩
  · show (if sm t.length then some (PyData.str (L2.cutS t none (some (a : Int)))) else none) = _
    rw [if_pos (show sm t.length = true from decide_eq_true (by omega))]
  · unfold L2.cutS
    rw [arr_len, HT.sIx_none, HT.sIx_nat, List.drop_zero, Nat.sub_zero, List.length_take, ← len_tl]
    omega
theorem cut_b {t : Str} (ht : t.length ≤ 1000) {a : Nat} (h : a ≤ t.length) : ∃ p : Str, slop (.str t) (some (a : Int)) none = some (.str p) ∧ p.length = t.length - a := by
  refine ⟨L2.cutS t (some (a : Int)) none, ?_, ?_⟩
  · show (if sm t.length then some (PyData.str (L2.cutS t (some (a : Int)) none)) else none) = _
    rw [if_pos (show sm t.length = true from decide_eq_true (by omega))]
  · unfold L2.cutS
    rw [arr_len, HT.sIx_none, HT.sIx_nat, Nat.min_eq_left h, List.length_take, List.length_drop, ← len_tl]
    omega
def SSpG (Φ : Calls) : Prop := ∀ c E v, G01 c E → E.length ≤ 49 → ∃ t : Str, Φ "_law_spoilt" [grD c E, nD v] = .ok (.str t) ∧ t.length ≤ 250
theorem spoiltG_run {Φ : Calls} (h : SLTg Φ) {c : Nat} {E : List (Nat × Nat)} (v : Nat) (G : G01 c E) (hl : E.length ≤ 49) : ∃ t : Str, runB 2 6 b__law_spoilt_v5 Φ [grD c E, nD v] = .ok (.str t) ∧ t.length ≤ 250 := by
  suffices h : ∃ t : Str, endR (exs b__law_spoilt_v5 Φ (start1 6 [grD c E, nD v])) = .ok (.str t) ∧ t.length ≤ 250 by
    obtain ⟨t, e, h⟩ := h
    exact ⟨t, (run_of (by rfl)).trans e, h⟩
  unfold b__law_spoilt_v5
  have c8 := G.c8
  have hE : ∀ e ∈ E, e.1 < 10 ∧ e.2 < 10 := fun e he => by have := G.g.lt e he; omega
  have e0 := h c E (by omega) (by omega) hE
  have e5 := h c E.reverse (by omega) (by simp; omega) fun e he => hE e (List.mem_reverse.mp he)
  have e6 := h c (E ++ E.take 1) (by omega) (by simp; omega) fun e he => by
    rcases List.mem_append.mp he with q | q
    · exact hE e q
    · exact hE e (List.mem_of_mem_take q)
  have n0 := grS_leneq c E
  have n5 := grS_leneq c E.reverse
  have n6 := grS_leneq c (E ++ E.take 1)
  rw [List.length_reverse] at n5
  rw [List.length_append, List.length_take] at n6
  obtain ⟨t, ht⟩ : ∃ t, t = grS c E := ⟨_, rfl⟩
  rw [← ht] at e0 n0
  have hlen := str_len (w := t) (by omega)
  obtain ⟨a, ha⟩ : ∃ a, a = v / 8 % t.length := ⟨_, rfl⟩
  have hat : a < t.length := by rw [ha]; exact Nat.mod_lt _ (by omega)
  have d8 := bin_div (i := v) (show 0 < 8 by omega) (by omega)
  have m8 := bin_mod (i := v) (show 0 < 8 by omega)
  have d64 := bin_div (i := v) (show 0 < 64 by omega) (by omega)
  have m17 := bin_mod (i := v / 64) (show 0 < 17 by omega)
  have mt := bin_mod (i := v / 8) (show 0 < t.length by omega)
  have l17 := Nat.mod_lt (v / 64) (show 0 < 17 by omega)
  have hq17 : ("0123456789:- a~+_" : Str).length = 17 := by decide
  have hsg := str_ix (w := "0123456789:- a~+_") (by decide) (i := v / 64 % 17) (by omega)
  obtain ⟨x, hx⟩ : ∃ x, x = sgS (("0123456789:- a~+_" : Str).cps.toList[v / 64 % 17]?.getD 0) := ⟨_, rfl⟩
  rw [← hx] at hsg
  have xl : x.length = 1 := by rw [hx]; rfl
  obtain ⟨p, s1, p1⟩ := cut_a (t := t) (by omega) (a := a) (by omega)
  obtain ⟨r, s2, p2⟩ := cut_b (t := t) (by omega) (a := a + 1) (by omega)
  obtain ⟨r', s3, p3⟩ := cut_b (t := t) (by omega) (a := a) (by omega)
  have s2 : slop (.str t) (some ((a : Int) + 1)) none = some (.str r) := s2
  have b1 : binop .Add (.str p) (.str x) = some (.str (p ++ x)) := add_ss (by omega)
  have b2 : binop .Add (.str (p ++ x)) (.str r) = some (.str (p ++ x ++ r)) := add_ss (by rw [len_app]; omega)
  have b3 : binop .Add (.str p) (.str r) = some (.str (p ++ r)) := add_ss (by omega)
  have b4 : binop .Add (.str (p ++ x)) (.str r') = some (.str (p ++ x ++ r')) := add_ss (by rw [len_app]; omega)
  have x0 : ixop (grD c E) (nD 0) = some (nD c) := rfl
  have x1 : ixop (grD c E) (nD 1) = some (.tuple (E.map edgeD)) := rfl
  have hrev : trev (.tuple (E.map edgeD)) = .ok (.tuple (E.reverse.map edgeD)) := by
    show Res.ok (PyData.tuple (E.map edgeD).reverse) = _
    rw [List.map_reverse]
  have htk : slop (.tuple (E.map edgeD)) none (some 1) = some (.tuple ((E.take 1).map edgeD)) := by
    have : slop (.tuple (E.map edgeD)) none (some ((1 : Nat) : Int)) = some (.tuple ((E.map edgeD).take 1)) := cut_takeT
    rw [List.map_take]
    exact this
  have hct : binop .Add (.tuple (E.map edgeD)) (.tuple ((E.take 1).map edgeD)) = some (.tuple ((E ++ E.take 1).map edgeD)) := by
    rw [cat_t _ _ (by simp; omega), List.map_append]
  have e5 : Φ "_law_text" [.tuple [nD c, .tuple (E.reverse.map edgeD)]] = .ok (.str (grS c E.reverse)) := e5
  have e6 : Φ "_law_text" [.tuple [nD c, .tuple ((E ++ E.take 1).map edgeD)]] = .ok (.str (grS c (E ++ E.take 1))) := e6
  obtain ⟨k, hk⟩ : ∃ k, k = v % 8 := ⟨_, rfl⟩
  obtain ⟨GD, hGD⟩ : ∃ T, T = grD c E := ⟨_, rfl⟩
  obtain ⟨ET, hET⟩ : ∃ T, T = PyData.tuple (E.map edgeD) := ⟨_, rfl⟩
  obtain ⟨E5, hE5⟩ : ∃ T, T = PyData.tuple (E.reverse.map edgeD) := ⟨_, rfl⟩
  obtain ⟨E1, hE1⟩ : ∃ T, T = PyData.tuple ((E.take 1).map edgeD) := ⟨_, rfl⟩
  obtain ⟨E6, hE6⟩ : ∃ T, T = PyData.tuple ((E ++ E.take 1).map edgeD) := ⟨_, rfl⟩
  rw [← hGD] at e0 x0 x1
  rw [← hET] at x1 hrev htk hct
  rw [← hE5] at hrev e5
  rw [← hE1] at htk hct
  rw [← hE6] at hct e6
  rw [← hGD]
  by_cases k0 : k < 3
  · refine ⟨p ++ x ++ r, ?_, by rw [len_app, len_app]; omega⟩
    simp [start1, e0, d8, hlen, mt, ← ha, d64, m17, hsg, m8, ← hk, k0, s1, s2, b1, b2]
  · by_cases k3 : k = 3
    · refine ⟨p ++ r, ?_, by rw [len_app]; omega⟩
      simp [start1, e0, d8, hlen, mt, ← ha, d64, m17, hsg, m8, ← hk, k3, s1, s2, b3]
    · by_cases k4 : k = 4
      · refine ⟨p ++ x ++ r', ?_, by rw [len_app, len_app]; omega⟩
        simp [start1, e0, d8, hlen, mt, ← ha, d64, m17, hsg, m8, ← hk, k4, s1, s3, b1, b4]
      · by_cases k5 : k = 5
        · refine ⟨grS c E.reverse, ?_, by omega⟩
          simp [start1, e0, d8, hlen, mt, ← ha, d64, m17, hsg, m8, ← hk, k5, x0, x1, hrev, e5]
        · by_cases k6 : k = 6
          · refine ⟨grS c (E ++ E.take 1), ?_, by omega⟩
            simp [start1, e0, d8, hlen, mt, ← ha, d64, m17, hsg, m8, ← hk, k6, x0, x1, htk, hct, e6]
          · have d16 := bin_div (i := v) (show 0 < 16 by omega) (by omega)
            have m9 := bin_mod (i := v / 16) (show 0 < 9 by omega)
            have l9 := Nat.mod_lt (v / 16) (show 0 < 9 by omega)
            obtain ⟨n, hn⟩ : ∃ n, n = v / 16 % 9 := ⟨_, rfl⟩
            have rn : rng [nD n] = .ok ((List.range n).map nD) := rng_n (by omega)
            obtain ⟨g, hg⟩ : ∃ g : Nat → Str, g = fun k => sgS (("0123:- \n" : Str).cps.toList[v / (k + 3) % 8]?.getD 0) := ⟨_, rfl⟩
            have gl : ∀ k, (g k).length = 1 := fun k => by rw [hg]; rfl
            obtain ⟨ws, hws⟩ : ∃ ws, ws = (List.range n).map g := ⟨_, rfl⟩
            have hsum : (ws.map (·.length)).sum ≤ 1 * ws.length := sum_le fun w hw => by
              rw [hws] at hw
              obtain ⟨k, _, rfl⟩ := List.mem_map.mp hw
              rw [gl]; omega
            have wl : ws.length = n := by rw [hws]; simp
            have zl : ("" : Str).length = 0 := by decide
            have hj := joinR_tx "" (ws := ws) (by rw [zl]; omega)
            refine ⟨Txt.join "" ws, ?_, ?_⟩
            · simp [start1, e0, d8, hlen, mt, ← ha, d64, m17, hsg, m8, ← hk, k0, k3, k4, k5, k6]
              rw [lc_all (List.range n) nD (fun k => .str (g k))]
              · have e2 : (List.range n).map (fun k => PyData.str (g k)) = ws.map .str := by rw [hws, List.map_map]; rfl
                rw [e2]
                obtain ⟨T, hT⟩ : ∃ T, T = ws.map PyData.str := ⟨_, rfl⟩
                rw [← hT] at hj
                rw [← hT]
                simp [hj]
              · simp [d16, m9, ← hn, rn]
              · simp; omega
              · intro k _
                refine ⟨_, rfl, ?_⟩
                have dk := bin_div (i := v) (j := k + 3) (show 0 < k + 3 by omega) (by have := List.mem_range.mp ‹k ∈ List.range n›; omega)
                have m := bin_mod (i := v / (k + 3)) (show 0 < 8 by omega)
                have l := Nat.mod_lt (v / (k + 3)) (show 0 < 8 by omega)
                have hq8 : ("0123:- \n" : Str).length = 8 := by decide
                have hs := str_ix (w := "0123:- \n") (by decide) (i := v / (k + 3) % 8) (by omega)
                simp [wipeE, dk, m, hs, hg]
            · have h1 := joinL_len [] (ws.map TL.tl)
              have e : (ws.map TL.tl).map (·.length) = ws.map (·.length) := by
                rw [List.map_map]
                refine List.map_congr_left fun x _ => ?_
                exact (len_tl x).symm
              rw [e, List.length_map] at h1
              rw [len_tl, TL.join_eq]
              have h2 : (Str.join "" ws).cps.toList = TL.joinL [] (ws.map TL.tl) := TL.tl_join "" ws
              rw [h2]
              simp at h1
              omega
/-! the law's judge -/
def SGoodG (Φ : Calls) : Prop := ∀ c E, G01 c E → Φ "_law_good" [grD c E] = .ok (.bool true)
theorem good_run (Φ : Calls) {c : Nat} {E : List (Nat × Nat)} (G : G01 c E) : runB 1 2 b__law_good Φ [grD c E] = .ok (.bool true) := by
  refine (run_of (by rfl)).trans ?_
  unfold b__law_good
  have c1 := G.c1
  have c8 := G.c8
  have hl := G.l
  have x0 : ixop (grD c E) (nD 0) = some (nD c) := rfl
  have x1 : ixop (grD c E) (nD 1) = some (.tuple (E.map edgeD)) := rfl
  have i1 : isiR .tuple (grD c E) = .ok (.bool true) := rfl
  have i2 : isiR .tuple (.tuple (E.map edgeD)) = .ok (.bool true) := rfl
  have i3 : isiR .int (nD c) = .ok (.bool true) := rfl
  have ln : bltop .len [grD c E] = some (nD 2) := rfl
  have hli : bltop .list [.tuple (E.map edgeD)] = some (.list (E.map edgeD)) := rfl
  have hso : bltop .sorted [.tuple (E.map edgeD)] = some (.list (E.map edgeD)) := by
    have h1 : bltop .sorted [.tuple (E.map edgeD)] = bltop .sorted [.list (E.map edgeD)] := rfl
    rw [h1, sorted_e, List.mergeSort_of_pairwise (G.g.so.imp fun {a b} h => by unfold ltE at h; unfold leE; simp only [decide_eq_true_eq]; omega)]
  have hne : cmpR .NotEq (.list (E.map edgeD)) (.list (E.map edgeD)) = .ok (.bool false) := by
    rw [cmp_neL (enc_e 0) (by omega) E E, decide_eq_true rfl]; rfl
  have nd : E.Nodup := G.g.so.imp fun {a b} h q => by subst q; unfold ltE at h; omega
  have hcn : ∀ e ∈ E, ∃ n : Nat, n ≤ 1 ∧ cntR (.tuple (E.map edgeD)) (.ok (edgeD e)) = .ok (nD n) := fun e he => by
    refine ⟨(E.map edgeD).countP fun d => PyData.eqv d (edgeD e), ?_, ?_⟩
    · rw [List.countP_map]
      have : ((fun d => PyData.eqv d (edgeD e)) ∘ edgeD) = fun x => x == e := by
        funext x
        show PyData.eqv (edgeD x) (edgeD e) = _
        rw [(enc_e 0).eq x e]
        by_cases q : x = e
        · subst q; simp
        · rw [decide_eq_false q]; simp [q]
      rw [this]
      have := nd.count (a := e)
      unfold List.count at this
      rw [this]
      split <;> omega
    · show (if okD (.tuple (E.map edgeD)) && okD (edgeD e) then Res.ok (PyData.int (((E.map edgeD).countP fun d => PyData.eqv d (edgeD e) : Nat) : Int)) else .st) = _
      rw [show okD (.tuple (E.map edgeD)) = true from okN_ok ((enc_e 0).tup.ok E) (by omega), show okD (edgeD e) = true from okN_ok ((enc_e 0).ok e) (by omega)]
      rfl
  have hl1 : ¬ c < 1 := by omega
  have hl8 : ¬ 8 < c := by omega
  obtain ⟨GD, hGD⟩ : ∃ T, T = grD c E := ⟨_, rfl⟩
  obtain ⟨ET, hET⟩ : ∃ T, T = PyData.tuple (E.map edgeD) := ⟨_, rfl⟩
  have hitm : itemsOf ET = .ok (E.map edgeD) := by rw [hET]; rfl
  obtain ⟨EL, hEL⟩ : ∃ T, T = PyData.list (E.map edgeD) := ⟨_, rfl⟩
  rw [← hGD] at x0 x1 i1 ln
  rw [← hET] at x1 i2 hli hso
  rw [← hEL] at hli hso hne
  rw [← hGD]
  have hcn : ∀ e ∈ E, ∃ n : Nat, n ≤ 1 ∧ cntR ET (.ok (edgeD e)) = .ok (nD n) := by rw [hET]; exact hcn
  simp [start1, i1, ln, x1, i2, x0, i3, hl1, hl8, hli, hso, hne, hitm]
  refine for_EI (g := edgeD) (fun rest ρ => (∀ e ∈ rest, e ∈ E) ∧ ∃ y, ρ = [some (false, GD), y]) ⟨fun _ h => h, none, rfl⟩ ?_ ?_
  · rintro ⟨a, b⟩ rest ρ ⟨hr, y, q⟩
    subst q
    refine ⟨_, rfl, ?_⟩
    have he := hr (a, b) (by simp)
    have h := G.g.lt _ he
    simp only at h
    obtain ⟨n, n1, hn⟩ := hcn (a, b) he
    have j1 : isiR .tuple (edgeD (a, b)) = .ok (.bool true) := rfl
    have j2 : bltop .len [edgeD (a, b)] = some (nD 2) := rfl
    have j3 : ixop (edgeD (a, b)) (nD 0) = some (nD a) := rfl
    have j4 : ixop (edgeD (a, b)) (nD 1) = some (nD b) := rfl
    have n2 : ¬ 1 < n := by omega
    obtain ⟨ED, hED⟩ : ∃ T, T = edgeD (a, b) := ⟨_, rfl⟩
    rw [← hED] at j1 j2 j3 j4 hn
    rw [← hED]
    simp [j1, j2, j3, j4, x0, x1, hn, n2, h.1, h.2]
    exact fun x y hx => hr (x, y) (by simp [hx])
  · rintro ρ ⟨_, y, q⟩
    subst q
    simp
theorem tryR_fall {n : Option Str} {iE : Nat} {t : Itab} {x : Str} {h : Hs} {N : Nat} {ρ : Env} (hd : hrun t x h (List.replicate N none) = none) (hn : hnx t x h (List.replicate N none) = true) : tryR n iE t x h N (.ex x ρ) = .nx (hEnv n iE ρ) := by
  show (if x = x then (match hrun t x h (List.replicate N none) with | some d => SR.rt d | none => if hnx t x h (List.replicate N none) = true then .nx (hEnv n iE ρ) else .st) else SR.st) = _
  rw [if_pos rfl, hd]
  show (if hnx t x h (List.replicate N none) = true then SR.nx (hEnv n iE ρ) else .st) = _
  rw [if_pos hn]
theorem tryR_on {n : Option Str} {iE : Nat} {t : Itab} {x : Str} {h : Hs} {N : Nat} {ρ : Env} : tryR n iE t x h N (.nx ρ) = .nx ρ := id rfl
theorem hrun_02 : hrun [("BadText", "BadSentence", false), ("BadText", "BadText", true), ("BadText", "GroundError", true), ("BadText", "NoCatch", false), ("BadText", "NotHere", false)] "BadText" (.ifF (.orr (.not (.isi "GroundError")) (.one (.isiT ["BadSentence", "NoCatch", "NotHere"]))) (.nx)) (List.replicate 7 none) = none := by kernel_rfl
theorem hnx_02 : hnx [("BadText", "BadSentence", false), ("BadText", "BadText", true), ("BadText", "GroundError", true), ("BadText", "NoCatch", false), ("BadText", "NotHere", false)] "BadText" (.ifF (.orr (.not (.isi "GroundError")) (.one (.isiT ["BadSentence", "NoCatch", "NotHere"]))) (.nx)) (List.replicate 7 none) = true := by kernel_rfl
theorem gok_len49 {c : Nat} {E : List (Nat × Nat)} (g : GOk c E) (hc : c ≤ 8) : E.length ≤ 49 := by
  have : (E.map fun e => e.1 * 7 + (e.2 - 1)).Nodup := by
    refine List.pairwise_map.mpr (g.so.imp_of_mem fun {a b} ha hb h z => ?_)
    have := g.lt a ha
    have := g.lt b hb
    unfold ltE at h
    omega
  have h2 := nodup_len (c := 49) this fun x hx => by
    obtain ⟨e, he, rfl⟩ := List.mem_map.mp hx
    have := g.lt e he
    omega
  rw [List.length_map] at h2
  exact h2
theorem k02_run {Φ : Calls} (h1 : SMixed Φ) (h2 : SGraph Φ) (h3 : SSpG Φ) (h4 : SRdGa Φ) (h5 : SGoodG Φ) (h6 : SLTg Φ) (ns : List Int) (hn : ns.length ≤ 63) : runB 1 7 b_law_v43 Φ [.list (ns.map PyData.int)] = .ok (.bool true) := by
  refine (run_of (by rfl)).trans ?_
  unfold b_law_v43
  have hcut' : slop (.list (ns.map PyData.int)) none (some 30) = some (.list ((ns.take 30).map PyData.int)) := by
    have : slop (.list (ns.map PyData.int)) none (some ((30 : Nat) : Int)) = some (.list ((ns.take 30).map PyData.int)) := by rw [cut_take, List.map_take]
    exact this
  simp [start1, hcut', -List.map_take]
  rw [enum_map]
  refine for_EI (fun rest ρ => ∃ (y1 y2 y3 y4 y5 y6 : Option (Bool × D)), ρ = [some (false, .list (ns.map PyData.int)), y1, y2, y3, y4, y5, y6]) ⟨none, none, none, none, none, none, rfl⟩ ?_ ?_
  · rintro ⟨cell, turn⟩ rest ρ ⟨y1, y2, y3, y4, y5, y6, q⟩
    subst q
    refine ⟨_, rfl, ?_⟩
    obtain ⟨v, e1⟩ := h1 cell turn
    obtain ⟨c, E, e2, c1, c8, g⟩ := h2 (v / 1000) 8 (by omega) (by omega)
    have G : G01 c E := ⟨g, c1, c8, gok_len g c8⟩
    obtain ⟨t, e3, ht⟩ := h3 c E v G (gok_len49 g c8)
    have d1000 := bin_div (i := v) (show 0 < 1000 by omega) (by omega)
    obtain ⟨GD, hGD⟩ : ∃ T, T = grD c E := ⟨_, rfl⟩
    rw [← hGD] at e2 e3
    rcases h4 t ht with e4 | ⟨c', E', G', htx, e4⟩
    · have n0 : cmpR .IsNot .none .none = .ok (.bool false) := rfl
      simp [e1, d1000, e2, e3, ex_tryx, e4, tryR_fall hrun_02 hnx_02, hEnv, n0]
    · have e5 := h5 c' E' G'
      have e6 := h6 c' E' (by have := G'.c8; omega) (by have := G'.l; omega) fun e he => by have := G'.g.lt e he; have := G'.c8; omega
      rw [← htx] at e6
      have n0 : cmpR .IsNot (grD c' E') .none = .ok (.bool true) := rfl
      obtain ⟨GE, hGE⟩ : ∃ T, T = grD c' E' := ⟨_, rfl⟩
      rw [← hGE] at e4 e5 e6 n0
      simp [e1, d1000, e2, e3, ex_tryx, e4, tryR_on, n0, e5, e6, neq_ss]
  · rintro ρ ⟨y1, y2, y3, y4, y5, y6, q⟩
    subst q
    simp
end Pv

end
section
namespace Pv
open PySem PySem.Spec PyProof.Rows L2
/-! ### the text -/
def topS (i : Nat) : Stmt := PySem.Challenge.pw_havenorhunt_k02_graph_texts_refused.main.body.getD i (.Pass ⟨0, 0, 0, 0⟩)
abbrev st_read_edge : Stmt := topS 8
def d_read_edge : Fd := ⟨"read_edge", st_read_edge, ["word"], ["word"], b_read_edge⟩
abbrev st_read_graph : Stmt := topS 9
def d_read_graph : Fd := ⟨"read_graph", st_read_graph, ["text"], ["text", "words", "graph", "word"], b_read_graph_v2⟩
abbrev st_is_graph : Stmt := topS 10
def d_is_graph : Fd := ⟨"is_graph", st_is_graph, ["graph"], ["graph", "count", "edges", "first", "second"], b_is_graph⟩
abbrev st__law_mixed : Stmt := topS 12
def d__law_mixed : Fd := ⟨"_law_mixed", st__law_mixed, ["_law_cell", "_law_turn"], ["_law_cell", "_law_turn", "_law_value", "_law_first", "_law_second", "_law_third"], b__law_mixed⟩
abbrev st__law_graph : Stmt := topS 13
def d__law_graph : Fd := ⟨"_law_graph", st__law_graph, ["_law_value", "_law_most"], ["_law_value", "_law_most", "_law_count", "_law_thin", "_law_left", "_law_edges", "_law_second", "_law_first"], b__law_graph⟩
abbrev st__law_text : Stmt := topS 14
def d__law_text : Fd := ⟨"_law_text", st__law_text, ["_law_graph_here"], ["_law_graph_here", "_law_text_here", "_law_first", "_law_second"], b__law_text⟩
abbrev st__law_spoilt : Stmt := topS 15
def d__law_spoilt : Fd := ⟨"_law_spoilt", st__law_spoilt, ["_law_graph_here", "_law_value"], ["_law_graph_here", "_law_value", "_law_text_here", "_law_at", "_law_sign", "_law_k"], b__law_spoilt_v5⟩
abbrev st__law_good : Stmt := topS 16
def d__law_good : Fd := ⟨"_law_good", st__law_good, ["_law_graph_here"], ["_law_graph_here", "_law_edge"], b__law_good⟩
abbrev st_law : Stmt := topS 17
def d_law : Fd := ⟨"law", st_law, ["_law_script"], ["_law_script", "_law_turn", "_law_cell", "_law_value", "_law_text_here", "_law_graph_here", "e"], b_law_v43⟩
def TT : Tab := [d_read_edge, d_read_graph, d_is_graph, d__law_mixed, d__law_graph, d__law_text, d__law_spoilt, d__law_good, d_law]
def BB : Base := ⟨["enumerate", "int", "isinstance", "len", "list", "range", "reversed", "set", "sorted", "str", "tuple"], [("MOST_NODES", (.int 8))], ["BadText"], [("BadText", "BadSentence", false), ("BadText", "BadText", true), ("BadText", "GroundError", true), ("BadText", "NoCatch", false), ("BadText", "NotHere", false)]⟩
theorem find_read_edge : findT TT "read_edge" = some d_read_edge := by kernel_rfl
theorem ok_read_edge : FdOk TT BB d_read_edge := ⟨⟨rfl, rfl, rfl, by decide +kernel, rfl, by decide +kernel, by decide +kernel⟩, by kernel_rfl⟩
theorem find_read_graph : findT TT "read_graph" = some d_read_graph := by kernel_rfl
theorem ok_read_graph : FdOk TT BB d_read_graph := ⟨⟨rfl, rfl, rfl, by decide +kernel, rfl, by decide +kernel, by decide +kernel⟩, by kernel_rfl⟩
theorem find_is_graph : findT TT "is_graph" = some d_is_graph := by kernel_rfl
theorem ok_is_graph : FdOk TT BB d_is_graph := ⟨⟨rfl, rfl, rfl, by decide +kernel, rfl, by decide +kernel, by decide +kernel⟩, by kernel_rfl⟩
theorem find__law_mixed : findT TT "_law_mixed" = some d__law_mixed := by kernel_rfl
theorem ok__law_mixed : FdOk TT BB d__law_mixed := ⟨⟨rfl, rfl, rfl, by decide +kernel, rfl, by decide +kernel, by decide +kernel⟩, by kernel_rfl⟩
theorem find__law_graph : findT TT "_law_graph" = some d__law_graph := by kernel_rfl
theorem ok__law_graph : FdOk TT BB d__law_graph := ⟨⟨rfl, rfl, rfl, by decide +kernel, rfl, by decide +kernel, by decide +kernel⟩, by kernel_rfl⟩
theorem find__law_text : findT TT "_law_text" = some d__law_text := by kernel_rfl
theorem ok__law_text : FdOk TT BB d__law_text := ⟨⟨rfl, rfl, rfl, by decide +kernel, rfl, by decide +kernel, by decide +kernel⟩, by kernel_rfl⟩
theorem find__law_spoilt : findT TT "_law_spoilt" = some d__law_spoilt := by kernel_rfl
theorem ok__law_spoilt : FdOk TT BB d__law_spoilt := ⟨⟨rfl, rfl, rfl, by decide +kernel, rfl, by decide +kernel, by decide +kernel⟩, by kernel_rfl⟩
theorem find__law_good : findT TT "_law_good" = some d__law_good := by kernel_rfl
theorem ok__law_good : FdOk TT BB d__law_good := ⟨⟨rfl, rfl, rfl, by decide +kernel, rfl, by decide +kernel, by decide +kernel⟩, by kernel_rfl⟩
theorem find_law : findT TT "law" = some d_law := by kernel_rfl
theorem ok_law : FdOk TT BB d_law := ⟨⟨rfl, rfl, rfl, by decide +kernel, rfl, by decide +kernel, by decide +kernel⟩, by kernel_rfl⟩
theorem ok_all : ∀ d ∈ TT, FdOk TT BB d := AllP.mem ⟨ok_read_edge, ok_read_graph, ok_is_graph, ok__law_mixed, ok__law_graph, ok__law_text, ok__law_spoilt, ok__law_good, ok_law, trivial⟩
theorem known_mk {K : PySem.W.Frag} {h : Heap} {mg : Str → Option Value} (X : K.In h) (G : h.Ns mainGlobals mg) (F0 : FnFact K mg "read_edge" st_read_edge ["word"])
    (F1 : FnFact K mg "read_graph" st_read_graph ["text"])
    (F2 : FnFact K mg "is_graph" st_is_graph ["graph"])
    (F3 : FnFact K mg "_law_mixed" st__law_mixed ["_law_cell", "_law_turn"])
    (F4 : FnFact K mg "_law_graph" st__law_graph ["_law_value", "_law_most"])
    (F5 : FnFact K mg "_law_text" st__law_text ["_law_graph_here"])
    (F6 : FnFact K mg "_law_spoilt" st__law_spoilt ["_law_graph_here", "_law_value"])
    (F7 : FnFact K mg "_law_good" st__law_good ["_law_graph_here"])
    (F8 : FnFact K mg "law" st_law ["_law_script"])
    (z0 : PySem.W.nsIn K mainGlobals "enumerate" = some none) (z1 : PySem.W.nsIn K mainGlobals "int" = some none) (z2 : PySem.W.nsIn K mainGlobals "isinstance" = some none) (z3 : PySem.W.nsIn K mainGlobals "len" = some none) (z4 : PySem.W.nsIn K mainGlobals "list" = some none) (z5 : PySem.W.nsIn K mainGlobals "range" = some none) (z6 : PySem.W.nsIn K mainGlobals "reversed" = some none) (z7 : PySem.W.nsIn K mainGlobals "set" = some none) (z8 : PySem.W.nsIn K mainGlobals "sorted" = some none) (z9 : PySem.W.nsIn K mainGlobals "str" = some none) (z10 : PySem.W.nsIn K mainGlobals "tuple" = some none)
    (g0 : ∃ t, PySem.W.nsIn K mainGlobals "MOST_NODES" = some (some (.int 8 t))) (e0 : ExcIn K "BadText") (i0 : IsxIn K "BadText" "BadSentence" false) (i1 : IsxIn K "BadText" "BadText" true) (i2 : IsxIn K "BadText" "GroundError" true) (i3 : IsxIn K "BadText" "NoCatch" false) (i4 : IsxIn K "BadText" "NotHere" false) : Known K mg TT BB :=
  ⟨AllP.mem ⟨F0, F1, F2, F3, F4, F5, F6, F7, F8, trivial⟩, AllB.mem ⟨PySem.W.mg_none_of X G z0, PySem.W.mg_none_of X G z1, PySem.W.mg_none_of X G z2, PySem.W.mg_none_of X G z3, PySem.W.mg_none_of X G z4, PySem.W.mg_none_of X G z5, PySem.W.mg_none_of X G z6, PySem.W.mg_none_of X G z7, PySem.W.mg_none_of X G z8, PySem.W.mg_none_of X G z9, PySem.W.mg_none_of X G z10, trivial⟩, AllG.mem ⟨g0.elim fun t e => ⟨_, V.int _, PySem.W.mg_of X G e, ⟨t, rfl⟩, fun _ _ => .int _⟩, trivial⟩, AllB.mem ⟨exc_mk X G e0, trivial⟩, AllI.mem ⟨isx_mk X G i0, isx_mk X G i1, isx_mk X G i2, isx_mk X G i3, isx_mk X G i4, trivial⟩⟩
end Pv

end
section
namespace Pv
open PySem
theorem p_mixed (n : Nat) : SMixed (callAt TT (n + 1)) := fun cell turn => let ⟨v, e⟩ := law_mixed_run (callAt TT n) cell turn; ⟨v, (callAt_eq find__law_mixed).trans e⟩
theorem p_graph (n : Nat) : SGraph (callAt TT (n + 1)) := fun v most h1 h2 => let ⟨c, E, e, r⟩ := law_graph_run (callAt TT n) v most h1 h2; ⟨c, E, (callAt_eq find__law_graph).trans e, r⟩
theorem p_rdea (n : Nat) : SRdEa (callAt TT (n + 1)) := fun w hw => (callAt_eq find_read_edge).symm ▸ read_edge_any (callAt TT n) hw
theorem p_isga (n : Nat) : SIsGa (callAt TT (n + 1)) := fun c E a b d e => (callAt_eq find_is_graph).symm ▸ is_graph_any (callAt TT n) a b d e
theorem p_rdga (n : Nat) : SRdGa (callAt TT (n + 2)) := fun t ht => (callAt_eq find_read_graph).symm ▸ read_graph_any (p_rdea n) (p_isga n) ht
theorem p_ltg (n : Nat) : SLTg (callAt TT (n + 1)) := fun c E a b d => (callAt_eq find__law_text).trans (law_textG_run (callAt TT n) a b d)
theorem p_spg (n : Nat) : SSpG (callAt TT (n + 2)) := fun c E v G hl => let ⟨t, e, r⟩ := spoiltG_run (p_ltg n) v G hl; ⟨t, (callAt_eq find__law_spoilt).trans e, r⟩
theorem p_good (n : Nat) : SGoodG (callAt TT (n + 1)) := fun c E G => (callAt_eq find__law_good).trans (good_run (callAt TT n) G)
theorem law_plain : ∀ ns : List Int, ns.length ≤ 63 → callAt TT 5 "law" [.list (ns.map PySem.PyData.int)] = .ok (.bool true) := fun ns hn =>
  (callAt_eq find_law).trans (k02_run (p_mixed 3) (p_graph 3) (p_spg 2) (p_rdga 2) (p_good 3) (p_ltg 3) ns hn)
end Pv
open PySem PySem.W PyProof.Rows in
set_option maxHeartbeats 0 in
theorem PySem.Challenge.cw_havenorhunt_k02_graph_texts_refused_holds : PySem.Challenge.rw_havenorhunt_k02_graph_texts_refused.Holds := by
  w_on; o_law; k_head; (case hw => w_witness2)
  k_fill
  refine L2.walk_of (l := PySem.Challenge.rw_havenorhunt_k02_graph_texts_refused) (n := 63) (k := 5) (x := "_law_script") (CX := fun w => L2.CX PySem.Challenge.pw_havenorhunt_k02_graph_texts_refused w) (sp := fun _ => Pv.spLaw _ 63) rfl (by decide) rfl ⟨rfl, by decide, by decide⟩ (fun w h Y => PySem.W.kIn_of Y) ?F (fun _ _ a ns hl _ hS => ⟨a, ns, rfl, hS, hl, fun _ => rfl⟩) (fun _ _ _ _ _ h => by obtain ⟨_, _, _, _, _, _, _, _, _, _, _, _, z⟩ := h; exact z)
  case F =>
    intro w mg fa h KX G hmg
    have F0 : Pv.FnFact (L2.KOf KX) mg "read_edge" Pv.st_read_edge ["word"] := by
      refine' Pv.fact_mk KX G ?a ?l ?c ?k fun _ _ _ _ _ _ us hl => (match us, hl with | [_], _ => rfl)
      (case a => k_is); (case l => k_is); (case c => k_is); (case k => k_is)
    have F1 : Pv.FnFact (L2.KOf KX) mg "read_graph" Pv.st_read_graph ["text"] := by
      refine' Pv.fact_mk KX G ?a ?l ?c ?k fun _ _ _ _ _ _ us hl => (match us, hl with | [_], _ => rfl)
      (case a => k_is); (case l => k_is); (case c => k_is); (case k => k_is)
    have F2 : Pv.FnFact (L2.KOf KX) mg "is_graph" Pv.st_is_graph ["graph"] := by
      refine' Pv.fact_mk KX G ?a ?l ?c ?k fun _ _ _ _ _ _ us hl => (match us, hl with | [_], _ => rfl)
      (case a => k_is); (case l => k_is); (case c => k_is); (case k => k_is)
    have F3 : Pv.FnFact (L2.KOf KX) mg "_law_mixed" Pv.st__law_mixed ["_law_cell", "_law_turn"] := by
      refine' Pv.fact_mk KX G ?a ?l ?c ?k fun _ _ _ _ _ _ us hl => (match us, hl with | [_, _], _ => rfl)
      (case a => k_is); (case l => k_is); (case c => k_is); (case k => k_is)
    have F4 : Pv.FnFact (L2.KOf KX) mg "_law_graph" Pv.st__law_graph ["_law_value", "_law_most"] := by
      refine' Pv.fact_mk KX G ?a ?l ?c ?k fun _ _ _ _ _ _ us hl => (match us, hl with | [_, _], _ => rfl)
      (case a => k_is); (case l => k_is); (case c => k_is); (case k => k_is)
    have F5 : Pv.FnFact (L2.KOf KX) mg "_law_text" Pv.st__law_text ["_law_graph_here"] := by
      refine' Pv.fact_mk KX G ?a ?l ?c ?k fun _ _ _ _ _ _ us hl => (match us, hl with | [_], _ => rfl)
      (case a => k_is); (case l => k_is); (case c => k_is); (case k => k_is)
    have F6 : Pv.FnFact (L2.KOf KX) mg "_law_spoilt" Pv.st__law_spoilt ["_law_graph_here", "_law_value"] := by
      refine' Pv.fact_mk KX G ?a ?l ?c ?k fun _ _ _ _ _ _ us hl => (match us, hl with | [_, _], _ => rfl)
      (case a => k_is); (case l => k_is); (case c => k_is); (case k => k_is)
    have F7 : Pv.FnFact (L2.KOf KX) mg "_law_good" Pv.st__law_good ["_law_graph_here"] := by
      refine' Pv.fact_mk KX G ?a ?l ?c ?k fun _ _ _ _ _ _ us hl => (match us, hl with | [_], _ => rfl)
      (case a => k_is); (case l => k_is); (case c => k_is); (case k => k_is)
    have F8 : Pv.FnFact (L2.KOf KX) mg "law" Pv.st_law ["_law_script"] := by
      refine' Pv.fact_mk KX G ?a ?l ?c ?k fun _ _ _ _ _ _ us hl => (match us, hl with | [_], _ => rfl)
      (case a => k_is); (case l => k_is); (case c => k_is); (case k => k_is)
    have e0 := Pv.exc_in KX (x := "BadText") PySem.F.excBase_ValueError (by k_is) (by k_is) (by k_is) (by k_is) (by k_exc)
    have i0 := Pv.isx_own KX (x := "BadText") (y := "BadSentence") (r := false) (by k_is) (by k_is) (by k_is) (by k_is) (by k_is) (by k_is) (by k_is) (by k_is) (by k_is) (by k_is) (by k_is) (by k_is) (by kit_is)
    have i1 := Pv.isx_own KX (x := "BadText") (y := "BadText") (r := true) (by k_is) (by k_is) (by k_is) (by k_is) (by k_is) (by k_is) (by k_is) (by k_is) (by k_is) (by k_is) (by k_is) (by k_is) (by kit_is)
    have i2 := Pv.isx_own KX (x := "BadText") (y := "GroundError") (r := true) (by k_is) (by k_is) (by k_is) (by k_is) (by k_is) (by k_is) (by k_is) (by k_is) (by k_is) (by k_is) (by k_is) (by k_is) (by kit_is)
    have i3 := Pv.isx_own KX (x := "BadText") (y := "NoCatch") (r := false) (by k_is) (by k_is) (by k_is) (by k_is) (by k_is) (by k_is) (by k_is) (by k_is) (by k_is) (by k_is) (by k_is) (by k_is) (by kit_is)
    have i4 := Pv.isx_own KX (x := "BadText") (y := "NotHere") (r := false) (by k_is) (by k_is) (by k_is) (by k_is) (by k_is) (by k_is) (by k_is) (by k_is) (by k_is) (by k_is) (by k_is) (by k_is) (by kit_is)
    have kn := Pv.known_mk KX G F0 F1 F2 F3 F4 F5 F6 F7 F8 (by k_is) (by k_is) (by k_is) (by k_is) (by k_is) (by k_is) (by k_is) (by k_is) (by k_is) (by k_is) (by k_is) ⟨_, by k_is⟩ e0 i0 i1 i2 i3 i4
    exact Pv.law_headT Pv.ok_all kn Pv.find_law rfl hmg Pv.law_plain

end

