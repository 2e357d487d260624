import PyProof.Rows.All
import Wide.All
import OpenK.AllK
import Wide.FinOn
import HandS.ForMost
import HandS.Walk
import HandS.Deep
import HandS.TupAny
import HandS.TupLe
import HandS.Flow
import KE.KeyNested
import HandS.TupMul
import HandS.Wide
import HandS.IsInst
import PyProof.SumWalkG
import PyProof.Rows.TupAdd
import KE.SortData
import HandS.TupSets
import HandS.SetFor
import HandS.Conv
import HandS.Rev
import HandS.Zip
import KE.GoesEnum
import HandS.Style
import HandS.Strs
import HandS.Dict
import PyProof.AttrMissHeap
import HandS.Defaults
import HandS.Head0
import HandS.Head1
import HandS.Head2
import HandS.HeadEnd
import HandS.HeadHook1
import HandS.HeadHook2
import PySem.Challenge.RW_nonelearns_k94_whole_ends_and_middles
set_option Elab.async false
set_option linter.all false
set_option maxRecDepth 100000
namespace DL
open PySem PySem.Spec PyProof.Rows L2

abbrev D := PyData

/-- a slot: without a value, shared data, an object of its own, an object lent -/
inductive S where
  | un
  | val (d : D)
  | own (d : D)
  | bor (d : D)
abbrev En := List S

/-- an outcome -/
inductive R (α : Type) where
  | ok (a : α)
  | exc (c : Str) (d : D)
  | stuck
def R.bind {α β : Type} : R α → (α → R β) → R β
  | .ok a, f => f a
  | .exc c d, _ => .exc c d
  | .stuck, _ => .stuck
instance : Monad R where
  pure := R.ok
  bind := R.bind
def R.of {α : Type} : Option α → R α
  | some a => .ok a
  | none => .stuck
theorem R.bind_ok {α β : Type} {x : R α} {f : α → R β} {b : β} (h : R.bind x f = .ok b) : ∃ a, x = .ok a ∧ f a = .ok b := by
  cases x with
  | ok a => exact ⟨a, rfl, h⟩
  | exc c d => cases h
  | stuck => cases h
theorem R.of_ok {α : Type} {x : Option α} {a : α} (h : R.of x = .ok a) : x = some a := by
  cases x with
  | some b => cases h; rfl
  | none => cases h

/-- what a slot lets be read -/
def S.full : S → Option D
  | .un => none
  | .val d => some d
  | .own d => some d
  | .bor d => some d
def isTupD : D → Bool
  | .tuple _ => true
  | _ => false
/-- what a slot lets be read: no own tuple (it must be shared first) -/
def S.data : S → Option D
  | .un => none
  | .val d => some d
  | .own d => if isTupD d = true then none else some d
  | .bor d => if isTupD d = true then none else some d
/-- what a slot lets be shared: no dict -/
def S.shr : S → Option D
  | .val d => some d
  | .own d => match d with
    | .dict _ => none
    | d => some d
  | _ => none
/-- the object that a slot may change -/
def S.mine : S → Option D
  | .own d => some d
  | .bor d => some d
  | _ => none

/-! ### the abstract heap bears data -/
def KL (K : PySem.W.Frag) (a : Addr) (xs : List V) : Prop :=
  ∃ (o : Obj) (its : Array Value) (n : Nat), K.lookup a = some o ∧ o.cls = .type "list" ∧ o.dict = none ∧ o.data = .seq its n ∧ its.size ≤ sizeLine ∧ Vals xs its.toList
def KT (K : PySem.W.Frag) (a : Addr) (xs : List V) : Prop :=
  ∃ (o : Obj) (its : Array Value) (n : Nat), K.lookup a = some o ∧ o.cls = .type "tuple" ∧ o.data = .seq its n ∧ its.size ≤ sizeLine ∧ Vals xs its.toList

abbrev As := Addr → Prop
abbrev Sg := L2.St

mutual
/-- at v lies d; no list in it lies at an address of Y -/
inductive Rp (K : PySem.W.Frag) (Y : As) (H : Hp) : V → D → Prop where
  | non : Rp K Y H .non .none
  | bl (b : Bool) : Rp K Y H (.bl b) (.bool b)
  | int (i : Int) : Rp K Y H (.int i) (.int i)
  | str (x : Str) : Rp K Y H (.str x) (.str x)
  | lst {a : Addr} {xs : List V} {ds : List D} : Rd H a (.lst xs) → ¬ Y a → RpAll K Y H xs ds → Rp K Y H (.ref a) (.list ds)
  | tup {a : Addr} {xs : List V} {ds : List D} : Rd H a (.tup xs) → ¬ Y a → RpAll K Y H xs ds → Rp K Y H (.ref a) (.tuple ds)
  | lstK {a : Addr} {xs : List V} {ds : List D} : KL K a xs → RpAll K Y H xs ds → Rp K Y H (.ref a) (.list ds)
  | tupK {a : Addr} {xs : List V} {ds : List D} : KT K a xs → RpAll K Y H xs ds → Rp K Y H (.ref a) (.tuple ds)
inductive RpAll (K : PySem.W.Frag) (Y : As) (H : Hp) : List V → List D → Prop where
  | nil : RpAll K Y H [] []
  | cons {v : V} {vs : List V} {d : D} {ds : List D} : Rp K Y H v d → RpAll K Y H vs ds → RpAll K Y H (v :: vs) (d :: ds)
end

section
variable {ω : World} {K : PySem.W.Frag} {Y Y' : As} {H H' : Hp}
mutual
theorem Rp.move (kp : ∀ a o, H a = some o → ¬ Y a → H' a = some o) (yy : ∀ a, H a ≠ none → Y' a → Y a) : ∀ (d : D) (v : V), Rp K Y H v d → Rp K Y' H' v d
  | .none, _, .non => .non
  | .bool _, _, .bl b => .bl b
  | .int _, _, .int i => .int i
  | .str _, _, .str x => .str x
  | .list ds, _, .lst r ny al => by
    rcases r with r | ⟨o, r⟩
    · exact .lst (.inl (kp _ _ r ny)) (fun z => ny (yy _ (by rw [r]; exact fun q => nomatch q) z)) (RpAll.move kp yy ds _ al)
    · exact .lst (.inr ⟨o, kp _ _ r ny⟩) (fun z => ny (yy _ (by rw [r]; exact fun q => nomatch q) z)) (RpAll.move kp yy ds _ al)
  | .tuple ds, _, .tup r ny al => by
    rcases r with r | ⟨o, r⟩
    · exact .tup (.inl (kp _ _ r ny)) (fun z => ny (yy _ (by rw [r]; exact fun q => nomatch q) z)) (RpAll.move kp yy ds _ al)
    · exact .tup (.inr ⟨o, kp _ _ r ny⟩) (fun z => ny (yy _ (by rw [r]; exact fun q => nomatch q) z)) (RpAll.move kp yy ds _ al)
  | .list ds, _, .lstK k al => .lstK k (RpAll.move kp yy ds _ al)
  | .tuple ds, _, .tupK k al => .tupK k (RpAll.move kp yy ds _ al)
theorem RpAll.move (kp : ∀ a o, H a = some o → ¬ Y a → H' a = some o) (yy : ∀ a, H a ≠ none → Y' a → Y a) : ∀ (ds : List D) (vs : List V), RpAll K Y H vs ds → RpAll K Y' H' vs ds
  | [], _, .nil => .nil
  | d :: ds, _, .cons h t => .cons (Rp.move kp yy d _ h) (RpAll.move kp yy ds _ t)
end

mutual
theorem Rp.dp : ∀ (d : D) (v : V), Rp K Y H v d → Dp K H v d
  | .none, _, .non => .non
  | .bool _, _, .bl b => .bl b
  | .int _, _, .int i => .int i
  | .str _, _, .str x => .str x
  | .list ds, _, .lst r ny al => .lst (.inl r) (RpAll.dp ds _ al)
  | .tuple ds, _, .tup r ny al => .tup (.inl r) (RpAll.dp ds _ al)
  | .list ds, _, .lstK k al => .lst (.inr k) (RpAll.dp ds _ al)
  | .tuple ds, _, .tupK k al => .tup (.inr k) (RpAll.dp ds _ al)
theorem RpAll.dp : ∀ (ds : List D) (vs : List V), RpAll K Y H vs ds → DpAll K H vs ds
  | [], _, .nil => .nil
  | d :: ds, _, .cons h t => .cons (Rp.dp d _ h) (RpAll.dp ds _ t)
end

theorem RpAll.length : ∀ {vs : List V} {ds : List D}, RpAll K Y H vs ds → vs.length = ds.length
  | _, _, .nil => rfl
  | _, _, .cons _ t => by rw [List.length_cons, List.length_cons, RpAll.length t]
theorem RpAll.get : ∀ {vs : List V} {ds : List D} {i : Nat} {d : D}, RpAll K Y H vs ds → ds[i]? = some d → ∃ v, vs[i]? = some v ∧ Rp K Y H v d
  | _, _, i, _, .nil, e => by simp at e
  | _, _, 0, d, .cons h t, e => by simp at e; subst e; exact ⟨_, rfl, h⟩
  | _, _, i + 1, d, .cons h t, e => by
    obtain ⟨v, a, b⟩ := RpAll.get (i := i) (d := d) t (by simpa using e)
    exact ⟨v, by simpa using a, b⟩
theorem RpAll.getV : ∀ {vs : List V} {ds : List D} {i : Nat} {v : V}, RpAll K Y H vs ds → vs[i]? = some v → ∃ d, ds[i]? = some d ∧ Rp K Y H v d
  | _, _, i, _, .nil, e => by simp at e
  | _, _, 0, d, .cons h t, e => by simp at e; subst e; exact ⟨_, rfl, h⟩
  | _, _, i + 1, d, .cons h t, e => by
    obtain ⟨v, a, b⟩ := RpAll.getV (i := i) (v := d) t (by simpa using e)
    exact ⟨v, by simpa using a, b⟩
theorem RpAll.append : ∀ {vs ws : List V} {ds es : List D}, RpAll K Y H vs ds → RpAll K Y H ws es → RpAll K Y H (vs ++ ws) (ds ++ es)
  | _, _, _, _, .nil, h => h
  | _, _, _, _, .cons a t, h => .cons a (RpAll.append t h)
theorem RpAll.one {v : V} {d : D} (h : Rp K Y H v d) : RpAll K Y H [v] [d] := .cons h .nil
theorem RpAll.set : ∀ {vs : List V} {ds : List D} {v : V} {d : D} (i : Nat), RpAll K Y H vs ds → Rp K Y H v d → RpAll K Y H (vs.set i v) (ds.set i d)
  | _, _, _, _, _, .nil, _ => .nil
  | _, _, _, _, 0, .cons _ t, h => .cons h t
  | _, _, _, _, i + 1, .cons a t, h => .cons a (RpAll.set i t h)
theorem RpAll.take : ∀ {vs : List V} {ds : List D} (n : Nat), RpAll K Y H vs ds → RpAll K Y H (vs.take n) (ds.take n)
  | _, _, 0, _ => .nil
  | _, _, _ + 1, .nil => .nil
  | _, _, n + 1, .cons a t => .cons a (RpAll.take n t)
theorem RpAll.drop : ∀ {vs : List V} {ds : List D} (n : Nat), RpAll K Y H vs ds → RpAll K Y H (vs.drop n) (ds.drop n)
  | _, _, 0, h => h
  | _, _, _ + 1, .nil => .nil
  | _, _, n + 1, .cons _ t => RpAll.drop n t
theorem RpAll.reverse : ∀ {vs : List V} {ds : List D}, RpAll K Y H vs ds → RpAll K Y H vs.reverse ds.reverse
  | _, _, .nil => .nil
  | _, _, .cons a t => by
    rw [List.reverse_cons, List.reverse_cons]
    exact (RpAll.reverse t).append (.one a)
theorem RpAll.rep {vs : List V} {ds : List D} (h : RpAll K Y H vs ds) : ∀ k : Nat, RpAll K Y H (List.replicate k vs).flatten (List.replicate k ds).flatten
  | 0 => .nil
  | k + 1 => by
    rw [List.replicate_succ, List.replicate_succ, List.flatten_cons, List.flatten_cons]
    exact h.append (RpAll.rep h k)
theorem Rp.int_inv {v : V} {i : Int} (h : Rp K Y H v (.int i)) : v = .int i := by cases h; rfl
theorem Rp.bool_inv {v : V} {b : Bool} (h : Rp K Y H v (.bool b)) : v = .bl b := by cases h; rfl
theorem Rp.none_inv {v : V} (h : Rp K Y H v .none) : v = .non := by cases h; rfl
theorem Rp.str_inv {v : V} {x : Str} (h : Rp K Y H v (.str x)) : v = .str x := by cases h; rfl
theorem Rp.list_inv {v : V} {ds : List D} (h : Rp K Y H v (.list ds)) : ∃ a xs, v = .ref a ∧ SqL K H a xs ∧ RpAll K Y H xs ds := by
  cases h with
  | lst r _ al => exact ⟨_, _, rfl, .inl r, al⟩
  | lstK k al => exact ⟨_, _, rfl, .inr k, al⟩
theorem Rp.tuple_inv {v : V} {ds : List D} (h : Rp K Y H v (.tuple ds)) : ∃ a xs, v = .ref a ∧ SqT K H a xs ∧ RpAll K Y H xs ds := by
  cases h with
  | tup r _ al => exact ⟨_, _, rfl, .inl r, al⟩
  | tupK k al => exact ⟨_, _, rfl, .inr k, al⟩

/-! ### dicts: a key is a tuple, nested, of ints, texts, bools, None -/
mutual
def nkey : D → Option NestedKey
  | .none => some .none
  | .bool b => some (.num (if b = true then 1 else 0))
  | .int i => some (.num i)
  | .str x => some (.text x)
  | .tuple ds => (nkeys ds).map .tup
  | .list _ => none
  | .dict _ => none
def nkeys : List D → Option (List NestedKey)
  | [] => some []
  | d :: ds => (nkey d).bind fun k => (nkeys ds).map (k :: ·)
end
abbrev DRow := NestedKey × Addr × V
/-- at a lies a dict of these rows -/
def DcR (ω : World) (a : Addr) (rows : List DRow) (h : Heap) : Prop :=
  rows.length ≤ sizeLine ∧ (a == sysModules) = false ∧ ∃ xs : List (NestedKey × Addr × Value), Paired (fun (r : DRow) (x : NestedKey × Addr × Value) => r.1 = x.1 ∧ r.2.1 = x.2.1 ∧ RelV r.2.2 x.2.2) rows xs ∧
    ∃ o es ep, h.get? a = some o ∧ o.ExactDict ∧ o.data = .dict es ep ∧ es.toList = xs.map (fun x => (⟨x.1.hash ω, .ref x.2.1, x.2.2⟩ : DictEntry)) ∧ (xs.map (·.1)).Nodup
def DcO (ω : World) (a : Addr) (rows : List DRow) : HO := .ext (DcR ω a rows)
def DRows (K : PySem.W.Frag) (Y : As) (H : Hp) : List DRow → List (D × D) → Prop := Paired fun r kv => nkey kv.1 = some r.1 ∧ (∃ ts, kv.1 = .tuple ts) ∧ r.1.depth ≤ 8 ∧ Rp K Y H (.ref r.2.1) kv.1 ∧ Rp K Y H r.2.2 kv.2
theorem DRows.move (kp : ∀ a o, H a = some o → ¬ Y a → H' a = some o) (yy : ∀ a, H a ≠ none → Y' a → Y a) {rows : List DRow} {kvs : List (D × D)} (h : DRows K Y H rows kvs) : DRows K Y' H' rows kvs := by
  unfold DRows at h ⊢
  induction h with
  | nil => exact .nil
  | cons r _ ih => exact .cons ⟨r.1, r.2.1, r.2.2.1, Rp.move kp yy _ _ r.2.2.2.1, Rp.move kp yy _ _ r.2.2.2.2⟩ ih

/-! ### objects of one's own -/
/-- at a lies the object d, which may be changed -/
def OwnAt (ω : World) (K : PySem.W.Frag) (Y : As) (H : Hp) (a : Addr) : D → Prop
  | .list ds => ∃ xs, H a = some (.lst xs) ∧ RpAll K Y H xs ds
  | .dict kvs => ∃ rows, H a = some (DcO ω a rows) ∧ DRows K Y H rows kvs
  | .tuple ds => ∃ o xs, H a = some (.frz o (.tup xs)) ∧ o.dict = none ∧ RpAll K Y H xs ds
  | _ => False
def isDict : D → Bool
  | .dict _ => true
  | _ => false
theorem OwnAt.ne {a : Addr} {d : D} (h : OwnAt ω K Y H a d) : H a ≠ none := by
  cases d with
  | list ds => obtain ⟨xs, e, _⟩ := h; rw [e]; exact fun q => nomatch q
  | dict kvs => obtain ⟨rows, e, _⟩ := h; rw [e]; exact fun q => nomatch q
  | tuple ds => obtain ⟨o, xs, e, _⟩ := h; rw [e]; exact fun q => nomatch q
  | _ => exact h.elim
theorem OwnAt.share {a : Addr} {d : D} (h : OwnAt ω K Y H a d) (hd : isDict d = false) (ny : ¬ Y a) : Rp K Y H (.ref a) d := by
  cases d with
  | list ds => obtain ⟨xs, e, al⟩ := h; exact .lst (.inl e) ny al
  | tuple ds => obtain ⟨o, xs, e, _, al⟩ := h; exact .tup (.inr ⟨o, e⟩) ny al
  | dict kvs => cases hd
  | _ => exact h.elim
theorem OwnAt.move {a : Addr} {d : D} (h : OwnAt ω K Y H a d) (kp : ∀ a o, H a = some o → ¬ Y a → H' a = some o) (ka : ∀ o, H a = some o → H' a = some o) (yy : ∀ a, H a ≠ none → Y' a → Y a) : OwnAt ω K Y' H' a d := by
  cases d with
  | list ds => obtain ⟨xs, e, al⟩ := h; exact ⟨xs, ka _ e, al.move kp yy ds _⟩
  | dict kvs => obtain ⟨rows, e, al⟩ := h; exact ⟨rows, ka _ e, al.move kp yy⟩
  | tuple ds => obtain ⟨o, xs, e, hd, al⟩ := h; exact ⟨o, xs, ka _ e, hd, al.move kp yy ds _⟩
  | _ => exact h.elim

/-- data to be looked at: shared, or an own object -/
inductive Pk (ω : World) (K : PySem.W.Frag) (Y : As) (H : Hp) : V → D → Prop where
  | sh {v : V} {d : D} : Rp K Y H v d → Pk ω K Y H v d
  | ow {a : Addr} {d : D} : OwnAt ω K Y H a d → isTupD d = false → Pk ω K Y H (.ref a) d
theorem Pk.dp {v : V} {d : D} (h : Pk ω K Y H v d) (hd : isDict d = false) : Dp K H v d := by
  cases h with
  | sh h => exact h.dp d _
  | ow h ht =>
    cases d with
    | list ds => obtain ⟨xs, e, al⟩ := h; exact .lst (.inl (.inl e)) (al.dp ds _)
    | dict kvs => cases hd
    | tuple ds => cases ht
    | _ => exact h.elim
theorem Pk.int_inv {v : V} {i : Int} (h : Pk ω K Y H v (.int i)) : v = .int i := by
  cases h with
  | sh h => exact h.int_inv
  | ow h ht => first | exact h.elim | cases ht
theorem Pk.bool_inv {v : V} {b : Bool} (h : Pk ω K Y H v (.bool b)) : v = .bl b := by
  cases h with
  | sh h => exact h.bool_inv
  | ow h ht => first | exact h.elim | cases ht
theorem Pk.none_inv {v : V} (h : Pk ω K Y H v .none) : v = .non := by
  cases h with
  | sh h => exact h.none_inv
  | ow h ht => first | exact h.elim | cases ht
theorem Pk.str_inv {v : V} {x : Str} (h : Pk ω K Y H v (.str x)) : v = .str x := by
  cases h with
  | sh h => exact h.str_inv
  | ow h ht => first | exact h.elim | cases ht
theorem Pk.list_inv {v : V} {ds : List D} (h : Pk ω K Y H v (.list ds)) : ∃ a xs, v = .ref a ∧ SqL K H a xs ∧ RpAll K Y H xs ds := by
  cases h with
  | sh h => exact h.list_inv
  | ow h ht => obtain ⟨xs, e, al⟩ := h; exact ⟨_, xs, rfl, .inl (.inl e), al⟩
theorem Pk.tuple_inv {v : V} {ds : List D} (h : Pk ω K Y H v (.tuple ds)) : ∃ a xs, v = .ref a ∧ SqT K H a xs ∧ RpAll K Y H xs ds := by
  cases h with
  | sh h => exact h.tuple_inv
  | ow h ht => first | exact h.elim | cases ht
theorem Pk.tuple_sh {v : V} {ds : List D} (h : Pk ω K Y H v (.tuple ds)) : Rp K Y H v (.tuple ds) := by
  cases h with
  | sh h => exact h
  | ow h ht => first | exact h.elim | cases ht
end

/-! ### slots and their addresses -/
def OB (ρ : En) (σ : Sg) : As := fun a => ∃ (i : Nat) (s : S) (d : D), ρ[i]? = some s ∧ s.mine = some d ∧ σ[i]? = some (some (.ref a))
def YY (Z : As) (ρ : En) (σ : Sg) : As := fun a => Z a ∨ OB ρ σ a

structure ER (ω : World) (K : PySem.W.Frag) (Z : As) (ρ : En) (σ : Sg) (H : Hp) : Prop where
  len : ρ.length = σ.length
  zd : ∀ a, Z a → H a ≠ none
  zo : ∀ a, Z a → ¬ OB ρ σ a
  val : ∀ (i : Nat) (d : D), ρ[i]? = some (.val d) → ∃ v, σ[i]? = some (some v) ∧ Rp K (YY Z ρ σ) H v d
  own : ∀ (i : Nat) (s : S) (d : D), ρ[i]? = some s → s.mine = some d → ∃ a, σ[i]? = some (some (.ref a)) ∧ OwnAt ω K (YY Z ρ σ) H a d
  inj : ∀ (i j : Nat) (s t : S) (d e : D) (a : Addr), ρ[i]? = some s → ρ[j]? = some t → s.mine = some d → t.mine = some e → σ[i]? = some (some (.ref a)) → σ[j]? = some (some (.ref a)) → i = j

structure Stp (ρ : En) (σ : Sg) (H : Hp) (ρ' : En) (σ' : Sg) (H' : Hp) : Prop where
  keep : ∀ a o, H a = some o → ¬ OB ρ σ a → H' a = some o
  dom : ∀ a, H a ≠ none → H' a ≠ none
  own : ∀ (i : Nat) (d : D) (a : Addr), ρ'[i]? = some (.own d) → σ'[i]? = some (some (.ref a)) → ((∃ d0, ρ[i]? = some (.own d0)) ∧ σ[i]? = some (some (.ref a))) ∨ H a = none
  bor : ∀ (i : Nat) (d : D), ρ'[i]? = some (.bor d) → (∃ d0, ρ[i]? = some (.bor d0)) ∧ σ'[i]? = σ[i]?

theorem S.shr_own {d e : D} (h : (S.own d).shr = some e) : d = e ∧ isDict d = false := by
  cases d <;> first | (cases h; exact ⟨rfl, rfl⟩) | cases h
theorem mine_cases {s : S} {d : D} (h : s.mine = some d) : s = .own d ∨ s = .bor d := by
  cases s with
  | un => cases h
  | val e => cases h
  | own e => cases h; exact .inl rfl
  | bor e => cases h; exact .inr rfl

section
variable {ρ ρ1 ρ2 : En} {σ σ1 σ2 : Sg} {H H1 H2 : Hp} {Z : As} {ω : World} {K : PySem.W.Frag}
theorem Stp.refl : Stp ρ σ H ρ σ H :=
  ⟨fun _ _ e _ => e, fun _ e => e, fun _ d _ e1 e2 => .inl ⟨⟨d, e1⟩, e2⟩, fun _ d e => ⟨⟨d, e⟩, rfl⟩⟩
/-- an address owned behind a step was owned, or is new -/
theorem Stp.ob (t : Stp ρ σ H ρ1 σ1 H1) {a : Addr} (h : OB ρ1 σ1 a) : OB ρ σ a ∨ H a = none := by
  obtain ⟨i, s, d, e1, e2, e3⟩ := h
  rcases mine_cases e2 with rfl | rfl
  · rcases t.own i d a e1 e3 with ⟨⟨d0, q1⟩, q2⟩ | q
    · exact .inl ⟨i, _, d0, q1, rfl, q2⟩
    · exact .inr q
  · obtain ⟨⟨d0, q1⟩, q2⟩ := t.bor i d e1
    exact .inl ⟨i, _, d0, q1, rfl, by rw [← q2]; exact e3⟩
theorem Stp.trans (t : Stp ρ σ H ρ1 σ1 H1) (u : Stp ρ1 σ1 H1 ρ2 σ2 H2) : Stp ρ σ H ρ2 σ2 H2 where
  keep := fun a o e n => u.keep a o (t.keep a o e n) fun z => by
    rcases t.ob z with q | q
    · exact n q
    · rw [q] at e; cases e
  dom := fun a e => u.dom a (t.dom a e)
  own := fun i d a e1 e2 => by
    rcases u.own i d a e1 e2 with ⟨⟨d0, q1⟩, q2⟩ | q
    · exact t.own i d0 a q1 q2
    · right
      cases e : H a with
      | none => rfl
      | some o => exact absurd q (t.dom a (by rw [e]; exact fun z => nomatch z))
  bor := fun i d e => by
    obtain ⟨⟨d0, q1⟩, q2⟩ := u.bor i d e
    obtain ⟨q3, q4⟩ := t.bor i d0 q1
    exact ⟨q3, q2.trans q4⟩
theorem Stp.fresh (t : Stp ρ σ H ρ1 σ1 H1) {a : Addr} (h : H1 a = none) : H a = none := by
  cases e : H a with
  | none => rfl
  | some o => exact absurd h (t.dom a (by rw [e]; exact fun z => nomatch z))
/-- shared data stays shared data -/
theorem Stp.rp (t : Stp ρ σ H ρ1 σ1 H1) {v : V} {d : D} (h : Rp K (YY Z ρ σ) H v d) : Rp K (YY Z ρ1 σ1) H1 v d :=
  h.move (fun a o e n => t.keep a o e fun z => n (.inr z)) (fun a e z => by
    rcases z with z | z
    · exact .inl z
    · rcases t.ob z with q | q
      · exact .inr q
      · exact absurd q e) d v
theorem Stp.rpAll (t : Stp ρ σ H ρ1 σ1 H1) {vs : List V} {ds : List D} (h : RpAll K (YY Z ρ σ) H vs ds) : RpAll K (YY Z ρ1 σ1) H1 vs ds :=
  h.move (fun a o e n => t.keep a o e fun z => n (.inr z)) (fun a e z => by
    rcases z with z | z
    · exact .inl z
    · rcases t.ob z with q | q
      · exact .inr q
      · exact absurd q e) ds vs
/-- nothing but new objects -/
theorem Stp.same (h : Same H H1) : Stp ρ σ H ρ σ H1 :=
  ⟨fun a o e _ => h a o e, (fun a e => by
    cases q : H a with
    | none => exact absurd q e
    | some o => rw [h a o q]; exact fun z => nomatch z), fun i d a e1 e2 => .inl ⟨⟨d, e1⟩, e2⟩, fun i d e => ⟨⟨d, e⟩, rfl⟩⟩
theorem ER.full {i : Nat} {d : D} {s : S} (E : ER ω K Z ρ σ H) (h : ρ[i]? = some s) (hd : s.full = some d) : ∃ v, σ[i]? = some (some v) := by
  cases s with
  | un => cases hd
  | val e => obtain ⟨v, e1, e2⟩ := E.val i e h; exact ⟨v, e1⟩
  | own e => obtain ⟨a, e1, e2⟩ := E.own i _ e h rfl; exact ⟨_, e1⟩
  | bor e => obtain ⟨a, e1, e2⟩ := E.own i _ e h rfl; exact ⟨_, e1⟩
theorem ER.data {i : Nat} {d : D} {s : S} (E : ER ω K Z ρ σ H) (h : ρ[i]? = some s) (hd : s.data = some d) : ∃ v, σ[i]? = some (some v) ∧ Pk ω K (YY Z ρ σ) H v d := by
  cases s with
  | un => cases hd
  | val e =>
    cases hd
    obtain ⟨v, e1, e2⟩ := E.val i d h
    exact ⟨v, e1, .sh e2⟩
  | own e =>
    have hd : (if isTupD e = true then none else some e) = some d := hd
    split at hd
    · cases hd
    · rename_i ht
      cases hd
      obtain ⟨a, e1, e2⟩ := E.own i _ d h rfl
      exact ⟨_, e1, .ow e2 (by simpa using ht)⟩
  | bor e =>
    have hd : (if isTupD e = true then none else some e) = some d := hd
    split at hd
    · cases hd
    · rename_i ht
      cases hd
      obtain ⟨a, e1, e2⟩ := E.own i _ d h rfl
      exact ⟨_, e1, .ow e2 (by simpa using ht)⟩
/-- new objects alone: all is as it was -/
theorem ER.same (E : ER ω K Z ρ σ H) (h : Same H H1) : ER ω K Z ρ σ H1 where
  len := E.len
  zd := fun a z => (Stp.same (ρ := ρ) (σ := σ) h).dom a (E.zd a z)
  zo := E.zo
  val := fun i d e => by
    obtain ⟨v, e1, e2⟩ := E.val i d e
    exact ⟨v, e1, (Stp.same h).rp e2⟩
  own := fun i s d e1 e2 => by
    obtain ⟨a, q1, q2⟩ := E.own i s d e1 e2
    exact ⟨a, q1, q2.move (fun a o e _ => h a o e) (fun o e => h _ o e) fun _ _ z => z⟩
  inj := E.inj
end

/-! ### the outcome of an expression -/
/-- the value s, as it lies at v in H1; H: ahead of it -/
def RS (ω : World) (K : PySem.W.Frag) (Z : As) (ρ : En) (σ : Sg) (H H1 : Hp) (v : V) : S → Prop
  | .val d => Rp K (YY Z ρ σ) H1 v d
  | .own d => ∃ a, v = .ref a ∧ H a = none ∧ ¬ Z a ∧ ER ω K (fun b => Z b ∨ b = a) ρ σ H1 ∧ OwnAt ω K (YY (fun b => Z b ∨ b = a) ρ σ) H1 a d
  | _ => False
structure PostE (ω : World) (K : PySem.W.Frag) (Z : As) (ρ : En) (σ : Sg) (H : Hp) (s : S) (ρ1 : En) (v : V) (H1 : Hp) : Prop where
  er : ER ω K Z ρ1 σ H1
  st : Stp ρ σ H ρ1 σ H1
  rs : RS ω K Z ρ1 σ H H1 v s

/-- an exception of a class, with an argument, may leave the code of X -/
def ExcOk (X : Cx) (c : Str) (d : D) : Prop := False

/-- what an outcome asks -/
def Ask {α : Type} (X : Cx) (r : R α) (k : α → Prop) : Prop :=
  match r with
  | .ok a => k a
  | .exc c d => ExcOk X c d
  | .stuck => False
theorem Ask.bind {α β : Type} {X : Cx} {r : R α} {f : α → R β} {k : β → Prop} (h : Ask X (r.bind f) k) : Ask X r fun a => Ask X (f a) k := by
  cases r with
  | ok a => exact h
  | exc c d => exact h
  | stuck => exact h
theorem Ask.of {α : Type} {X : Cx} {o : Option α} {k : α → Prop} (h : Ask X (R.of o) k) : ∃ a, o = some a ∧ k a := by
  cases o with
  | none => exact h.elim
  | some a => exact ⟨a, rfl, h⟩
theorem Ask.mono {α : Type} {X : Cx} {r : R α} {k k' : α → Prop} (h : Ask X r k) (w : ∀ a, r = .ok a → k a → k' a) : Ask X r k' := by
  cases r with
  | ok a => exact w a rfl h
  | exc c d => exact h
  | stuck => exact h
theorem Ask.ite {α : Type} {X : Cx} {c : Bool} {a : α} {k : α → Prop} (h : Ask X (if c then .ok a else .stuck) k) : c = true ∧ k a := by
  cases c with
  | true => exact ⟨rfl, h⟩
  | false => exact h.elim

abbrev FE := En → R (S × En)
/-- a reading from a meaning -/
def tFE (X : Cx) (f : FE) : TE := fun σ H Q => ∃ Z ρ, ER X.w X.K Z ρ σ H ∧ Ask X (f ρ) fun q => ∀ v H1, PostE X.w X.K Z ρ σ H q.1 q.2 v H1 → Q v H1

theorem _root_.L2.PE.imp {X : Cx} {e : Expr} {t u : TE} (h : PE X e t) (w : ∀ σ H Q, u σ H Q → t σ H Q) : PE X e u :=
  ⟨fun pins s σ H Q I q => h.run pins s σ H Q I (w σ H Q q)⟩
theorem _root_.L2.PT.imp {X : Cx} {e : Expr} {t u : TT} (h : PT X e t) (w : ∀ σ H Q, u σ H Q → t σ H Q) : PT X e u :=
  ⟨fun pins s σ H Q I q => h.run pins s σ H Q I (w σ H Q q)⟩
theorem _root_.L2.PA.imp {X : Cx} {es : List Expr} {t u : TA} (h : PA X es t) (w : ∀ σ H Q, u σ H Q → t σ H Q) : PA X es u :=
  ⟨fun pos pins s σ H Q I q => h.run pos pins s σ H Q I (w σ H Q q)⟩
end DL

namespace DL
open PySem PySem.Spec PyProof.Rows L2

/-! ### what a built-in operation hands back: all else stands -/
def Res (ω : World) (K : PySem.W.Frag) (Y : As) (H : Hp) (s : S) (Q : VK) : Prop :=
  match s with
  | .val d => ∀ v H1, Same H H1 → Rp K Y H1 v d → Q v H1
  | .own d => ∀ a H1, H a = none → Same H H1 → OwnAt ω K (fun b => Y b ∨ b = a) H1 a d → Q (.ref a) H1
  | _ => True
/-- an operation's meaning gives an outcome of a kind -/
def S.out : S → Bool
  | .val _ => true
  | .own _ => true
  | _ => false

section
variable {ω : World} {K : PySem.W.Frag} {Y : As} {H H1 : Hp}
theorem same_upd {p : Addr} {o : HO} (h : H p = none) : Same H (upd H p o) := fun b x e => by
  rw [upd_ne (ne_of_none e h)]
  exact e
theorem Same.rp (h : Same H H1) {v : V} {d : D} (r : Rp K Y H v d) : Rp K Y H1 v d := r.move (fun a o e _ => h a o e) (fun _ _ z => z) d v
theorem Same.rpAll (h : Same H H1) {vs : List V} {ds : List D} (r : RpAll K Y H vs ds) : RpAll K Y H1 vs ds := r.move (fun a o e _ => h a o e) (fun _ _ z => z) ds vs
theorem Same.pk (h : Same H H1) {v : V} {d : D} (r : Pk ω K Y H v d) : Pk ω K Y H1 v d := by
  cases r with
  | sh r => exact .sh (Same.rp h r)
  | ow r ht => exact .ow (r.move (fun a o e _ => h a o e) (fun o e => h _ o e) fun _ _ z => z) ht
/-- a new tuple -/
theorem Res.tup {xs : List V} {ds : List D} {Q : VK} (yd : ∀ a, Y a → H a ≠ none) (r : RpAll K Y H xs ds) (q : Res ω K Y H (.val (.tuple ds)) Q) : ∀ p, H p = none → Q (.ref p) (upd H p (.tup xs)) := fun p hp =>
  q _ _ (same_upd hp) (.tup (.inl upd_same) (fun z => yd p z hp) (Same.rpAll (same_upd hp) r))
/-- a new list -/
theorem Res.lst {xs : List V} {ds : List D} {Q : VK} (r : RpAll K Y H xs ds) (q : Res ω K Y H (.own (.list ds)) Q) : ∀ p, H p = none → Q (.ref p) (upd H p (.lst xs)) := fun p hp =>
  q _ _ hp (same_upd hp) ⟨xs, upd_same, r.move (fun a o e _ => same_upd hp a o e) (fun a e z => z.elim id fun z => absurd hp (by rw [← z]; exact e)) ds xs⟩
theorem Res.sh {v : V} {d : D} {Q : VK} (r : Rp K Y H v d) (q : Res ω K Y H (.val d) Q) : Q v H := q v H (Same.refl H) r
theorem Res.int {i : Int} {Q : VK} (q : Res ω K Y H (.val (.int i)) Q) : Q (.int i) H := Res.sh (.int i) q
theorem Res.bl {b : Bool} {Q : VK} (q : Res ω K Y H (.val (.bool b)) Q) : Q (.bl b) H := Res.sh (.bl b) q
end

/-- the lid of factors and divisors -/
def big : Nat := 2 ^ 8999
theorem big_pos : 0 < big := Nat.pow_pos (by decide)
theorem lt_big {n : Nat} (h : n < 2 ^ 4096) : n < big := Nat.lt_of_lt_of_le h (Nat.pow_le_pow_right (by decide) (by decide))
theorem big_log {n : Nat} (h : n < big) : n.log2 < 9000 := by
  by_cases h0 : n = 0
  · subst h0; decide
  · have := (Nat.log2_lt h0).mpr h
    omega

/-! ### operators -/
def addD : D → D → Option S
  | .int i, .int j => some (.val (.int (i + j)))
  | .str x, .str y => if x.length + y.length ≤ sizeLine then some (.val (.str (x ++ y))) else none
  | .tuple xs, .tuple ys => if xs.length + ys.length ≤ sizeLine then some (.val (.tuple (xs ++ ys))) else none
  | .list xs, .list ys => if xs.length + ys.length ≤ sizeLine then some (.own (.list (xs ++ ys))) else none
  | _, _ => none
def subD : D → D → Option S
  | .int i, .int j => some (.val (.int (i - j)))
  | _, _ => none
def repLim : Nat := 1000
def mulD : D → D → Option S
  | .int i, .int j => if i.natAbs < big ∧ j.natAbs < big then some (.val (.int (i * j))) else none
  | .tuple xs, .int k => if xs.length ≤ 1000 ∧ k ≤ 1000 ∧ -1000 ≤ k then some (.val (.tuple (List.replicate k.toNat xs).flatten)) else none
  | .list xs, .int k => if xs.length * k.toNat ≤ sizeLine ∧ k ≤ 1000000 ∧ -1000000 ≤ k then some (.own (.list (List.replicate k.toNat xs).flatten)) else none
  | _, _ => none
def fdivD : D → D → Option S
  | .int i, .int j => if 0 < j ∧ j.natAbs < big then some (.val (.int (i / j))) else none
  | _, _ => none
def modD : D → D → Option S
  | .int i, .int j => if 0 < j then some (.val (.int (i % j))) else none
  | _, _ => none
def powD : D → D → Option S
  | .int i, .int j => if 0 ≤ j ∧ j ≤ 1000000 ∧ i.natAbs < 2 ^ 64 then some (.val (.int (i ^ j.toNat))) else none
  | _, _ => none
def opD : Operator → D → D → Option S
  | .Add => addD
  | .Sub => subD
  | .Mult => mulD
  | .FloorDiv => fdivD
  | .Mod => modD
  | .Pow => powD
  | _ => fun _ _ => none

/-- an operation on two values by its meaning -/
def rOp2 (ω : World) (K : PySem.W.Frag) (g : D → D → Option S) : R2 := fun x y H Q => ∃ Y d e s, (∀ a, Y a → H a ≠ none) ∧ Pk ω K Y H x d ∧ Pk ω K Y H y e ∧ g d e = some s ∧ Res ω K Y H s Q

section
variable {X : Cx}
theorem mine_list {ω : World} {K : PySem.W.Frag} {Y : As} {H : Hp} {v : V} {ds : List D} (h : Pk ω K Y H v (.list ds)) : ∃ a xs, v = .ref a ∧ SqL K H a xs ∧ RpAll K Y H xs ds := h.list_inv

/-- two lists that are read, put together -/
theorem op_catS : OpR X (binaryOp .Add) (fun x y H Q => ∃ l b xs zs, x = .ref l ∧ y = .ref b ∧ SqL X.K H l xs ∧ SqL X.K H b zs ∧ xs.length + zs.length ≤ sizeLine ∧ ∀ p, H p = none → Q (.ref p) (upd H p (.lst (xs ++ zs)))) := by
  intro pins s σ H x y v u Q I rx ry h
  obtain ⟨l, b, xs, zs, rfl, rfl, hH, hB, hz, q⟩ := h
  cases rx
  cases ry
  obtain ⟨its, r, pl, z⟩ := I.list hH
  obtain ⟨its2, r2, pl2, z2⟩ := I.list hB
  have hl := r.length
  have hl2 := r2.length
  obtain ⟨⟨cls, dd, data, sl⟩, ho, hc, n, hd⟩ := id pl.isList
  obtain ⟨⟨cls2, dd2, data2, sl2⟩, ho2, hc2, n2, hd2⟩ := id pl2.isList
  simp only at hc hd hc2 hd2
  subst hc hd hc2 hd2
  have e : its.toArray ++ its2.toArray = (its ++ its2).toArray := by simp
  refine concat_meets ⟨_, ho, rfl⟩ ⟨_, ho2, rfl⟩ noFill_list_add seq_list_add PySem.F.slot_list_add PySem.F.entry_list_add (PySem.F.args_list_add_2 _ _) (list_addW l b its.toArray its2.toArray n n2 dd dd2 sl sl2 (by simp only [List.size_toArray]; omega)) ⟨ho, ho2, ?_⟩
  rw [e]
  exact ⟨.ref _, _, I.lnew (t' := s.toks) (r.append r2) (by rw [List.length_append]; omega), rfl, q _ I.fresh⟩

/-! tuples times ints: one or none -/
theorem tuple_mul1 (l : Addr) (items : Array Value) (n : Nat) (dd : Option Addr) (sl : Array (Option Value)) (x : Int) (u : Tok) (c0 : (decide (x < -(2 ^ 63)) || decide (x ≥ 2 ^ 63)) = false) (c1 : (items.isEmpty || x == 1) = true) :
    Meets (Builtin.«tuple.__mul__» ⟨[.ref l, .int x u], []⟩) (fun _ R s => s.heap.get? l = some { cls := .type "tuple", dict := dd, data := .seq items n, slots := sl } ∧ R (.ok (.ret (Value.ref l))) { s with heap := s.heap, toks := s.toks }) :=
  .of_wp fun prog w A R s h => by
    obtain ⟨hp, g, d, tk, os⟩ := s
    obtain ⟨hl, h⟩ := h
    have f1 := AutoSeq1.idx_int
    wp_walk using wpAny_loadPart' hl
    repeat (first
      | (refine wpAny_ite_false (decide_eq_false (by rw [c0]; exact Bool.false_ne_true)) ?_; wp_walk using wpAny_loadPart' hl)
      | (refine wpAny_ite_true (decide_eq_true (by rw [c1])) ?_; wp_walk using wpAny_loadPart' hl))
    exact ⟨_, rfl, h⟩
theorem tuple_mul0 (l : Addr) (items : Array Value) (n : Nat) (dd : Option Addr) (sl : Array (Option Value)) (x : Int) (u : Tok) (c0 : (decide (x < -(2 ^ 63)) || decide (x ≥ 2 ^ 63)) = false) (c1 : (items.isEmpty || x == 1) = false) (c2 : (decide (x ≤ 0) || items.isEmpty) = true) :
    Meets (Builtin.«tuple.__mul__» ⟨[.ref l, .int x u], []⟩) (fun _ R s => s.heap.get? l = some { cls := .type "tuple", dict := dd, data := .seq items n, slots := sl } ∧ R (.ok (.ret (Value.ref s.heap.objs.size))) { s with heap := s.heap.push { cls := Value.type "tuple", data := Data.seq #[] }, toks := s.toks }) :=
  .of_wp fun prog w A R s h => by
    obtain ⟨hp, g, d, tk, os⟩ := s
    obtain ⟨hl, h⟩ := h
    have f1 := AutoSeq1.idx_int
    wp_walk using wpAny_loadPart' hl
    repeat (first
      | (refine wpAny_ite_false (decide_eq_false (by rw [c0]; exact Bool.false_ne_true)) ?_; wp_walk using wpAny_loadPart' hl)
      | (refine wpAny_ite_false (decide_eq_false (by rw [c1]; exact Bool.false_ne_true)) ?_; wp_walk using wpAny_loadPart' hl)
      | (refine wpAny_ite_true (decide_eq_true (by rw [c2])) ?_; wp_walk using wpAny_loadPart' hl))
    exact ⟨_, rfl, h⟩

/-- a tuple times an int -/
theorem op_repA : OpR X (binaryOp .Mult) (fun x y H Q => ∃ l k xs, x = .ref l ∧ y = .int k ∧ SqT X.K H l xs ∧ k ≤ 1000 ∧ -1000 ≤ k ∧ xs.length ≤ 1000 ∧ ((xs = [] ∨ k = 1) → Q (.ref l) H) ∧
    (¬ (xs = [] ∨ k = 1) → ∀ p, H p = none → Q (.ref p) (upd H p (.tup (List.replicate k.toNat xs).flatten)))) := by
  intro pins s σ H x y v u Q I rx ry h
  obtain ⟨l, k, xs, rfl, rfl, hT, h2, h2', hz, q1, q2⟩ := h
  by_cases h1 : 2 ≤ k ∧ xs ≠ []
  · exact op_repT pins s σ H _ _ v u Q I rx ry ⟨l, k, xs, rfl, rfl, hT, h1.2, h1.1, h2, hz, q2 (by rintro (z | z); exact h1.2 z; omega)⟩
  cases rx
  obtain ⟨t, rfl⟩ := ry
  obtain ⟨its, r, ⟨⟨cls, dd, data, sl⟩, ho, hc, n, hd⟩, hs⟩ := I.tuple hT
  simp only at hc hd
  subst hc hd
  have c0 : (decide (k < -(2 ^ 63)) || decide (k ≥ 2 ^ 63)) = false := by
    rw [decide_eq_false (by omega), decide_eq_false (by omega)] <;> rfl
  have he : its.toArray.isEmpty = true ↔ xs = [] := by
    cases r <;> simp
  by_cases c1 : (its.toArray.isEmpty || k == 1) = true
  · refine wpAny_binaryOp_repeat_ref (T := "tuple") (U := "int") (by decide) ⟨_, ho, rfl⟩ (fun s' => typeIs_int s' k t) noFill_tuple_mul F.fills_int_mul F.slot_int_rmul repeat_tuple F.slot_int_index.lookup
      (call_meets F.slot_int_rmul (typeIs_int s k t) F.entry_int_rmul (F.args_int_rmul_2 _ _) (int_rmul_tuple k t l its.toArray n dd sl)
        ⟨ho, rfl, ⟨_, ho, rfl⟩, call_meets F.slot_tuple_mul ⟨_, ho, rfl⟩ F.entry_tuple_mul (F.args_tuple_mul_2 _ _) (tuple_mul1 l its.toArray n dd sl k t c0 c1) ⟨ho, ?_⟩⟩)
    refine ⟨.ref l, H, I, rfl, q1 ?_⟩
    rw [Bool.or_eq_true] at c1
    rcases c1 with c1 | c1
    · exact .inl (he.mp c1)
    · exact .inr (beq_iff_eq.mp c1)
  · have c1' : (its.toArray.isEmpty || k == 1) = false := by simpa using c1
    have hne : ¬ (xs = [] ∨ k = 1) := by
      rw [Bool.or_eq_false_iff] at c1'
      rintro (z | z)
      · rw [he.mpr z] at c1'; cases c1'.1
      · rw [z] at c1'; cases c1'.2
    have k0 : k ≤ 0 := by
      have a1 : ¬ xs = [] := fun z => hne (.inl z)
      have a2 : ¬ k = 1 := fun z => hne (.inr z)
      have a3 : ¬ 2 ≤ k := fun z => h1 ⟨z, a1⟩
      omega
    have c2 : (decide (k ≤ 0) || its.toArray.isEmpty) = true := by rw [decide_eq_true k0, Bool.true_or]
    refine wpAny_binaryOp_repeat_ref (T := "tuple") (U := "int") (by decide) ⟨_, ho, rfl⟩ (fun s' => typeIs_int s' k t) noFill_tuple_mul F.fills_int_mul F.slot_int_rmul repeat_tuple F.slot_int_index.lookup
      (call_meets F.slot_int_rmul (typeIs_int s k t) F.entry_int_rmul (F.args_int_rmul_2 _ _) (int_rmul_tuple k t l its.toArray n dd sl)
        ⟨ho, rfl, ⟨_, ho, rfl⟩, call_meets F.slot_tuple_mul ⟨_, ho, rfl⟩ F.entry_tuple_mul (F.args_tuple_mul_2 _ _) (tuple_mul0 l its.toArray n dd sl k t c0 c1' c2) ⟨ho, ?_⟩⟩)
    have e0 : (List.replicate k.toNat xs).flatten = [] := by
      rw [show k.toNat = 0 by omega]
      rfl
    have q3 := q2 hne _ I.fresh
    rw [e0] at q3
    refine ⟨.ref s.heap.objs.size, _, I.laid (t' := s.toks) (o := .tup []) (fun b ob q => Heap.get?_push_of_some _ q) (Nat.le_refl _) ?_, rfl, q3⟩
    exact ⟨Nat.zero_le _, [], .nil, IsTup.new _ _⟩
/-- a list times an int, the list read -/
theorem int_rmul_listW (a : Int) (t : Tok) (l : Addr) (items : Array Value) (n : Nat) (dd : Option Addr) (sl : Array (Option Value)) :
    Meets (Builtin.«int.__rmul__» ⟨[.int a t, .ref l], []⟩) (fun _ R s => s.heap.get? l = some { cls := .type "list", dict := dd, data := .seq items n, slots := sl } ∧ R (.ok (.ret Value.notImplemented)) s) :=
  .of_wp fun prog w A R s h => by obtain ⟨hp, g, d, tk, os⟩ := s; obtain ⟨hl, h⟩ := h; wp_walk using wpAny_loadPart' hl; exact ⟨_, rfl, h⟩
theorem list_mulW (l : Addr) (items : Array Value) (n : Nat) (dd : Option Addr) (sl : Array (Option Value)) (x : Int) (u : Tok) (c0 : ¬(!Builtin.List.listFitsIndex x) = true) (c1 : ¬items.size * x.toNat > (2 ^ 63 - 1) / 8) (c2 : ¬Builtin.List.listTooLong (items.size * x.toNat) = true)
    (hsz : (List.foldl (fun x1 x2 => x1 ++ x2) #[] (List.replicate (if items.isEmpty = true then 0 else x.toNat) items)).size ≤ sizeLine) :
    Meets (Builtin.«list.__mul__» ⟨[.ref l, .int x u], []⟩) (fun _ R s => s.heap.get? l = some { cls := .type "list", dict := dd, data := .seq items n, slots := sl } ∧
      R (.ok (.ret (Value.ref s.heap.objs.size))) { s with heap := s.heap.push { cls := Value.type "list", data := Data.seq (List.foldl (fun x1 x2 => x1 ++ x2) #[] (List.replicate (if items.isEmpty = true then 0 else x.toNat) items)) }, toks := s.toks }) :=
  .of_wp fun prog w A R s h => by
    obtain ⟨hp, g, d, tk, os⟩ := s
    obtain ⟨hl, h⟩ := h
    have f1 := AutoSeq1.idx_int
    wp_walk using wpAny_loadPart' hl
    repeat (first
      | (refine wpAny_ite_false (decide_eq_false c0) ?_; wp_walk using wpAny_loadPart' hl)
      | (refine wpAny_ite_false (decide_eq_false c1) ?_; wp_walk using wpAny_loadPart' hl)
      | (refine wpAny_ite_false (decide_eq_false c2) ?_; wp_walk using wpAny_loadPart' hl)
      | (refine wpAny_ite_false (decide_eq_false (Nat.not_lt.mpr hsz)) ?_; wp_walk using wpAny_loadPart' hl))
    exact ⟨_, rfl, h⟩
theorem op_repS : OpR X (binaryOp .Mult) (fun x y H Q => ∃ l k xs, x = .ref l ∧ y = .int k ∧ SqL X.K H l xs ∧ -(2 ^ 63) ≤ k ∧ k < 2 ^ 63 ∧ xs.length * k.toNat ≤ sizeLine ∧
    ∀ p, H p = none → Q (.ref p) (upd H p (.lst (List.replicate k.toNat xs).flatten))) := by
  intro pins s σ H x y v u Q I rx ry h
  obtain ⟨l, k, xs, rfl, rfl, hT, h1, h2, hz, q⟩ := h
  cases rx
  obtain ⟨t, rfl⟩ := ry
  obtain ⟨its, r, pl, z⟩ := I.list hT
  have hl := r.length
  obtain ⟨⟨cls, dd, data, sl⟩, ho, hc, n, hd⟩ := id pl.isList
  simp only at hc hd
  subst hc hd
  have hlen : its.toArray.size * k.toNat ≤ sizeLine := by rw [List.size_toArray, ← hl]; exact hz
  have hcap : ¬ its.toArray.size * k.toNat > (2 ^ 63 - 1) / 8 := by
    have : (sizeLine : Nat) ≤ (2 ^ 63 - 1) / 8 := by decide
    omega
  have hfit : ¬ (!Builtin.List.listFitsIndex k) = true := by
    rw [fitsIndex_both h1 h2]
    exact Bool.false_ne_true
  have hlong : ¬ Builtin.List.listTooLong (its.toArray.size * k.toNat) = true := by
    rw [notLongL hlen]
    exact Bool.false_ne_true
  have hnew : List.foldl (fun x1 x2 => x1 ++ x2) #[] (List.replicate (if its.toArray.isEmpty = true then 0 else k.toNat) its.toArray) = (List.replicate k.toNat its).flatten.toArray := by
    rw [size_rep]
    cases its with
    | nil => simp
    | cons a r' => rw [if_neg (by simp)]
  have hsz : (List.foldl (fun x1 x2 => x1 ++ x2) #[] (List.replicate (if its.toArray.isEmpty = true then 0 else k.toNat) its.toArray)).size ≤ sizeLine := by
    rw [hnew, List.size_toArray, PyProof.Rows.lm_len_rep_flat, ← hl, Nat.mul_comm]
    exact hz
  refine wpAny_binaryOp_repeat_ref (T := "list") (U := "int") (by decide) ⟨_, ho, rfl⟩ (fun s' => typeIs_int s' k t) noFill_list_mul F.fills_int_mul F.slot_int_rmul repeat_list F.slot_int_index.lookup
    (call_meets F.slot_int_rmul (typeIs_int s k t) F.entry_int_rmul (F.args_int_rmul_2 _ _) (int_rmul_listW k t l its.toArray n dd sl)
      ⟨ho, rfl, ⟨_, ho, rfl⟩, call_meets F.slot_list_mul ⟨_, ho, rfl⟩ F.entry_list_mul (F.args_list_mul_2 _ _) (list_mulW l its.toArray n dd sl k t hfit hcap hlong hsz) ⟨ho, ?_⟩⟩)
  rw [hnew]
  exact ⟨.ref _, _, I.lnew (t' := s.toks) (r.rep k.toNat) (by rw [PyProof.Rows.lm_len_rep_flat, Nat.mul_comm]; exact hz), rfl, q _ I.fresh⟩

/-! ### the operators by their meanings -/
theorem op_addD : OpR X (binaryOp .Add) (rOp2 X.w X.K addD) := by
  intro pins s σ H x y v u Q I rx ry h
  obtain ⟨Y, d, e, o, yd, px, py, g, q⟩ := h
  unfold addD at g
  split at g
  · cases g
    cases px.int_inv; cases py.int_inv
    exact op_add pins s σ H _ _ v u Q I rx ry ⟨_, _, rfl, rfl, q.int⟩
  · split at g
    · rename_i hz
      cases g
      cases px.str_inv; cases py.str_inv
      exact op_add_str pins s σ H _ _ v u Q I rx ry ⟨_, _, rfl, rfl, hz, q.sh (.str _)⟩
    · cases g
  · split at g
    · rename_i hz
      cases g
      have ax := px.tuple_sh; have ay := py.tuple_sh
      obtain ⟨a, xs, rfl, sa, ra⟩ := px.tuple_inv
      obtain ⟨b, ys, rfl, sb, rb⟩ := py.tuple_inv
      refine op_catA pins s σ H _ _ v u Q I rx ry ⟨a, b, xs, ys, rfl, rfl, sa, sb, by rw [ra.length, rb.length]; exact hz, fun e => ?_, fun n e => ?_, fun n1 n2 => Res.tup yd (ra.append rb) q⟩
      · subst e
        cases ra
        exact q.sh ay
      · subst e
        cases rb
        rw [List.append_nil] at q
        exact q.sh ax
    · cases g
  · split at g
    · rename_i hz
      cases g
      obtain ⟨a, xs, rfl, sa, ra⟩ := px.list_inv
      obtain ⟨b, ys, rfl, sb, rb⟩ := py.list_inv
      exact op_catS pins s σ H _ _ v u Q I rx ry ⟨a, b, xs, ys, rfl, rfl, sa, sb, by rw [ra.length, rb.length]; exact hz, Res.lst (ra.append rb) q⟩
    · cases g
  · cases g
theorem op_subD : OpR X (binaryOp .Sub) (rOp2 X.w X.K subD) := by
  intro pins s σ H x y v u Q I rx ry h
  obtain ⟨Y, d, e, o, yd, px, py, g, q⟩ := h
  unfold subD at g
  split at g
  · cases g
    cases px.int_inv; cases py.int_inv
    exact op_sub pins s σ H _ _ v u Q I rx ry ⟨_, _, rfl, rfl, q.int⟩
  · cases g
theorem op_mulD : OpR X (binaryOp .Mult) (rOp2 X.w X.K mulD) := by
  intro pins s σ H x y v u Q I rx ry h
  obtain ⟨Y, d, e, o, yd, px, py, g, q⟩ := h
  unfold mulD at g
  split at g
  · split at g
    · rename_i hz
      cases g
      cases px.int_inv; cases py.int_inv
      refine op_mulW pins s σ H _ _ v u Q I rx ry ⟨_, _, rfl, rfl, ?_, q.int⟩
      have h1 := big_log hz.1
      have h2 := big_log hz.2
      unfold CMulW
      omega
    · cases g
  · split at g
    · rename_i hz
      cases g
      have ax := px.tuple_sh
      obtain ⟨a, xs, rfl, sa, ra⟩ := px.tuple_inv
      cases py.int_inv
      refine op_repA pins s σ H _ _ v u Q I rx ry ⟨a, _, xs, rfl, rfl, sa, hz.2.1, hz.2.2, by rw [ra.length]; exact hz.1, fun c => ?_, fun c => Res.tup yd (ra.rep _) q⟩
      rcases c with c | c
      · subst c
        cases ra
        rw [show (List.replicate _ ([] : List D)).flatten = [] by simp] at q
        exact q.sh ax
      · subst c
        rw [show (List.replicate (1 : Int).toNat _).flatten = _ from List.append_nil _] at q
        exact q.sh ax
    · cases g
  · split at g
    · rename_i hz
      cases g
      obtain ⟨a, xs, rfl, sa, ra⟩ := px.list_inv
      cases py.int_inv
      exact op_repS pins s σ H _ _ v u Q I rx ry ⟨a, _, xs, rfl, rfl, sa, by omega, by omega, by rw [ra.length]; exact hz.1, Res.lst (ra.rep _) q⟩
    · cases g
  · cases g
theorem op_fdivD : OpR X (binaryOp .FloorDiv) (rOp2 X.w X.K fdivD) := by
  intro pins s σ H x y v u Q I rx ry h
  obtain ⟨Y, d, e, o, yd, px, py, g, q⟩ := h
  unfold fdivD at g
  split at g
  · split at g
    · rename_i hz
      cases g
      cases px.int_inv; cases py.int_inv
      exact op_fdivW pins s σ H _ _ v u Q I rx ry ⟨_, _, rfl, rfl, ⟨hz.1, big_log hz.2⟩, q.int⟩
    · cases g
  · cases g
theorem op_modD : OpR X (binaryOp .Mod) (rOp2 X.w X.K modD) := by
  intro pins s σ H x y v u Q I rx ry h
  obtain ⟨Y, d, e, o, yd, px, py, g, q⟩ := h
  unfold modD at g
  split at g
  · split at g
    · rename_i hz
      cases g
      cases px.int_inv; cases py.int_inv
      exact op_mod pins s σ H _ _ v u Q I rx ry ⟨_, _, rfl, rfl, hz, q.int⟩
    · cases g
  · cases g
theorem op_powD : OpR X (binaryOp .Pow) (rOp2 X.w X.K powD) := by
  intro pins s σ H x y v u Q I rx ry h
  obtain ⟨Y, d, e, o, yd, px, py, g, q⟩ := h
  unfold powD at g
  split at g
  · split at g
    · rename_i hz
      cases g
      cases px.int_inv; cases py.int_inv
      exact op_pow pins s σ H _ _ v u Q I rx ry ⟨_, _, rfl, rfl, hz, q.int⟩
    · cases g
  · cases g
theorem op_none {f : Value → Value → Sem Value} : OpR X f (rOp2 X.w X.K fun _ _ => none) := by
  intro pins s σ H x y v u Q I rx ry h
  obtain ⟨Y, d, e, o, yd, px, py, g, q⟩ := h
  cases g
theorem op_D (o : Operator) : OpR X (binaryOp o) (rOp2 X.w X.K (opD o)) := by
  cases o with
  | Add => exact op_addD
  | Sub => exact op_subD
  | Mult => exact op_mulD
  | FloorDiv => exact op_fdivD
  | Mod => exact op_modD
  | Pow => exact op_powD
  | _ => exact op_none
end
end DL

namespace DL
open PySem PySem.Spec PyProof.Rows L2

/-! ### order -/
def szOp (o : CmpOp) (n m : Nat) : Bool :=
  match o with
  | .Lt => decide (n < m)
  | .LtE => decide (n ≤ m)
  | .Gt => decide (n > m)
  | .GtE => decide (n ≥ m)
  | _ => false
def intOp (o : CmpOp) (i j : Int) : Bool :=
  match o with
  | .Lt => decide (i < j)
  | .LtE => decide (i ≤ j)
  | .Gt => decide (j < i)
  | .GtE => decide (j ≤ i)
  | _ => false
mutual
/-- the order of whole numbers and of tuples of what is ordered -/
def ordD (o : CmpOp) : D → D → Option Bool
  | .int i, .int j => some (intOp o i j)
  | .tuple xs, .tuple ys => ordAll o xs ys xs.length ys.length
  | _, _ => none
def ordAll (o : CmpOp) : List D → List D → Nat → Nat → Option Bool
  | x :: xs, y :: ys, n, m => (ordAll o xs ys n m).bind fun b => if PyData.eqv x y = true then some b else ordD o x y
  | _, _, n, m => some (szOp o n m)
end
def isOrd : CmpOp → Bool
  | .Lt => true
  | .LtE => true
  | .Gt => true
  | .GtE => true
  | _ => false

section
variable {A : Around} {s : Shared}
theorem rc_int {o : CmpOp} (ho : isOrd o = true) (a b : Int) (t u : Tok) : Ob.RcOp o A s (.int a t) (.int b u) (intOp o a b) := by
  cases o with
  | Lt => exact Ob.RcOp.lt_int a b t u
  | LtE => exact Ob.RcOp.le_int a b t u
  | Gt => exact Ob.RcOp.gt_int a b t u
  | GtE => exact Ob.RcOp.ge_int a b t u
  | _ => cases ho
theorem rc_tup {o : CmpOp} (ho : isOrd o = true) {l b : Addr} {items items2 : Array Value} {e r : Nat → Bool} (hl : s.heap.IsTuple l items) (hb : s.heap.IsTuple b items2) (hu : A.units < cLine)
    (he : ∀ j (h1 : j < items.size) (h2 : j < items2.size), SeqAt.EqAt A.in1 s items[j] items2[j] (e j))
    (hr : ∀ j (h1 : j < items.size) (h2 : j < items2.size), e j = false → Ob.RcOp o A.in1 s items[j] items2[j] (r j)) :
    Ob.RcOp o A s (.ref l) (.ref b) (Ob.lexAt e r (szOp o items.size items2.size) 0 (min items.size items2.size)) := by
  cases o with
  | Lt => exact Ob.RcOp.tuples_lt hl hb hu he hr
  | LtE => exact Ob.RcOp.tuples_le hl hb hu he hr
  | Gt => exact Ob.RcOp.tuples_gt hl hb hu he hr
  | GtE => exact Ob.RcOp.tuples_ge hl hb hu he hr
  | _ => cases ho
end
theorem readsAll_at {h : Heap} : ∀ (xs : List D) (vs : List Value) (as : List Addr), ReadsAll h vs xs as → vs.length = xs.length ∧ ∀ (j : Nat) (v : Value), vs[j]? = some v → ∃ d bs, xs[j]? = some d ∧ Reads h v d bs
  | [], _, _, .nil => ⟨rfl, fun j v e => by simp at e⟩
  | x :: xs, _, _, .cons r1 r2 => by
    obtain ⟨hl, ih⟩ := readsAll_at xs _ _ r2
    refine ⟨by rw [List.length_cons, List.length_cons, hl], fun j v e => ?_⟩
    cases j with
    | zero => simp at e; subst e; exact ⟨x, _, rfl, r1⟩
    | succ j => exact ih j v (by simpa using e)
theorem canLay_at : ∀ (xs : List D) (j : Nat) (d : D), PyData.canLayAll0 xs = true → xs[j]? = some d → d.canLay0 = true
  | [], _, _, _, e => by simp at e
  | x :: xs, 0, d, h, e => by
    have h' : x.canLay0 = true ∧ PyData.canLayAll0 xs = true := by simpa [PyData.canLayAll0] using h
    simp at e; subst e; exact h'.1
  | x :: xs, j + 1, d, h, e => by
    have h' : x.canLay0 = true ∧ PyData.canLayAll0 xs = true := by simpa [PyData.canLayAll0] using h
    exact canLay_at xs j d h'.2 (by simpa using e)
theorem depth_at : ∀ (xs : List D) (j : Nat) (d : D), xs[j]? = some d → d.depth ≤ PyData.depthAll xs
  | [], _, _, e => by simp at e
  | x :: xs, 0, d, e => by simp at e; subst e; exact Nat.le_max_left _ _
  | x :: xs, j + 1, d, e => Nat.le_trans (depth_at xs j d (by simpa using e)) (Nat.le_max_right _ _)

/-- the lexicographic walk by places, as one by lists -/
theorem lexAt_ordAll {o : CmpOp} {e r : Nat → Bool} {n m : Nat} : ∀ (xs ys : List D) (i : Nat) (b : Bool), (∀ (j : Nat) (x y : D), xs[j]? = some x → ys[j]? = some y → e (i + j) = PyData.eqv x y) →
    (∀ (j : Nat) (x y : D) (c : Bool), xs[j]? = some x → ys[j]? = some y → ordD o x y = some c → r (i + j) = c) → ordAll o xs ys n m = some b → Ob.lexAt e r (szOp o n m) i (min xs.length ys.length) = b
  | [], ys, i, b, he, hr, h => by
    unfold ordAll at h
    simp only [List.length_nil, Nat.zero_min, Ob.lexAt_zero]
    exact Option.some.inj h
  | x :: xs, [], i, b, he, hr, h => by
    unfold ordAll at h
    simp only [List.length_nil, Nat.min_zero, Ob.lexAt_zero]
    exact Option.some.inj h
  | x :: xs, y :: ys, i, b, he, hr, h => by
    unfold ordAll at h
    obtain ⟨c, hc, h⟩ := Option.bind_eq_some_iff.mp h
    have e0 : e i = PyData.eqv x y := he 0 x y rfl rfl
    rw [List.length_cons, List.length_cons, Nat.succ_min_succ, Ob.lexAt_succ, e0]
    split at h
    · rename_i hq
      cases h
      rw [if_pos hq]
      refine lexAt_ordAll xs ys (i + 1) b (fun j x' y' h1 h2 => ?_) (fun j x' y' c h1 h2 h3 => ?_) hc
      · rw [show i + 1 + j = i + (j + 1) by omega]
        exact he (j + 1) x' y' (by simpa using h1) (by simpa using h2)
      · rw [show i + 1 + j = i + (j + 1) by omega]
        exact hr (j + 1) x' y' c (by simpa using h1) (by simpa using h2) h3
    · rename_i hq
      rw [if_neg hq]
      exact hr 0 x y b rfl rfl h
/-- all pairs that differ are of an order -/
theorem ordAll_at {o : CmpOp} {n m : Nat} : ∀ (xs ys : List D) (b : Bool), ordAll o xs ys n m = some b → ∀ (j : Nat) (x y : D), xs[j]? = some x → ys[j]? = some y → PyData.eqv x y = false → ∃ c, ordD o x y = some c
  | [], ys, b, h, j, x, y, h1, h2, h3 => by simp at h1
  | x :: xs, [], b, h, j, x', y, h1, h2, h3 => by simp at h2
  | x :: xs, y :: ys, b, h, 0, x', y', h1, h2, h3 => by
    unfold ordAll at h
    obtain ⟨c, hc, h⟩ := Option.bind_eq_some_iff.mp h
    simp at h1 h2
    subst h1 h2
    rw [h3, if_neg Bool.false_ne_true] at h
    exact ⟨b, h⟩
  | x :: xs, y :: ys, b, h, j + 1, x', y', h1, h2, h3 => by
    unfold ordAll at h
    obtain ⟨c, hc, h⟩ := Option.bind_eq_some_iff.mp h
    exact ordAll_at xs ys c hc j x' y' (by simpa using h1) (by simpa using h2) h3

theorem ord_reads {o : CmpOp} (ho : isOrd o = true) : ∀ (n : Nat) (d e : D) (b : Bool) (A : Around) (s : Shared) (u v : Value) (as bs : List Addr), d.depth ≤ n → Reads s.heap u d as → Reads s.heap v e bs → d.canLay0 = true → e.canLay0 = true → A.units + n < cLine →
    ordD o d e = some b → Ob.RcOp o A s u v b := by
  intro n
  induction n with
  | zero =>
    intro d e b A s u v as bs hn ru rv cu cv hu h
    cases d with
    | int i =>
      cases e with
      | int j =>
        cases ru; cases rv
        have h' : some (intOp o i j) = some b := by rw [← h]; unfold ordD; rfl
        cases h'
        exact rc_int ho _ _ _ _
      | _ => unfold ordD at h; cases h
    | tuple xs => exact absurd hn (by unfold PyData.depth; omega)
    | _ => unfold ordD at h; cases h
  | succ n ih =>
    intro d e b A s u v as bs hn ru rv cu cv hu h
    cases d with
    | int i =>
      cases e with
      | int j =>
        cases ru; cases rv
        have h' : some (intOp o i j) = some b := by rw [← h]; unfold ordD; rfl
        cases h'
        exact rc_int ho _ _ _ _
      | _ => unfold ordD at h; cases h
    | tuple xs =>
      cases e with
      | tuple ys =>
        have h' : ordAll o xs ys xs.length ys.length = some b := by rw [← h]; unfold ordD; rfl
        have dx : PyData.depthAll xs ≤ n := by unfold PyData.depth at hn; omega
        have cx : PyData.canLayAll0 xs = true := by simpa only [PyData.canLay0] using cu
        have cy : PyData.canLayAll0 ys = true := by simpa only [PyData.canLay0] using cv
        cases ru with
        | @tuple a oa vs na _ as' a1 a2 a3 a4 =>
          cases rv with
          | @tuple a' ob ws nb _ bs' b1 b2 b3 b4 =>
            obtain ⟨l1, g1⟩ := readsAll_at xs _ _ a4
            obtain ⟨l2, g2⟩ := readsAll_at ys _ _ b4
            have z1 : vs.size = xs.length := by rw [← l1, Array.length_toList]
            have z2 : ws.size = ys.length := by rw [← l2, Array.length_toList]
            have at1 : ∀ j (h1 : j < vs.size), ∃ d bs, xs[j]? = some d ∧ Reads s.heap vs[j] d bs := fun j h1 => g1 j _ (by rw [Array.getElem?_toList, Array.getElem?_eq_getElem h1])
            have at2 : ∀ j (h1 : j < ws.size), ∃ d bs, ys[j]? = some d ∧ Reads s.heap ws[j] d bs := fun j h1 => g2 j _ (by rw [Array.getElem?_toList, Array.getElem?_eq_getElem h1])
            have key := rc_tup (A := A) (s := s) ho (l := a) (b := a') (items := vs) (items2 := ws)
              (e := fun j => PyData.eqv (xs.getD j .none) (ys.getD j .none)) (r := fun j => (ordD o (xs.getD j .none) (ys.getD j .none)).getD false) ⟨oa, a1, a2, na, a3⟩ ⟨ob, b1, b2, nb, b3⟩ (by omega) (fun j h1 h2 => by
                obtain ⟨x, cs, ex, rx⟩ := at1 j h1
                obtain ⟨y, ds, ey, ry⟩ := at2 j h2
                rw [List.getD_eq_getElem?_getD, List.getD_eq_getElem?_getD, ex, ey]
                have m1 := depth_at xs j x ex
                exact SeqAt.eqAt_reads x y A.in1 s _ _ _ _ rx ry (canLay_at xs j x cx ex) (canLay_at ys j y cy ey) (by
                  show A.units + 1 + min x.depth y.depth < cLine
                  have := Nat.min_le_left x.depth y.depth
                  omega)) (fun j h1 h2 hj => by
                obtain ⟨x, cs, ex, rx⟩ := at1 j h1
                obtain ⟨y, ds, ey, ry⟩ := at2 j h2
                rw [List.getD_eq_getElem?_getD, List.getD_eq_getElem?_getD, ex, ey] at hj ⊢
                obtain ⟨c, hc⟩ := ordAll_at xs ys b h' j x y ex ey hj
                simp only [Option.getD_some, hc]
                have m1 := depth_at xs j x ex
                exact ih x y c A.in1 s _ _ _ _ (by omega) rx ry (canLay_at xs j x cx ex) (canLay_at ys j y cy ey) (by
                  show A.units + 1 + n < cLine
                  omega) hc)
            rw [z1, z2] at key
            rw [lexAt_ordAll xs ys 0 b (fun j x y ex ey => by
              rw [Nat.zero_add]
              simp only [List.getD_eq_getElem?_getD, ex, ey, Option.getD_some]) (fun j x y c ex ey hc => by
              rw [Nat.zero_add]
              simp only [List.getD_eq_getElem?_getD, ex, ey, Option.getD_some, hc]) h'] at key
            exact key
      | _ => unfold ordD at h; cases h
    | _ => unfold ordD at h; cases h

/-! ### comparisons by their meanings -/
/-- x is y, where y is None, True or False -/
def sameD : D → D → Option Bool
  | .none, .none => some true
  | .bool _, .none => some false
  | .int _, .none => some false
  | .str _, .none => some false
  | .list _, .none => some false
  | .tuple _, .none => some false
  | .dict _, .none => some false
  | .bool a, .bool b => some (a == b)
  | .none, .bool _ => some false
  | .int _, .bool _ => some false
  | .str _, .bool _ => some false
  | .list _, .bool _ => some false
  | .tuple _, .bool _ => some false
  | .dict _, .bool _ => some false
  | _, _ => none
/-- within a list, a tuple, a text -/
def inD (d e : D) : Option Bool :=
  match e with
  | .list ds => if SeqAt.shaped d = true ∧ SeqAt.shaped (.list ds) = true then some (ds.any fun z => PyData.eqv z d) else none
  | .tuple ds => if SeqAt.shaped d = true ∧ SeqAt.shaped (.tuple ds) = true then some (ds.any fun z => PyData.eqv z d) else none
  | .str y => (match d with
    | .str x => some (!(Builtin.Str.occurrences y x 0 y.length 1).isEmpty)
    | _ => none)
  | _ => none
def eqD (d e : D) : Option Bool := if SeqAt.shaped d = true ∧ SeqAt.shaped e = true then some (PyData.eqv d e) else none
def ltD (o : CmpOp) (d e : D) : Option Bool := if SeqAt.shaped d = true ∧ SeqAt.shaped e = true then ordD o d e else none
def cmpB (o : CmpOp) (d e : D) : Option Bool :=
  match o with
  | .Eq => eqD d e
  | .NotEq => (eqD d e).map not
  | .Is => sameD d e
  | .IsNot => (sameD d e).map not
  | .In => inD d e
  | .NotIn => (inD d e).map not
  | o => ltD o d e
def cmpD (o : CmpOp) (d e : D) : Option S := if isDict d = true ∨ isDict e = true then none else (cmpB o d e).map fun b => .val (.bool b)

section
variable {X : Cx}
theorem cmp_of {f : Value → Value → Sem Value} {g : D → D → Option Bool}
    (h : ∀ (pins : List (Addr × Obj)) (s : Shared) (σ : L2.St) (H : Hp) (x y : V) (v u : Value) (Q : VK) (d e : D) (b : Bool), Inv X pins σ H s → RelV x v → RelV y u → Dp X.K H x d → Dp X.K H y e → g d e = some b → Q (.bl b) H →
      wpAny (model X.prog X.w) X.A (f v u) (EP X pins σ Q) X.xe s) : OpR X f (rOp2 X.w X.K fun d e => if isDict d = true ∨ isDict e = true then none else (g d e).map fun b => .val (.bool b)) := by
  intro pins s σ H x y v u Q I rx ry h'
  obtain ⟨Y, d, e, o, yd, px, py, hg, q⟩ := h'
  dsimp only at hg
  split at hg
  · cases hg
  · rename_i hd
    obtain ⟨b, hb, rfl⟩ := Option.map_eq_some_iff.mp hg
    exact h pins s σ H x y v u Q d e b I rx ry (px.dp (by simpa using fun z => hd (.inl z))) (py.dp (by simpa using fun z => hd (.inr z))) hb q.bl
theorem eq_of {d e : D} {b : Bool} (h : eqD d e = some b) : SeqAt.shaped d = true ∧ SeqAt.shaped e = true ∧ PyData.eqv d e = b := by
  unfold eqD at h
  split at h
  · rename_i hz
    exact ⟨hz.1, hz.2, Option.some.inj h⟩
  · cases h
theorem op_cmpEq (hu : X.A.units + 200 < cLine) : OpR X (compareOp .Eq) (rOp2 X.w X.K (cmpD .Eq)) :=
  cmp_of fun pins s σ H x y v u Q d e b I rx ry px py hb q => by
    obtain ⟨s1, s2, rfl⟩ := eq_of hb
    exact op_eqD (by omega) pins s σ H x y v u Q I rx ry ⟨d, e, px, py, s1, s2, q⟩
theorem op_cmpNe (hu : X.A.units + 200 < cLine) : OpR X (compareOp .NotEq) (rOp2 X.w X.K (cmpD .NotEq)) :=
  cmp_of fun pins s σ H x y v u Q d e b I rx ry px py hb q => by
    obtain ⟨c, hc, rfl⟩ := Option.map_eq_some_iff.mp (show (eqD d e).map not = some b from hb)
    obtain ⟨s1, s2, rfl⟩ := eq_of hc
    exact op_neD (by omega) pins s σ H x y v u Q I rx ry ⟨d, e, px, py, s1, s2, q⟩
theorem op_cmpOrd (hu : X.A.units + 200 < cLine) {o : CmpOp} (ho : isOrd o = true) : OpR X (compareOp o) (rOp2 X.w X.K (cmpD o)) :=
  cmp_of fun pins s σ H x y v u Q d e b I rx ry px py hb q => by
    have hb' : ltD o d e = some b := by rw [← hb]; cases o <;> first | rfl | cases ho
    unfold ltD at hb'
    split at hb'
    · rename_i hz
      obtain ⟨as, r1⟩ := Dp.reads I d x v px rx
      obtain ⟨bs, r2⟩ := Dp.reads I e y u py ry
      have z := ord_reads ho 64 d e b X.A s v u as bs (SeqAt.depth_of_shaped hz.1) r1 r2 (SeqAt.canLay_of_shaped hz.1) (SeqAt.canLay_of_shaped hz.2) (by omega) hb' X.prog X.w X.xe (EP X pins σ Q) ⟨.bl _, H, I, rfl, q⟩
      have e : compareOp o v u = richCompare o v u := by cases o <;> first | rfl | cases ho
      rw [e]
      exact z
    · cases hb'
theorem val_of {K : PySem.W.Frag} {H : Hp} {x : V} {v : Value} {d : D} (h : Dp K H x d) (r : RelV x v) :
    match d with
    | .none => v = .none
    | .bool b => v = .bool b
    | .int i => ∃ t, v = .int i t
    | .str z => ∃ t, v = .str z t
    | .list _ => ∃ a, v = .ref a
    | .tuple _ => ∃ a, v = .ref a
    | .dict _ => ∃ a, v = .ref a := by
  cases h with
  | non => exact r
  | bl b => exact r
  | int i => exact r
  | str z => exact r
  | lst _ _ => exact ⟨_, r⟩
  | tup _ _ => exact ⟨_, r⟩
theorem is_const {K : PySem.W.Frag} {H : Hp} {x y : V} {v u : Value} {d e : D} {b : Bool} (px : Dp K H x d) (py : Dp K H y e) (rx : RelV x v) (ry : RelV y u) (h : sameD d e = some b) : plainIs v u = true ∧ (v == u) = b := by
  have a1 := val_of px rx
  have a2 := val_of py ry
  cases e with
  | none =>
    simp only at a2
    subst a2
    cases d with
    | none => simp only at a1; subst a1; cases h; exact ⟨rfl, rfl⟩
    | bool c => simp only at a1; subst a1; cases h; exact ⟨rfl, rfl⟩
    | int i => obtain ⟨t, rfl⟩ := a1; cases h; exact ⟨rfl, rfl⟩
    | str i => obtain ⟨t, rfl⟩ := a1; cases h; exact ⟨rfl, rfl⟩
    | list ds => obtain ⟨t, rfl⟩ := a1; cases h; exact ⟨rfl, rfl⟩
    | tuple ds => obtain ⟨t, rfl⟩ := a1; cases h; exact ⟨rfl, rfl⟩
    | dict ds => obtain ⟨t, rfl⟩ := a1; cases h; exact ⟨rfl, rfl⟩
  | bool c' =>
    simp only at a2
    subst a2
    cases d with
    | none => simp only at a1; subst a1; cases h; exact ⟨rfl, rfl⟩
    | bool c => simp only at a1; subst a1; cases h; cases c <;> cases c' <;> exact ⟨rfl, rfl⟩
    | int i => obtain ⟨t, rfl⟩ := a1; cases h; exact ⟨rfl, rfl⟩
    | str i => obtain ⟨t, rfl⟩ := a1; cases h; exact ⟨rfl, rfl⟩
    | list ds => obtain ⟨t, rfl⟩ := a1; cases h; exact ⟨rfl, rfl⟩
    | tuple ds => obtain ⟨t, rfl⟩ := a1; cases h; exact ⟨rfl, rfl⟩
    | dict ds => obtain ⟨t, rfl⟩ := a1; cases h; exact ⟨rfl, rfl⟩
  | _ => cases d <;> cases h
theorem op_cmpIs : OpR X (compareOp .Is) (rOp2 X.w X.K (cmpD .Is)) :=
  cmp_of fun pins s σ H x y v u Q d e b I rx ry px py hb q => by
    obtain ⟨h1, h2⟩ := is_const px py rx ry hb
    exact wpAny_is_plain h1 (by rw [h2]; exact ⟨.bl _, H, I, rfl, q⟩)
theorem op_cmpIsNot : OpR X (compareOp .IsNot) (rOp2 X.w X.K (cmpD .IsNot)) :=
  cmp_of fun pins s σ H x y v u Q d e b I rx ry px py hb q => by
    obtain ⟨c, hc, rfl⟩ := Option.map_eq_some_iff.mp (show (sameD d e).map not = some b from hb)
    obtain ⟨h1, h2⟩ := is_const px py rx ry hc
    exact wpAny_isNot_plain h1 (by rw [h2]; exact ⟨.bl _, H, I, rfl, q⟩)
theorem in_cases {d e : D} {b : Bool} (h : inD d e = some b) : (∃ ds, e = .list ds ∧ SeqAt.shaped d = true ∧ SeqAt.shaped (.list ds) = true ∧ b = ds.any fun z => PyData.eqv z d) ∨
    (∃ ds, e = .tuple ds ∧ SeqAt.shaped d = true ∧ SeqAt.shaped (.tuple ds) = true ∧ b = ds.any fun z => PyData.eqv z d) ∨ ∃ x y, d = .str x ∧ e = .str y ∧ b = !(Builtin.Str.occurrences y x 0 y.length 1).isEmpty := by
  cases e with
  | list ds =>
    have h : (if SeqAt.shaped d = true ∧ SeqAt.shaped (.list ds) = true then some (ds.any fun z => PyData.eqv z d) else none) = some b := h
    by_cases hz : SeqAt.shaped d = true ∧ SeqAt.shaped (.list ds) = true
    · rw [if_pos hz] at h
      exact .inl ⟨ds, rfl, hz.1, hz.2, (Option.some.inj h).symm⟩
    · rw [if_neg hz] at h; cases h
  | tuple ds =>
    have h : (if SeqAt.shaped d = true ∧ SeqAt.shaped (.tuple ds) = true then some (ds.any fun z => PyData.eqv z d) else none) = some b := h
    by_cases hz : SeqAt.shaped d = true ∧ SeqAt.shaped (.tuple ds) = true
    · rw [if_pos hz] at h
      exact .inr (.inl ⟨ds, rfl, hz.1, hz.2, (Option.some.inj h).symm⟩)
    · rw [if_neg hz] at h; cases h
  | str y =>
    cases d with
    | str x => exact .inr (.inr ⟨x, y, rfl, rfl, (Option.some.inj h).symm⟩)
    | _ => cases h
  | _ => cases h
theorem op_cmpIn (hu : X.A.units + 200 < cLine) : OpR X (compareOp .In) (rOp2 X.w X.K (cmpD .In)) :=
  cmp_of fun pins s σ H x y v u Q d e b I rx ry px py hb q => by
    rcases in_cases hb with ⟨ds, rfl, s1, s2, rfl⟩ | ⟨ds, rfl, s1, s2, rfl⟩ | ⟨a, c, rfl, rfl, rfl⟩
    · exact op_inD (by omega) pins s σ H x y v u Q I rx ry ⟨d, ds, px, py, s1, s2, q⟩
    · obtain ⟨as, r1⟩ := Dp.reads I d x v px rx
      obtain ⟨bs, r2⟩ := Dp.reads I (.tuple ds) y u py ry
      exact SeqAt.in_tuple_reads r2 r1 (SeqAt.canLay_of_shaped s2) (SeqAt.canLay_of_shaped s1) (PyProof.Rows.room_in_shaped s1 (by omega)) ⟨.bl _, H, I, rfl, q⟩
    · cases px; cases py
      exact op_in_str pins s σ H _ _ v u Q I rx ry ⟨_, _, rfl, rfl, q⟩
theorem op_cmpNotIn (hu : X.A.units + 200 < cLine) : OpR X (compareOp .NotIn) (rOp2 X.w X.K (cmpD .NotIn)) :=
  cmp_of fun pins s σ H x y v u Q d e b I rx ry px py hb q => by
    obtain ⟨c, hc, rfl⟩ := Option.map_eq_some_iff.mp (show (inD d e).map not = some b from hb)
    rcases in_cases hc with ⟨ds, rfl, s1, s2, rfl⟩ | ⟨ds, rfl, s1, s2, rfl⟩ | ⟨a, c, rfl, rfl, rfl⟩
    · exact op_notInD (by omega) pins s σ H x y v u Q I rx ry ⟨d, ds, px, py, s1, s2, q⟩
    · obtain ⟨as, r1⟩ := Dp.reads I d x v px rx
      obtain ⟨bs, r2⟩ := Dp.reads I (.tuple ds) y u py ry
      exact SeqAt.notIn_tuple_reads r2 r1 (SeqAt.canLay_of_shaped s2) (SeqAt.canLay_of_shaped s1) (PyProof.Rows.room_in_shaped s1 (by omega)) ⟨.bl _, H, I, rfl, q⟩
    · cases px; cases py
      exact op_notIn_str pins s σ H _ _ v u Q I rx ry ⟨_, _, rfl, rfl, q⟩
theorem op_cmp (hu : X.A.units + 200 < cLine) (o : CmpOp) : OpR X (compareOp o) (rOp2 X.w X.K (cmpD o)) := by
  cases o with
  | Eq => exact op_cmpEq hu
  | NotEq => exact op_cmpNe hu
  | Is => exact op_cmpIs
  | IsNot => exact op_cmpIsNot
  | In => exact op_cmpIn hu
  | NotIn => exact op_cmpNotIn hu
  | Lt => exact op_cmpOrd hu rfl
  | LtE => exact op_cmpOrd hu rfl
  | Gt => exact op_cmpOrd hu rfl
  | GtE => exact op_cmpOrd hu rfl
end
end DL

/-! sum(x, ()) of tuples, over the heap -/
namespace DLr
open PySem PyProof.Rows
open PySem.Sem (wp)
theorem args_sum2 (a b : Value) : argsOk "sum" ⟨[a, b], []⟩ := by unfold argsOk; kernel_rfl
theorem sub_tup_str : isSubtype (.type "tuple") (.type "str") = pure false := by rw [isSubtype_type]; kernel_rfl
theorem sub_tup_bytes : isSubtype (.type "tuple") (.type "bytes") = pure false := by rw [isSubtype_type]; kernel_rfl
theorem sub_tup_bytearray : isSubtype (.type "tuple") (.type "bytearray") = pure false := by rw [isSubtype_type]; kernel_rfl
section
variable {prog : Program} {w : World} {A : Around} {E : Value → Shared → Prop} {s : Shared}
theorem add_tups {t b : Addr} {vs ws : List Value} {Q : Value → Shared → Prop} (ht : IsTup s.heap t vs.toArray) (hb : IsTup s.heap b ws.toArray)
    (h0 : vs = [] → Q (.ref b) s) (h1 : vs ≠ [] → ws = [] → Q (.ref t) s)
    (h2 : vs ≠ [] → ws ≠ [] → Q (.ref s.heap.objs.size) { s with heap := s.heap.push { cls := .type "tuple", data := .seq (vs ++ ws).toArray } })
    (hsz : vs.length + ws.length ≤ sizeLine) :
    wpAny (model prog w) A (binaryOp .Add (.ref t) (.ref b)) Q E s := by
  obtain ⟨⟨cls, dd, data, sl⟩, ho, hc, n, hd⟩ := id ht
  obtain ⟨⟨cls2, dd2, data2, sl2⟩, ho2, hc2, n2, hd2⟩ := id hb
  simp only at hc hd hc2 hd2
  subst hc hd hc2 hd2
  have e : vs.toArray ++ ws.toArray = (vs ++ ws).toArray := by simp
  by_cases hv : vs = []
  · exact concat_meets ⟨_, ho, rfl⟩ ⟨_, ho2, rfl⟩ noFill_tuple_add seq_tuple_add PySem.F.slot_tuple_add PySem.F.entry_tuple_add (PySem.F.args_tuple_add_2 _ _)
      (tuple_addW0 t b vs.toArray ws.toArray n n2 dd dd2 sl sl2 (by simp [hv])) ⟨ho, ho2, h0 hv⟩
  · by_cases hw : ws = []
    · exact concat_meets ⟨_, ho, rfl⟩ ⟨_, ho2, rfl⟩ noFill_tuple_add seq_tuple_add PySem.F.slot_tuple_add PySem.F.entry_tuple_add (PySem.F.args_tuple_add_2 _ _)
        (tuple_addW1 t b vs.toArray ws.toArray n n2 dd dd2 sl sl2 (by simpa using hv) (by simp [hw])) ⟨ho, ho2, h1 hv hw⟩
    · refine concat_meets ⟨_, ho, rfl⟩ ⟨_, ho2, rfl⟩ noFill_tuple_add seq_tuple_add PySem.F.slot_tuple_add PySem.F.entry_tuple_add (PySem.F.args_tuple_add_2 _ _)
        (tuple_addW2 t b vs.toArray ws.toArray n n2 dd dd2 sl sl2 (by simpa using hv) (by simpa using hw) (by rw [List.size_toArray, List.size_toArray]; exact hsz)) ⟨ho, ho2, ?_⟩
      rw [e]
      exact h2 hv hw
end
/-- where a sum comes from: it is new, or it was there ahead of all -/
def Src (Old : Addr → List Value → Prop) (N : Nat) (r : Addr) (xs : List Value) : Prop := N ≤ r ∨ Old r xs
def tot (cont : Nat → List Value) : Nat → List Value
  | 0 => []
  | i + 1 => tot cont i ++ cont i
section
variable {prog : Program} {w : World} {A : Around} {R : Result → Shared → Prop} {I : Addr} {fp wr : List Addr} {n : Nat} {P : Nat → Value → Prop} {St : Nat → Heap → Prop}
theorem sum_loop (W : Walks prog w A.in1 I fp wr n P St) (h0 : Heap) (Old : Addr → List Value → Prop) (N : Nat) (cont : Nat → List Value) (S : Addr) (hfpS : ∀ b ∈ fp, b < S) (hNS : N ≤ S) (hlen : ∀ i, i ≤ n → (tot cont i).length ≤ sizeLine)
    (hP : ∀ i v, P i v → ∃ b, v = .ref b ∧ b ∉ wr ∧ b ≠ S ∧ IsTup h0 b (cont i).toArray ∧ Old b (cont i)) :
    ∀ (k i : Nat) (s : Shared) (r : Addr) (c : Nat), n - i = k → i ≤ n → St i s.heap → s.heap.get? S = some { cls := .type "list", dict := none, data := .seq #[.ref r] c, slots := #[] } →
    (∀ b o, b ∉ wr → b ≠ S → h0.get? b = some o → s.heap.get? b = some o) → IsTup s.heap r (tot cont i).toArray → r ∉ wr → r ≠ S → Src Old N r (tot cont i) →
    (∀ h' tk r', (∀ b o, b ∉ wr → b ≠ S → s.heap.get? b = some o → h'.get? b = some o) → IsTup h' r' (tot cont n).toArray → r' ≠ S → Src Old N r' (tot cont n) → R (.ok (.ret (.ref r'))) { s with heap := h', toks := tk }) →
    codeAny (model prog w) A (.builtin "sum.loop" ⟨[.ref I, .ref S, rawInt 2, rawInt 0], []⟩) R s := by
  have hSf : S ∉ fp := fun h => Nat.lt_irrefl _ (hfpS S h)
  have hSw : S ∉ wr := fun h => hSf (W.sub _ h)
  intro k
  induction k with
  | zero =>
    intro i s r c hk hi hst hS hold hr hrf hrS hsrc hR
    have hin : i = n := by omega
    subst hin
    refine codeAny_builtin F.entry_sum_loop ?_
    rw [Around.under_plainId F.plain_sum_loop _]
    show wpAny _ A.in1 (seqItems? (.ref S) >>= _) _ _ s
    refine wpAny_bind (wpAny_seqItems hS rfl ?_)
    show wpAny _ A.in1 (tryCatch (pyNext (.ref I)) _ >>= _) _ _ s
    refine wpAny_bind (wpAny_tryCatch (W.done s _ _ hst fun h' tk hk' => ?_))
    exact wpAny_pure (hR h' tk r (fun b o hbw _ e => hk' b o hbw e) (by obtain ⟨o, e, q⟩ := hr; exact ⟨o, hk' _ _ hrf e, q⟩) hrS hsrc)
  | succ k ih =>
    intro i s r c hk hi hst hS hold hr hrf hrS hsrc hR
    have hlt : i < n := by omega
    refine codeAny_builtin F.entry_sum_loop ?_
    rw [Around.under_plainId F.plain_sum_loop _]
    show wpAny _ A.in1 (seqItems? (.ref S) >>= _) _ _ s
    refine wpAny_bind (wpAny_seqItems hS rfl ?_)
    show wpAny _ A.in1 (tryCatch (pyNext (.ref I)) _ >>= _) _ _ s
    refine wpAny_bind (wpAny_tryCatch (W.item i s _ _ hlt hst fun v h' tk hPv hst' hk' => ?_))
    obtain ⟨b, rfl, hbf, hbS, hb, hbo⟩ := hP i v hPv
    have hbw : b ∉ wr := hbf
    have hS' := hk' S _ hSw hS
    have hr' : IsTup h' r (tot cont i).toArray := by obtain ⟨o, e, q⟩ := hr; exact ⟨o, hk' _ _ hrf e, q⟩
    have hb' : IsTup h' b (cont i).toArray := by obtain ⟨o, e, q⟩ := hb; exact ⟨o, hk' _ _ hbw (hold _ _ hbw hbS e), q⟩
    have hSl : S < h'.objs.size := Heap.lt_size hS'
    have hl := hlen (i + 1) hlt
    have el : (tot cont (i + 1)).length = (tot cont i).length + (cont i).length := by show (tot cont i ++ cont i).length = _; rw [List.length_append]
    have hkeep : ∀ b o, b ∉ wr → b ≠ S → s.heap.get? b = some o → h'.get? b = some o := fun b o hb _ e => hk' b o hb e
    -- a turn's end, the new total at r2 in h2
    have fin : ∀ (h2 : Heap) (r2 : Addr), (∀ b o, b ≠ S → h'.get? b = some o → h2.get? b = some o) → h2.get? S = some { cls := .type "list", dict := none, data := .seq #[.ref r] c, slots := #[] } → IsTup h2 r2 (tot cont (i + 1)).toArray → r2 ∉ wr → r2 ≠ S → Src Old N r2 (tot cont (i + 1)) →
        wpAny (model prog w) A.in1 (do updateSeq S fun _ => #[.ref r2]; letGo [.ref r, .ref b]; updateSeq S fun _ => #[.ref r2]; again (.builtin "sum.loop" ⟨[.ref I, .ref S, rawInt 2, rawInt 0], []⟩)) (fun fin s' => match fin with
          | .done fl => R (.ok fl) s'
          | .again c => c.quiet = true ∧ codeAny (model prog w) A c R s') (fun e s' => R (.error e) s') { s with heap := h2, toks := tk } := fun h2 r2 k2 hS2 hr2 hf2 hs2 src2 => by
      refine wpAny_bind ?_
      refine wpAny_updateSeq hS2 rfl ?_
      have hS3 := Heap.get?_update_self (Obj.mapSeq fun _ => #[Value.ref r2]) hS2 rfl
      refine wpAny_bind (wpAny_letGo ?_)
      refine wpAny_bind ?_
      have up : ∀ b o, b ≠ S → h2.get? b = some o → ((h2.update S (Obj.mapSeq fun _ => #[Value.ref r2])).update S (Obj.mapSeq fun _ => #[Value.ref r2])).get? b = some o := fun b o hb e =>
        (Heap.get?_update_other _ _ (Ne.symm hb)).trans ((Heap.get?_update_other _ _ (Ne.symm hb)).trans e)
      refine wpAny_updateSeq hS3 rfl (wpAny_pure ⟨plainId_quiet F.plain_sum_loop _, ih (i + 1) _ r2 _ (by omega) hlt (W.frame _ _ _ hst' fun b hb o e => ?_) (Heap.get?_update_self _ hS3 rfl) (fun b o hb hs e => ?_) ?_ hf2 hs2 src2 fun h'' tk'' t'' hk'' q1 q2 q3 => ?_⟩)
      · have hbS : b ≠ S := fun z => hSf (by rw [← z]; exact hb)
        exact up b o hbS (k2 b o hbS e)
      · exact up b o hs (k2 b o hs (hk' b o hb (hold b o hb hs e)))
      · obtain ⟨o, e, q⟩ := hr2
        exact ⟨o, up _ _ hs2 e, q⟩
      · exact hR h'' tk'' t'' (fun b o hbw hbS e => hk'' b o hbw hbS (up b o hbS (k2 b o hbS (hk' b o hbw e)))) q1 q2 q3
    show wpAny _ A.in1 ((holding [Value.ref b] (binaryOp .Add (.ref r) (.ref b))).attempt >>= _) _ _ _
    refine wpAny_bind (wpAny_attempt (wpAny_holding (add_tups hr' hb' (fun hv => ?_) (fun hv hw => ?_) (fun hv hw => ?_) (by omega))))
    · have e1 : tot cont (i + 1) = cont i := by show tot cont i ++ cont i = _; rw [hv]; rfl
      exact fin h' b (fun _ _ _ e => e) hS' (by rw [e1]; exact hb') hbf hbS (.inr (by rw [e1]; exact hbo))
    · have e1 : tot cont (i + 1) = tot cont i := by show tot cont i ++ cont i = _; rw [hw, List.append_nil]
      exact fin h' r (fun _ _ _ e => e) hS' (by rw [e1]; exact hr') hrf hrS (by rw [e1]; exact hsrc)
    · refine fin _ h'.objs.size (fun b o _ e => Heap.get?_push_of_some _ e) (Heap.get?_push_of_some _ hS') ⟨_, Heap.get?_push_size _ rfl, rfl, 0, rfl⟩ (fun z => ?_) (Nat.ne_of_gt hSl) (.inl (Nat.le_trans hNS (Nat.le_of_lt hSl)))
      have := hfpS _ (W.sub _ z)
      exact absurd (Nat.lt_trans this hSl) (Nat.lt_irrefl _)
end
section
variable {prog : Program} {w : World} {A : Around} {E : Value → Shared → Prop} {s : Shared}
theorem call_sum_walkT {x : Value} {z : Addr} {Q : Value → Shared → Prop} (Old : Addr → List Value → Prop) (hzo : Old z []) (hz : IsTup s.heap z ([] : List Value).toArray)
    (h : wpAny (model prog w) A.in1 (pyIter x) (fun it s₂ => ∃ I fp wr n P St cont, it = .ref I ∧ Walks prog w A.in1 I fp wr n P St ∧ St 0 s₂.heap ∧ (∀ b ∈ fp, b < s₂.heap.objs.size) ∧ (∀ b o, s.heap.get? b = some o → s₂.heap.get? b = some o) ∧ z ∉ wr ∧
      (∀ i, i ≤ n → (tot cont i).length ≤ sizeLine) ∧ (∀ i v, P i v → ∃ b, v = .ref b ∧ b ∉ wr ∧ IsTup s.heap b (cont i).toArray ∧ Old b (cont i)) ∧
      ∀ h' tk r, (∀ b o, b ∉ wr → s₂.heap.get? b = some o → h'.get? b = some o) → IsTup h' r (tot cont n).toArray → Src Old s₂.heap.objs.size r (tot cont n) → Q (.ref r) { s₂ with heap := h', toks := tk }) E s) :
    wpAny (model prog w) A (call (.builtin "sum") [x, .ref z]) Q E s := by
  refine call_function_tree F.kind_sum F.plain_sum F.entry_sum (args_sum2 _ _) ?_
  unfold Builtin.«sum»
  simp only [List.length_cons, List.length_nil]
  rw [if_neg (by decide)]
  refine wpAny_bind (wpAny_of_eq (show Builtin.Builtins.bindParams "sum" ["start"] 0 ⟨[.ref z], []⟩ = pure [some (.ref z)] from rfl) ?_)
  refine wpAny_bind (wpAny_mono h (fun it s₂ h₂ => ?_) fun _ _ e => e)
  obtain ⟨I, fp, wr, n, P, St, cont, rfl, W, hst, hfp, hold, hzf, hlen, hP, hQ⟩ := h₂
  have hz2 : IsTup s₂.heap z ([] : List Value).toArray := by obtain ⟨o, e, q⟩ := hz; exact ⟨o, hold _ _ e, q⟩
  have hT : s₂.TypeIs (.ref z) "tuple" := by obtain ⟨o, e, c, _⟩ := hz2; exact ⟨o, e, c⟩
  have hzl : z < s₂.heap.objs.size := by obtain ⟨o, e, _⟩ := hz2; exact Heap.lt_size e
  refine wpAny_bind (wpAny_pure ?_)
  simp only [List.forIn_cons, List.forIn_nil]
  refine wpAny_bind (wpAny_bind (wpAny_bind (wpAny_isInstance (T := "tuple") (b := false) hT sub_tup_str ?_)))
  simp only [Bool.false_eq_true, if_false]
  refine wpAny_pure (wpAny_bind (wpAny_bind (wpAny_isInstance (T := "tuple") (b := false) hT sub_tup_bytes ?_)))
  simp only [Bool.false_eq_true, if_false]
  refine wpAny_pure (wpAny_bind (wpAny_bind (wpAny_isInstance (T := "tuple") (b := false) hT sub_tup_bytearray ?_)))
  simp only [Bool.false_eq_true, if_false]
  refine wpAny_pure (wpAny_pure ?_)
  refine wpAny_bind (wpAny_newObj_type ?_)
  refine wpAny_pure ⟨plainId_quiet F.plain_sum_loop _, sum_loop W s.heap Old s₂.heap.objs.size cont s₂.heap.objs.size hfp (Nat.le_refl _) hlen (fun i v hp => ?_) n 0 _ z 0 rfl (Nat.zero_le _)
    (W.frame _ _ _ hst fun b _ o e => Heap.get?_push_of_some _ e) (Heap.get?_push_size _ rfl) (fun b o _ _ e => Heap.get?_push_of_some _ (hold b o e)) ?_ hzf (Nat.ne_of_lt hzl) (.inr hzo) fun h' tk r hk hr hrS hsrc => ?_⟩
  · obtain ⟨b, rfl, hbf, hb, hbo⟩ := hP i v hp
    refine ⟨b, rfl, hbf, ?_, hb, hbo⟩
    obtain ⟨o, e, _⟩ := hb
    exact Nat.ne_of_lt (Heap.lt_size (hold _ _ e))
  · obtain ⟨o, e, q⟩ := hz2
    exact ⟨o, Heap.get?_push_of_some _ e, q⟩
  · exact hQ h' tk r (fun b o hbw e => hk b o hbw (Nat.ne_of_lt (Heap.lt_size e)) (Heap.get?_push_of_some _ e)) hr hsrc
/-- sum(x, ()): x a list or a tuple at l, its items at bs -/
theorem call_sum_tups (Old : Addr → List Value → Prop) {l z : Addr} {k : Bool} {bs : List Addr} {conts : List (List Value)} {Q : Value → Shared → Prop} (hh : A.handled = none) (hl : if k = true then s.heap.IsList l (bs.map Value.ref).toArray else s.heap.IsTuple l (bs.map Value.ref).toArray)
    (hz : IsTup s.heap z ([] : List Value).toArray) (hzo : Old z []) (hbo : ∀ (i : Nat) (b : Addr) (c : List Value), bs[i]? = some b → conts[i]? = some c → Old b c) (hb : ∀ (i : Nat) (b : Addr) (c : List Value), bs[i]? = some b → conts[i]? = some c → IsTup s.heap b c.toArray) (hlen : bs.length = conts.length) (hsz : conts.flatten.length ≤ sizeLine)
    (hQ : ∀ h' tk r, (∀ b o, s.heap.get? b = some o → h'.get? b = some o) → IsTup h' r conts.flatten.toArray → Src Old s.heap.objs.size r conts.flatten → Q (.ref r) { s with heap := h', toks := tk }) :
    wpAny (model prog w) A (call (.builtin "sum") [.ref l, .ref z]) Q E s := by
  have htot : ∀ i, i ≤ conts.length → tot (fun i => conts.getD i []) i = (conts.take i).flatten := fun i => by
    induction i with
    | zero => intro _; rfl
    | succ i ih =>
      intro hi
      show tot _ i ++ conts.getD i [] = _
      rw [ih (by omega), List.take_succ, List.flatten_append, List.getD_eq_getElem?_getD, List.getElem?_eq_getElem (show i < conts.length by omega)]
      simp
  have hfull : tot (fun i => conts.getD i []) (bs.map Value.ref).toArray.size = conts.flatten := by rw [List.size_toArray, List.length_map, hlen, htot _ (Nat.le_refl _), List.take_length]
  have hll : l < s.heap.objs.size := by
    cases k with
    | true => obtain ⟨o, e, _⟩ := hl; exact Heap.lt_size e
    | false => obtain ⟨o, e, _⟩ := hl; exact Heap.lt_size e
  have hlens : ∀ i, i ≤ (bs.map Value.ref).toArray.size → (tot (fun i => conts.getD i []) i).length ≤ sizeLine := fun i hi => by
    rw [List.size_toArray, List.length_map, hlen] at hi
    rw [htot i hi]
    have : (conts.take i).flatten.length ≤ conts.flatten.length := by
      conv => rhs; rw [← List.take_append_drop i conts]
      rw [List.flatten_append, List.length_append]
      omega
    omega
  have hzs : z < s.heap.objs.size := by obtain ⟨o, e, _⟩ := hz; exact Heap.lt_size e
  have hzf : z ∉ [s.heap.objs.size] := fun q => absurd hzs (by rw [List.mem_singleton.mp q]; exact Nat.lt_irrefl _)
  have hPv : ∀ (i : Nat) (v : Value), (bs.map Value.ref).toArray[i]? = some v → ∃ b, v = .ref b ∧ b ∉ [s.heap.objs.size] ∧ IsTup s.heap b (conts.getD i []).toArray ∧ Old b (conts.getD i []) := fun i v hv => by
    rw [List.getElem?_toArray, List.getElem?_map] at hv
    obtain ⟨b, hb1, rfl⟩ := Option.map_eq_some_iff.mp hv
    have hi : i < conts.length := by rw [← hlen]; exact (List.getElem?_eq_some_iff.mp hb1).1
    have hc : conts[i]? = some conts[i] := List.getElem?_eq_getElem hi
    have ht := hb i b _ hb1 hc
    refine ⟨b, rfl, fun q => ?_, by rw [List.getD_eq_getElem?_getD, hc]; exact ht, by rw [List.getD_eq_getElem?_getD, hc]; exact hbo i b _ hb1 hc⟩
    obtain ⟨o, e, _⟩ := ht
    exact absurd (Heap.lt_size e) (by rw [List.mem_singleton.mp q]; exact Nat.lt_irrefl _)
  have hfp : ∀ (ob : Obj), ∀ b ∈ [s.heap.objs.size, l], b < (s.heap.push ob).objs.size := fun ob b hb => by
    rw [Heap.size_push]
    rcases List.mem_cons.mp hb with rfl | hb
    · exact Nat.lt_succ_self _
    · obtain rfl := List.mem_singleton.mp hb
      exact Nat.lt_succ_of_lt hll
  have hwr : ∀ (ob : Obj) (h' : Heap), (∀ b o, b ∉ [s.heap.objs.size] → (s.heap.push ob).get? b = some o → h'.get? b = some o) → ∀ b o, s.heap.get? b = some o → h'.get? b = some o := fun ob h' hk b o e =>
    hk b o (fun q => absurd (Heap.lt_size e) (by rw [List.mem_singleton.mp q]; exact Nat.lt_irrefl _)) (Heap.get?_push_of_some _ e)
  have src : ∀ (ob : Obj) (r : Addr) (xs : List Value), Src Old (s.heap.push ob).objs.size r xs → Src Old s.heap.objs.size r xs := fun ob r xs q => by
    rcases q with q | q
    · rw [Heap.size_push] at q; exact .inl (Nat.le_of_succ_le q)
    · exact .inr q
  have hne : l ≠ s.heap.objs.size := Nat.ne_of_lt hll
  refine call_sum_walkT Old hzo hz ?_
  cases k with
  | true =>
    have hl : s.heap.IsList l (bs.map Value.ref).toArray := hl
    refine wpAny_pyIter_list hl ?_
    refine ⟨s.heap.objs.size, _, _, _, _, _, fun i => conts.getD i [], rfl, Walks.list (A := A.in1) hh s.heap.objs.size l hne (bs.map Value.ref).toArray, ⟨⟨_, Heap.get?_push_size _ rfl, rfl, rfl⟩, hl.at fun o e => Heap.get?_push_of_some _ e⟩, hfp _, fun b o e => Heap.get?_push_of_some _ e, hzf, hlens, fun i v hv => hPv i v hv, fun h' tk r hk hr hsrc => ?_⟩
    rw [hfull] at hr hsrc
    exact hQ h' tk r (hwr _ h' hk) hr (src _ _ _ hsrc)
  | false =>
    have hl : s.heap.IsTuple l (bs.map Value.ref).toArray := hl
    refine wpAny_pyIter_tuple hl ?_
    refine ⟨s.heap.objs.size, _, _, _, _, _, fun i => conts.getD i [], rfl, Walks.tuple (A := A.in1) hh s.heap.objs.size l hne (bs.map Value.ref).toArray, ⟨⟨_, Heap.get?_push_size _ rfl, rfl, rfl⟩, hl.at fun o e => Heap.get?_push_of_some _ e⟩, hfp _, fun b o e => Heap.get?_push_of_some _ e, hzf, hlens, fun i v hv => hPv i v hv, fun h' tk r hk hr hsrc => ?_⟩
    rw [hfull] at hr hsrc
    exact hQ h' tk r (hwr _ h' hk) hr (src _ _ _ hsrc)
end
end DLr

/-! sorting tuples, the empty one among them; sorted of a set -/
namespace DLr
open PySem PySem.W PySem.Calls PyProof.Rows L2
section
variable {M : Model} {A : Around} {E : Value → Shared → Prop} {s : Shared}
theorem firsts_at : ∀ {vs : List Value} {ds : List PyData} {Q : List (Option Value) → Shared → Prop}, EachIs (fun v d => ∃ as, Reads s.heap v d as) vs ds → (∀ d ∈ ds, ∃ xs, d = .tuple xs) →
    (∀ os : List (Option Value), EachIs (fun o d => o = none ↔ d = PyData.tuple []) os ds → Q os s) → wpAny M A (vs.mapM firstOfTuple') Q E s
  | _, _, _, .nil, _, h => by rw [List.mapM_nil]; exact wpAny_pure (h [] .nil)
  | _, _, Q, .cons (b := d) ⟨as, r⟩ t, ht, h => by
    obtain ⟨xs, rfl⟩ := ht d (List.mem_cons_self ..)
    cases r with
    | @tuple a o vs n _ _ ho hc hd hr =>
      rw [List.mapM_cons]
      refine wpAny_bind ?_
      rw [kas_first_eq]
      refine wpAny_bind (Looks.here (show Looks M s.heap (typeOf (.ref a)) o.cls from (Looks.ld ho).andThen .now) ?_)
      rw [hc, if_neg (by first | decide | simp)]
      refine wpAny_bind (listItems_at ho hd (wpAny_pure ?_))
      refine wpAny_bind (firsts_at (Q := fun bs s' => wpAny M A (pure (vs[0]? :: bs)) Q E s') t (fun d hd => ht d (List.mem_cons_of_mem _ hd)) fun os hos => wpAny_pure (h _ (.cons ?_ hos)))
      cases xs with
      | nil =>
        cases q : vs.toList with
        | nil => exact ⟨fun _ => rfl, fun _ => by rw [← Array.getElem?_toList, q]; rfl⟩
        | cons v l => rw [q] at hr; cases hr
      | cons x xs =>
        cases q : vs.toList with
        | nil => rw [q] at hr; cases hr
        | cons v l => exact ⟨fun z => (by rw [← Array.getElem?_toList, q] at z; cases z), fun z => (by cases z)⟩
def hdE : List PyData → Bool
  | .tuple [] :: _ => true
  | _ => false
theorem hdE_iff {d : PyData} {ds : List PyData} : hdE (d :: ds) = true ↔ d = .tuple [] := by
  cases d with
  | tuple xs => cases xs <;> simp [hdE]
  | _ => simp [hdE]
theorem each_right {α β : Type} {R : α → β → Prop} : ∀ {as : List α} {bs : List β}, EachIs R as bs → ∀ b ∈ bs, ∃ a ∈ as, R a b
  | _, _, .nil, b, hb => by cases hb
  | _, _, .cons h t, b, hb => by
    rcases List.mem_cons.mp hb with rfl | hb
    · exact ⟨_, List.mem_cons_self .., h⟩
    · obtain ⟨a, ha, q⟩ := each_right t b hb
      exact ⟨a, List.mem_cons_of_mem _ ha, q⟩
/-- the kind of keys, an empty tuple among them -/
theorem kind_at {vs : List Value} {ds : List PyData} {Q : SortKind → Shared → Prop} (e : EachIs (fun v d => ∃ as, Reads s.heap v d as) vs ds) (ht : ∀ d ∈ ds, ∃ xs, d = .tuple xs) (he : PyData.tuple [] ∈ ds)
    (h : Q (if hdE ds = true then oneType' else general') s) : wpAny M A (keyKind' vs.toArray) Q E s := by
  have h3 : ∀ v ∈ vs, Looks M s.heap (typeOf v) (Value.type "tuple") := fun v hv => by
    obtain ⟨d, hd, as, r⟩ := e.left v hv
    obtain ⟨xs, rfl⟩ := ht d hd
    exact looks_reads r
  have hv0 : vs ≠ [] := fun z => by subst z; cases e; cases he
  rw [kat_kind_eq, List.mapM_toArray, map_eq_pure_bind]
  refine wpAny_bind (wpAny_bind (firsts_at e ht fun os hos => wpAny_pure ?_))
  have hn : ¬ ((os.toArray.all fun x => x.isSome) = true) := fun z => by
    obtain ⟨o, ho, q⟩ := each_right hos _ he
    have : o.isSome = true := by
      rw [List.all_toArray, List.all_eq_true] at z
      exact z o ho
    rw [q.2 rfl] at this
    cases this
  rw [if_neg hn]
  cases hos with
  | nil => cases he
  | @cons o d os ds r t =>
    have e0 : ((o :: os).toArray[0]?).bind id = o := by simp
    rw [e0]
    cases o with
    | some f =>
      have : ¬ (d = PyData.tuple []) := fun z => nomatch r.2 z
      rw [if_neg (by rw [hdE_iff]; exact this)] at h
      first | exact wpAny_pure h | (simp only [Option.isSome_some, if_true]; exact wpAny_pure h) | (rw [if_pos rfl]; exact wpAny_pure h)
    | none =>
      have : d = PyData.tuple [] := r.1 rfl
      rw [if_pos (by rw [hdE_iff]; exact this)] at h
      rw [if_neg (by simp)]
      rw [oneTypeOnly'_eq, List.mapM_toArray, map_eq_pure_bind]
      refine wpAny_bind (wpAny_bind (wpAny_bind (kas_mapM (r := Value.type "tuple") _ (fun v hv Q' hq => (h3 v hv).here hq) (wpAny_pure ?_))))
      have hall : ((List.map (fun _ => Value.type "tuple") vs).toArray.all fun x => x == Value.type "tuple") = true := by
        simp only [List.all_toArray, List.all_map, List.all_eq_true]
        intro _ _
        exact beq_self_eq_true _
      have h0 : (List.map (fun _ => Value.type "tuple") vs).toArray[0]? = some (Value.type "tuple") := by
        cases vs with
        | nil => exact absurd rfl hv0
        | cons v vs => simp
      rw [h0]
      simp only [hall, if_true]
      exact wpAny_pure (wpAny_pure h)
end
section
variable {prog : Program} {w : World} {A : Around} {E : Value → Shared → Prop} {s : Shared}
theorem tup_lt {l b : Addr} {items items2 : Array Value} {e r : Nat → Bool} {Q : Value → Shared → Prop} (hl : s.heap.IsTuple l items) (hb : s.heap.IsTuple b items2)
    (he : ∀ j (h1 : j < items.size) (h2 : j < items2.size), SeqAt.EqAt A.in1 s items[j] items2[j] (e j)) (hr : ∀ j (h1 : j < items.size) (h2 : j < items2.size), e j = false → SeqAt.RcLt A.in1 s items[j] items2[j] (r j))
    (h : Q (.bool (SeqAt.firstLt e r (decide (items.size < items2.size)) (List.range (min items.size items2.size)))) s) : wpAny (model prog w) A (call (.builtin "tuple.__lt__") [.ref l, .ref b]) Q E s := by
  obtain ⟨⟨cls, dd, data, sl⟩, ho, hc, n, hd⟩ := id hl
  obtain ⟨⟨cls2, dd2, data2, sl2⟩, ho2, hc2, n2, hd2⟩ := id hb
  simp only at hc hd hc2 hd2
  subst hc hd hc2 hd2
  exact call_meets F.slot_tuple_lt ⟨_, ho, rfl⟩ F.entry_tuple_lt (F.args_tuple_lt_2 _ _) (SeqAt.tuple_ltAt l b items items2 n n2 dd dd2 sl sl2 e r) ⟨ho, ho2, he, hr, h⟩
/-- one tuple against another, both of one type -/
theorem one_tup {xs ys : List PyData} {a b : Value} {as bs : List Addr} {Q : Bool → Shared → Prop} (ra : Reads s.heap a (.tuple xs) as) (rb : Reads s.heap b (.tuple ys) bs) (hal : alike (.tuple xs) (.tuple ys) = true)
    (hu : A.units + min (PyData.tuple xs).depth (PyData.tuple ys).depth < cLine) (hq : Q (dataLt (.tuple xs) (.tuple ys)) s) : wpAny (model prog w) A (oneLt' true a b) Q E s := by
  have h : alikeAll xs ys = true := by simpa [alike] using hal
  cases ra with
  | @tuple l o vs n _ _ h1 h2 h3 h4 =>
    cases rb with
    | @tuple l' o' vs' n' _ _ k1 k2 k3 k4 =>
      have n1 : vs.size = xs.length := by simpa using SeqAt.ReadsAll.length _ _ _ h4
      have n2 : vs'.size = ys.length := by simpa using SeqAt.ReadsAll.length _ _ _ k4
      rw [dataLt_tuple, ← firstLt_toks xs ys h, ← n1, ← n2] at hq
      rw [oneLt'_eq]
      simp only [if_true]
      refine wpAny_bind (wpAny_cRoomFor (SeqAt.room_here hu) ?_)
      refine wpAny_bind (wpAny_callSpecialIfBound?_slot (T := "tuple") ⟨_, h1, h2⟩ F.slot_tuple_lt (tup_lt (e := SeqAt.pairEq xs ys) (r := fun j => dataLt (xs.getD j .none) (ys.getD j .none)) ⟨_, h1, h2, _, h3⟩ ⟨_, k1, k2, _, k3⟩ (fun j j1 j2 => ?_) (fun j j1 j2 hj => ?_) ?_))
      · have := eqAt_alikeAll xs ys A.in1 s vs.toList vs'.toList _ _ h4 k4 h (SeqAt.room_in hu) j (by simpa using j1) (by simpa using j2)
        simpa using this
      · have := rcLt_alikeAll xs ys A.in1 s vs.toList vs'.toList _ _ h4 k4 h (SeqAt.room_in hu) j (by simpa using j1) (by simpa using j2) hj
        simpa using this
      · exact wpAny_truthy_bool hq
/-- tuples that read as alike data can be sorted -/
theorem sorts_tups {vs : List Value} {ds : List PyData} (e : EachIs (fun v d => ∃ as, Reads s.heap v d as) vs ds) (hal : AllAlike ds) (ht : ∀ d ∈ ds, ∃ xs, d = PyData.tuple xs) (hu : ∀ d, d ∈ ds → A.units + d.depth < cLine) : SortsAt prog w A s (dataKind s.heap ds) vs := by
  by_cases he : PyData.tuple [] ∈ ds
  · have room : ∀ {d d' : PyData}, d ∈ ds → A.units + min d.depth d'.depth < cLine := fun {d d'} hd => Nat.lt_of_le_of_lt (Nat.add_le_add_left (Nat.min_le_left _ _) _) (hu d hd)
    refine ⟨fun v hv => ?_, (if hdE ds = true then oneType' else general'), ?_, fun h2 E Q hq => kind_at e ht he hq⟩
    · obtain ⟨d, hd, as, r⟩ := e.left v hv
      exact ⟨_, dataKind_some hal hd r⟩
    · intro E x y a b Q ha hb hq
      obtain ⟨d, as, hd, ra, rfl⟩ := dataKind_inv ha
      obtain ⟨d', as', hd', rb, rfl⟩ := dataKind_inv hb
      have hdd := hal d hd d' hd'
      have hroom := room (d' := d') hd
      obtain ⟨x1, rfl⟩ := ht d hd
      obtain ⟨x2, rfl⟩ := ht d' hd'
      split
      · rw [keyLt'_oneType]
        exact one_tup ra rb hdd hroom hq
      · show wpAny (model prog w) A (oneLt' false x y) Q E s
        exact oneLt_alike (fun z => nomatch z) ra rb hdd (fun z => nomatch z) hroom hq
  · exact SortsAt.data e hal (.inl fun d hd => by
      obtain ⟨xs, rfl⟩ := ht d hd
      cases xs with
      | nil => exact absurd hd he
      | cons x r => exact ⟨x, r, rfl⟩) hu
end
end DLr
namespace DLr
open PySem PySem.W PySem.Calls PyProof.Rows L2
section
variable {prog : Program} {w : World} {A : Around} {E : Value → Shared → Prop} {s : Shared} {β : Type} {vs : List Value} {bs : List β} {enc : β → PyData} {R : Value → β → Prop}
theorem allTup {ds : List β} (ht : ∀ b, ∃ xs, enc b = .tuple xs) : ∀ d ∈ ds.map enc, ∃ xs, d = PyData.tuple xs := fun d hd => by
  obtain ⟨b, _, rfl⟩ := List.mem_map.mp hd
  exact ht b
theorem sorted_tupD {l : Addr} {Q : Value → Shared → Prop} (hl : s.heap.IsList l vs.toArray) (e : EachIs R vs bs) (er : EachIs (fun v b => ∃ as, Reads s.heap v (enc b) as) vs bs) (hal : AllAlike (bs.map enc)) (ht : ∀ d ∈ bs.map enc, ∃ xs, d = PyData.tuple xs) (hL : bs.length ≤ sizeLine)
    (hu : ∀ b, b ∈ bs → A.units + 2 + (enc b).depth < cLine) (h : ∀ out, out.length = bs.length → EachIs R out (bs.mergeSort (dataLe false enc)) → Q (.ref (s.heap.objs.size + 1)) { s with heap := sortedAll s.heap vs (List.toArray out) }) :
    wpAny (model prog w) A (call (.builtin "sorted") [.ref l]) Q E s := by
  have k2 : EachIs (fun v b => ∃ as, Reads (sortingHeap (copyHeap s.heap vs) (s.heap.objs.size + 1) vs) v (enc b) as) vs bs := er.mono fun _ _ ⟨as, r⟩ => ⟨as, PyProof.Rows.Reads.keeps (fun _ _ q => sorting_copy_old q) r⟩
  have S := sorts_tups (prog := prog) (w := w) (A := A.in1.in1) (s := { s with heap := sortingHeap (copyHeap s.heap vs) (s.heap.objs.size + 1) vs }) (each_map (R := fun v d => ∃ as, Reads (sortingHeap (copyHeap s.heap vs) (s.heap.objs.size + 1) vs) v d as) enc k2) hal ht (bound_map (A := A.in1.in1) hu)
  exact sorted_vals hl S (by rw [e.length]; exact hL) (h _ ((sortVals_length false rfl).trans e.length) (sortVals_data false e k2 hal))
theorem sort_tupD {a : Addr} {n : Nat} {Q : Value → Shared → Prop} (ho : s.heap.get? a = some (seqObj "list" vs.toArray n)) (e : EachIs R vs bs) (er : EachIs (fun v b => ∃ as, Reads s.heap v (enc b) as ∧ a ∉ as) vs bs) (hal : AllAlike (bs.map enc)) (ht : ∀ d ∈ bs.map enc, ∃ xs, d = PyData.tuple xs) (hL : bs.length ≤ sizeLine)
    (hu : ∀ b, b ∈ bs → A.units + 1 + (enc b).depth < cLine) (h : ∀ out, out.length = bs.length → EachIs R out (bs.mergeSort (dataLe false enc)) → Q .none { s with heap := sortedHeap s.heap a vs (List.toArray out) }) :
    wpAny (model prog w) A (call (.builtin "list.sort") [.ref a]) Q E s := by
  have k2 : EachIs (fun v b => ∃ as, Reads (sortingHeap s.heap a vs) v (enc b) as) vs bs := each_keepBut (h' := sortingHeap s.heap a vs) (fun _ _ hb q => sortingHeap_old hb q) (fun o q => by rw [ho] at q; cases q; rfl) hal er
  have S := sorts_tups (prog := prog) (w := w) (A := A.in1) (s := { s with heap := sortingHeap s.heap a vs }) (each_map (R := fun v d => ∃ as, Reads (sortingHeap s.heap a vs) v d as) enc k2) hal ht (bound_map (A := A.in1) hu)
  exact wpAny_call_entry slot_list_sort ⟨_, ho, rfl⟩ entry_list_sort (list_sort_vals ho S (by rw [e.length]; exact hL) ⟨.none, rfl, h _ ((sortVals_length false rfl).trans e.length) (sortVals_data false e k2 hal)⟩) (args_list_sort _)
end

/-! ### lists without doubles, in order -/
section
variable {α : Type} (lt : α → α → Bool)
def insU (x : α) : List α → List α
  | [] => [x]
  | y :: r => if lt x y then x :: y :: r else if lt y x then y :: insU x r else y :: r
def sortU : List α → List α
  | [] => []
  | x :: r => insU lt x (sortU r)
structure Strict : Prop where
  irr : ∀ a, lt a a = false
  tr : ∀ a b c, lt a b = true → lt b c = true → lt a c = true
  tri : ∀ a b, lt a b = false → lt b a = false → a = b
variable {lt}
theorem mem_insU (S : Strict lt) {x z : α} : ∀ {l : List α}, z ∈ insU lt x l ↔ z = x ∨ z ∈ l
  | [] => by simp [insU]
  | y :: r => by
    unfold insU
    split
    · simp
    · rename_i h1
      split
      · rw [List.mem_cons, mem_insU S, List.mem_cons]
        constructor
        · rintro (h | h | h) <;> simp [h]
        · rintro (h | h | h) <;> simp [h]
      · rename_i h2
        have := S.tri x y (by simpa using h1) (by simpa using h2)
        subst this
        simp
theorem mem_sortU (S : Strict lt) {z : α} : ∀ {l : List α}, z ∈ sortU lt l ↔ z ∈ l
  | [] => Iff.rfl
  | x :: r => by
    show z ∈ insU lt x (sortU lt r) ↔ _
    rw [mem_insU S, mem_sortU S, List.mem_cons]
theorem insU_sorted (S : Strict lt) {x : α} : ∀ {l : List α}, l.Pairwise (fun a b => lt a b = true) → (insU lt x l).Pairwise (fun a b => lt a b = true)
  | [], _ => by simp [insU]
  | y :: r, h => by
    obtain ⟨h1, h2⟩ := List.pairwise_cons.mp h
    unfold insU
    split
    · rename_i hxy
      refine List.pairwise_cons.mpr ⟨fun z hz => ?_, h⟩
      rcases List.mem_cons.mp hz with rfl | hz
      · exact hxy
      · exact S.tr _ _ _ hxy (h1 z hz)
    · split
      · rename_i hyx
        refine List.pairwise_cons.mpr ⟨fun z hz => ?_, insU_sorted S h2⟩
        rcases (mem_insU S).mp hz with rfl | hz
        · exact hyx
        · exact h1 z hz
      · exact h
theorem sortU_sorted (S : Strict lt) : ∀ (l : List α), (sortU lt l).Pairwise (fun a b => lt a b = true)
  | [] => List.Pairwise.nil
  | x :: r => insU_sorted S (sortU_sorted S r)
theorem strict_unique (S : Strict lt) : ∀ (l m : List α), l.Pairwise (fun a b => lt a b = true) → m.Pairwise (fun a b => lt a b = true) → (∀ x, x ∈ l ↔ x ∈ m) → l = m
  | [], [], _, _, _ => rfl
  | [], y :: m, _, _, h => by have := (h y).2 (by simp); cases this
  | x :: l, [], _, _, h => by have := (h x).1 (by simp); cases this
  | x :: l, y :: m, h1, h2, h => by
    obtain ⟨a1, a2⟩ := List.pairwise_cons.mp h1
    obtain ⟨b1, b2⟩ := List.pairwise_cons.mp h2
    have asy : ∀ {a b : α}, lt a b = true → lt b a = true → False := fun {a b} p q => by have := S.tr a b a p q; rw [S.irr] at this; cases this
    have e : x = y := by
      rcases List.mem_cons.mp ((h x).1 (by simp)) with e | hx
      · exact e
      · rcases List.mem_cons.mp ((h y).2 (by simp)) with e | hy
        · exact e.symm
        · exact (asy (b1 x hx) (a1 y hy)).elim
    subst e
    refine congrArg _ (strict_unique S l m a2 b2 fun z => ⟨fun hz => ?_, fun hz => ?_⟩)
    · rcases List.mem_cons.mp ((h z).1 (List.mem_cons_of_mem _ hz)) with e | q
      · subst e; have := a1 z hz; rw [S.irr] at this; cases this
      · exact q
    · rcases List.mem_cons.mp ((h z).2 (List.mem_cons_of_mem _ hz)) with e | q
      · subst e; have := b1 z hz; rw [S.irr] at this; cases this
      · exact q
theorem sortU_of (S : Strict lt) {l m : List α} (h : m.Pairwise (fun a b => lt a b = true)) (hm : ∀ x, x ∈ m ↔ x ∈ l) : m = sortU lt l :=
  strict_unique S _ _ h (sortU_sorted S l) fun x => by rw [mem_sortU S, hm]
end
def ltI (a b : Int) : Bool := decide (a < b)
theorem strictI : Strict ltI := ⟨fun a => by simp [ltI], fun a b c h1 h2 => by simp only [ltI, decide_eq_true_eq] at *; omega, fun a b h1 h2 => by simp only [ltI, decide_eq_false_iff_not] at *; omega⟩
def ltL : List Int → List Int → Bool
  | _, [] => false
  | [], _ :: _ => true
  | x :: xs, y :: ys => if x = y then ltL xs ys else decide (x < y)
theorem ltL_irr : ∀ a : List Int, ltL a a = false
  | [] => rfl
  | x :: xs => by simp [ltL, ltL_irr xs]
theorem ltL_tr : ∀ a b c : List Int, ltL a b = true → ltL b c = true → ltL a c = true
  | _, [], _, h, _ => by cases ‹List Int› <;> simp [ltL] at h
  | _, _ :: _, [], _, h => by simp [ltL] at h
  | [], _ :: _, _ :: _, _, _ => rfl
  | x :: xs, y :: ys, z :: zs, h1, h2 => by
    simp only [ltL] at *
    by_cases e1 : x = y
    · rw [if_pos e1] at h1
      by_cases e2 : y = z
      · rw [if_pos e2] at h2
        rw [if_pos (e1.trans e2)]
        exact ltL_tr xs ys zs h1 h2
      · rw [if_neg e2] at h2
        rw [if_neg (e1 ▸ e2), e1]
        exact h2
    · rw [if_neg e1] at h1
      have h1 := of_decide_eq_true h1
      by_cases e2 : y = z
      · rw [if_neg (by omega)]
        exact decide_eq_true (by omega)
      · rw [if_neg e2] at h2
        have h2 := of_decide_eq_true h2
        rw [if_neg (by omega)]
        exact decide_eq_true (by omega)
theorem ltL_tri : ∀ a b : List Int, ltL a b = false → ltL b a = false → a = b
  | [], [], _, _ => rfl
  | [], y :: ys, h, _ => by simp [ltL] at h
  | x :: xs, [], _, h => by simp [ltL] at h
  | x :: xs, y :: ys, h1, h2 => by
    simp only [ltL] at *
    by_cases e1 : x = y
    · rw [if_pos e1] at h1
      rw [if_pos e1.symm] at h2
      rw [e1, ltL_tri xs ys h1 h2]
    · rw [if_neg e1] at h1
      rw [if_neg (Ne.symm e1)] at h2
      have h1 := of_decide_eq_false h1
      have h2 := of_decide_eq_false h2
      omega
theorem strictL : Strict ltL := ⟨ltL_irr, ltL_tr, ltL_tri⟩
def enT (k : List Int) : PyData := .tuple (k.map .int)
theorem rowLt_ltL : ∀ a b : List Int, lexLt itemOrd (keyToksAll (a.map .int)) (keyToksAll (b.map .int)) = ltL a b
  | [], [] => lex_irrefl _
  | [], y :: ys => by
    have := dataLt_ints [] (y :: ys)
    exact this.trans (by simp [ltL])
  | x :: xs, [] => by
    have := dataLt_ints (x :: xs) []
    exact this.trans (by simp [ltL])
  | x :: xs, y :: ys => by
    show lexLt itemOrd (keyToksAll (PyData.int x :: xs.map .int)) (keyToksAll (PyData.int y :: ys.map .int)) = _
    rw [dataLt_cons (by simp [alike]), rowLt_ltL xs ys, dataLt_int]
    simp only [PyData.eqv, beq_iff_eq, ltL]
theorem enT_lt (a b : List Int) : dataLt (enT a) (enT b) = ltL a b := by
  unfold enT
  rw [dataLt_tuple]
  exact rowLt_ltL a b
theorem enT_alike (a b : List Int) : alike (enT a) (enT b) = true := by
  unfold enT
  simpa [alike] using alike_ints a b
theorem enT_depth (a : List Int) : (enT a).depth = 1 := by
  unfold enT PyData.depth
  rw [depth_ints]
theorem reads_ints {h : Heap} : ∀ {vs : List Value} {k : List Int}, IntsAre vs k → ReadsAll h vs (k.map .int) []
  | _, _, .nil => .nil
  | _, _, .cons i t r => .cons (.int i t) (reads_ints r)
theorem enT_reads {P : Program} {w : World} {h : Heap} {k : List Int} {b : Addr} (x : IsT P w h k b) : Reads h (.ref b) (enT k) [] := by
  obtain ⟨o, items, n, ho, hc, hd, hi⟩ := x
  exact .tuple ho hc hd (reads_ints (ints_of_items hi))
theorem perm_map {α β : Type} {f : α → β} : ∀ {L : List α} {l : List β}, l.Perm (L.map f) → ∃ L1 : List α, L1.Perm L ∧ l = L1.map f
  | [], l, h => ⟨[], .nil, by simpa using h.eq_nil⟩
  | x :: L, l, h => by
    have hx : f x ∈ l := h.mem_iff.mpr (by simp)
    obtain ⟨l1, l2, rfl⟩ := List.append_of_mem hx
    have h2 : (l1 ++ l2).Perm (L.map f) := (List.perm_cons (f x)).mp ((List.perm_middle.symm).trans h)
    obtain ⟨L1, p, e⟩ := perm_map h2
    obtain ⟨B, C, rfl, rfl, rfl⟩ := List.map_eq_append_iff.mp e.symm
    exact ⟨B ++ x :: C, List.perm_middle.trans (p.cons x), by simp⟩
section
variable {P : Program} {w : World} {A : Around} {E : Value → Shared → Prop} {s : Shared}
set_option maxHeartbeats 1000000 in
/-- sorted(set of tuples of ints) -/
theorem sorted_setD {a : Addr} {L : List (Addr × List Int)} {es : Array (Int × Value)} {ep : Nat} {t : SetTable} {Q : Value → Shared → Prop} (S : SetTR P w s.heap a L es ep t) (hh : A.handled = none) (hu : A.units + 10 < cLine)
    (hQ : ∀ s' p (out : Array Value) (c : Nat) (L' : List (Addr × List Int)), (∀ b o, s.heap.get? b = some o → s'.heap.get? b = some o) → s'.gens = s.gens → s'.os = s.os → s.heap.objs.size ≤ p →
      s'.heap.get? p = some (seqObj "list" out c) → out.toList = L'.map (fun q => Value.ref q.1) → L'.Perm L → L'.Pairwise (fun q r => ltL q.2 r.2 = true) → Q (.ref p) s') : wpAny (model P w) A (call (.builtin "sorted") [.ref a]) Q E s := by
  obtain ⟨o, o1, o2, o3⟩ := S.ob
  have few := S.few
  have sz := S.size
  refine call_function_entry kind_sorted plain_sorted entry_sorted (args_sorted1 _) ?_
  unfold Builtin.«sorted»
  refine wpAny_bind (m := checkCount "sorted" 1 1 _) (wpAny_pure (wpAny_bind ?_))
  refine collect_set (A := A.in1) hh ⟨o, o1, o2.1, o3⟩ S.fits (by unfold scanBound; omega) S.tab.ris S.led fun s1 vs k1 z1 g1 q1 pm => ?_
  have e1 : es.toList.map (·.2) = L.map fun q => Value.ref q.1 := by rw [S.rows, L2.rowsOf, List.map_map]; rfl
  rw [e1] at pm
  obtain ⟨L1, p1, rfl⟩ := perm_map pm
  have l1 : (L1.map fun q => Value.ref q.1).length < 64 := by rw [List.length_map, p1.length_eq]; exact few
  refine wpAny_bind (wpAny_newList ?_ (by rw [sizeLine_eq]; omega))
  have oL : (s1.heap.push (seqObj "list" (L1.map fun q => Value.ref q.1).toArray 0)).get? s1.heap.objs.size = some (seqObj "list" (L1.map fun q => Value.ref q.1).toArray 0) := Heap.get?_push_size _ rfl
  have rd : EachIs (fun v q => v = Value.ref q.1 ∧ q ∈ L) (L1.map fun q => Value.ref q.1) L1 := by
    have : ∀ l : List (Addr × List Int), (∀ q ∈ l, q ∈ L) → EachIs (fun v q => v = Value.ref q.1 ∧ q ∈ L) (l.map fun q => Value.ref q.1) l := fun l => by
      induction l with
      | nil => exact fun _ => .nil
      | cons q l ih => exact fun h => .cons ⟨rfl, h q (by simp)⟩ (ih fun r hr => h r (List.mem_cons_of_mem _ hr))
    exact this L1 fun q hq => p1.mem_iff.mp hq
  refine wpAny_bind (wpAny_holding (sort_tupD (s := { s1 with heap := s1.heap.push (seqObj "list" (L1.map fun q => Value.ref q.1).toArray 0) }) (enc := fun q => enT q.2) oL rd (rd.mono fun v q ⟨hv, hq⟩ => ⟨[], by
      rw [hv]
      exact enT_reads (isT_keep (S.tup q hq) fun b u e => Heap.get?_push_of_some _ (k1 b u e)), by simp⟩) (AllAlike.of fun q r => enT_alike _ _) (allTup fun q => ⟨_, rfl⟩) (by rw [List.length_map] at l1; rw [sizeLine_eq]; omega) (fun q _ => by rw [enT_depth]; simp only [Around.in1_units]; omega) fun out h1 h2 => ?_))
  obtain ⟨c, hc⟩ := sortedHeap_at (vs := L1.map fun q => Value.ref q.1) (out := out.toArray) oL
  have tl := sortLe_total (listOrd itemOrd) false (fun q : Addr × List Int => keyToks (enT q.2))
  have pw := sort_pairwise tl L1
  have pL : (L1.mergeSort (dataLe false fun q => enT q.2)).Perm L := (List.mergeSort_perm _ _).trans p1
  have nd : ((L1.mergeSort (dataLe false fun q => enT q.2)).map (·.2)).Nodup := (pL.map (·.2)).nodup_iff.mpr S.nd
  refine wpAny_pure ⟨_, rfl, hQ _ s1.heap.objs.size out.toArray c (L1.mergeSort (dataLe false fun q => enT q.2)) (fun b u e => ?_) g1 q1 z1 hc ?_ pL ?_⟩
  · have q := k1 b u e
    have hlt := Heap.lt_size q
    have h3 : (s1.heap.push (seqObj "list" (L1.map fun q => Value.ref q.1).toArray 0)).get? b = some u := Heap.get?_push_of_some _ q
    have h4 : b ≠ s1.heap.objs.size := Nat.ne_of_lt hlt
    show (sortedHeap (s1.heap.push (seqObj "list" (L1.map fun q => Value.ref q.1).toArray 0)) s1.heap.objs.size (L1.map fun q => Value.ref q.1) out.toArray).get? b = some u
    rw [sortedHeap_old h4 (by rw [size_push']; exact Nat.lt_succ_of_lt hlt)]
    exact h3
  · have : ∀ {us : List Value} {l : List (Addr × List Int)}, EachIs (fun v q => v = Value.ref q.1 ∧ q ∈ L) us l → us = l.map fun q => Value.ref q.1 := fun {us l} h => by
      induction h with
      | nil => rfl
      | cons r _ ih => rw [r.1, ih]; rfl
    exact this h2
  · have pw2 : (L1.mergeSort (dataLe false fun q => enT q.2)).Pairwise (fun q r => (!dataLt (enT r.2) (enT q.2)) = true) := pw
    have nd2 := List.pairwise_map.mp nd
    refine (pw2.and nd2).imp fun {q r} h => ?_
    obtain ⟨x1, x2⟩ := h
    rw [enT_lt, Bool.not_eq_true'] at x1
    cases z : ltL q.2 r.2 with
    | true => rfl
    | false => exact absurd (ltL_tri _ _ z x1) x2
end
end DLr

namespace DL
open PySem PySem.Spec PyProof.Rows L2

/-! ### built-in functions of values, by their meanings -/
abbrev PkAll (ω : World) (K : PySem.W.Frag) (Y : As) (H : Hp) : List V → List D → Prop := Paired (Pk ω K Y H)
def rB (ω : World) (K : PySem.W.Frag) (g : List D → Option S) : List V → Hp → VK → Prop := fun vs H Q => ∃ Y ds s, (∀ a, Y a → H a ≠ none) ∧ PkAll ω K Y H vs ds ∧ g ds = some s ∧ Res ω K Y H s Q

def boolsOf : List D → Option (List Bool)
  | [] => some []
  | .bool b :: r => (boolsOf r).map (b :: ·)
  | _ :: _ => none
def intsOf : List D → Option (List Int)
  | [] => some []
  | .int b :: r => (intsOf r).map (b :: ·)
  | _ :: _ => none
theorem boolsOf_eq : ∀ {ds : List D} {bs : List Bool}, boolsOf ds = some bs → ds = bs.map .bool
  | [], bs, h => by cases h; rfl
  | .bool b :: r, bs, h => by
    obtain ⟨cs, hc, rfl⟩ := Option.map_eq_some_iff.mp (show (boolsOf r).map (b :: ·) = some bs from h)
    rw [boolsOf_eq hc]; rfl
  | .none :: r, bs, h => by cases h
  | .int _ :: r, bs, h => by cases h
  | .str _ :: r, bs, h => by cases h
  | .list _ :: r, bs, h => by cases h
  | .tuple _ :: r, bs, h => by cases h
  | .dict _ :: r, bs, h => by cases h
theorem intsOf_eq : ∀ {ds : List D} {bs : List Int}, intsOf ds = some bs → ds = bs.map .int
  | [], bs, h => by cases h; rfl
  | .int b :: r, bs, h => by
    obtain ⟨cs, hc, rfl⟩ := Option.map_eq_some_iff.mp (show (intsOf r).map (b :: ·) = some bs from h)
    rw [intsOf_eq hc]; rfl
  | .none :: r, bs, h => by cases h
  | .bool _ :: r, bs, h => by cases h
  | .str _ :: r, bs, h => by cases h
  | .list _ :: r, bs, h => by cases h
  | .tuple _ :: r, bs, h => by cases h
  | .dict _ :: r, bs, h => by cases h
@[simp] theorem boolsOf_map (bs : List Bool) : boolsOf (bs.map .bool) = some bs := by
  induction bs with
  | nil => rfl
  | cons b r ih => show (boolsOf (r.map .bool)).map (b :: ·) = _; rw [ih]; rfl
@[simp] theorem intsOf_map (bs : List Int) : intsOf (bs.map .int) = some bs := by
  induction bs with
  | nil => rfl
  | cons b r ih => show (intsOf (r.map .int)).map (b :: ·) = _; rw [ih]; rfl
theorem RpAll.bools {K : PySem.W.Frag} {Y : As} {H : Hp} : ∀ {vs : List V} {bs : List Bool}, RpAll K Y H vs (bs.map .bool) → vs = bs.map .bl
  | _, [], .nil => rfl
  | _, b :: r, .cons h t => by rw [h.bool_inv, RpAll.bools t]; rfl
theorem RpAll.ints {K : PySem.W.Frag} {Y : As} {H : Hp} : ∀ {vs : List V} {bs : List Int}, RpAll K Y H vs (bs.map .int) → vs = bs.map .int
  | _, [], .nil => rfl
  | _, b :: r, .cons h t => by rw [h.int_inv, RpAll.ints t]; rfl

/-- the items of a list or a tuple -/
def itemsOf : D → Option (List D)
  | .list ds => some ds
  | .tuple ds => some ds
  | _ => none

def lenD : List D → Option S
  | [.list ds] => some (.val (.int ds.length))
  | [.tuple ds] => some (.val (.int ds.length))
  | [.str x] => if x.length ≤ sizeLine then some (.val (.int x.length)) else none
  | _ => none
def absD : List D → Option S
  | [.int i] => some (.val (.int (if i < 0 then -i else i)))
  | _ => none
def intD : List D → Option S
  | [.int i] => some (.val (.int i))
  | [.bool b] => some (.val (.int (if b then 1 else 0)))
  | _ => none
def allD : List D → Option S
  | [.list ds] => (boolsOf ds).map fun bs => .val (.bool (bs.all id))
  | _ => none
def anyD : List D → Option S
  | [.list ds] => (boolsOf ds).map fun bs => .val (.bool (bs.any id))
  | _ => none
def tupsOf : List D → Option (List (List D))
  | [] => some []
  | .tuple b :: r => (tupsOf r).map (b :: ·)
  | _ :: _ => none
theorem tupsOf_eq : ∀ {ds : List D} {bs : List (List D)}, tupsOf ds = some bs → ds = bs.map .tuple
  | [], bs, h => by cases h; rfl
  | .tuple b :: r, bs, h => by
    obtain ⟨cs, hc, rfl⟩ := Option.map_eq_some_iff.mp (show (tupsOf r).map (b :: ·) = some bs from h)
    rw [tupsOf_eq hc]; rfl
  | .none :: r, bs, h => by cases h
  | .bool _ :: r, bs, h => by cases h
  | .str _ :: r, bs, h => by cases h
  | .list _ :: r, bs, h => by cases h
  | .int _ :: r, bs, h => by cases h
  | .dict _ :: r, bs, h => by cases h
@[simp] theorem tupsOf_map (bs : List (List D)) : tupsOf (bs.map .tuple) = some bs := by
  induction bs with
  | nil => rfl
  | cons b r ih => show (tupsOf (r.map .tuple)).map (b :: ·) = _; rw [ih]; rfl
def flatD (ts : List (List D)) : Option S := if ts.flatten.length ≤ sizeLine then some (.val (.tuple ts.flatten)) else none
def sumD : List D → Option S
  | [.list ds] => (intsOf ds).map fun ns => .val (.int ns.sum)
  | [.list ds, .tuple []] => (tupsOf ds).bind flatD
  | [.tuple ds, .tuple []] => (tupsOf ds).bind flatD
  | _ => none
theorem Paired.at {α β : Type} {R : α → β → Prop} {xs : List α} {ys : List β} (h : Paired R xs ys) : ∀ (i : Nat) (x : α) (y : β), xs[i]? = some x → ys[i]? = some y → R x y := by
  induction h with
  | nil => intro i x y e; simp at e
  | cons a _ ih =>
    intro i x y e1 e2
    cases i with
    | zero => simp at e1 e2; subst e1 e2; exact a
    | succ i => exact ih i x y (by simpa using e1) (by simpa using e2)
/-- the tuples of a row: their addresses, their items -/
theorem RpAll.tups {X : Cx} {pins : List (Addr × Obj)} {σ : L2.St} {H : Hp} {s : Shared} {Y : As} (I : Inv X pins σ H s) : ∀ {xs : List V} {ts : List (List D)}, RpAll X.K Y H xs (ts.map .tuple) →
    ∃ (bs : List Addr) (yss : List (List V)) (conts : List (List Value)), xs = bs.map V.ref ∧ bs.length = ts.length ∧ conts.length = ts.length ∧ Vals yss.flatten conts.flatten ∧ RpAll X.K Y H yss.flatten ts.flatten ∧
      (∀ (i : Nat) (b : Addr) (c : List Value), bs[i]? = some b → conts[i]? = some c → IsTup s.heap b c.toArray) ∧ ∀ (i : Nat) (b : Addr) (c : List Value) , bs[i]? = some b → conts[i]? = some c → ∃ t, ts[i]? = some t ∧ c.length = t.length ∧ Rp X.K Y H (.ref b) (.tuple t)
  | _, [], .nil => ⟨[], [], [], rfl, rfl, rfl, .nil, .nil, fun i b c e => by simp at e, fun i b c e => by simp at e⟩
  | _, t :: ts, .cons h r => by
    obtain ⟨bs, yss, conts, rfl, h1, h2, h3, h4, h5, h6⟩ := RpAll.tups I r
    have h' := h
    obtain ⟨b, ys, rfl, sb, rb⟩ := h'.tuple_inv
    obtain ⟨its, rv, pt, _⟩ := I.tuple sb
    refine ⟨b :: bs, ys :: yss, its :: conts, rfl, by simp [h1], by simp [h2], by rw [List.flatten_cons, List.flatten_cons]; exact rv.append h3, by rw [List.flatten_cons, List.flatten_cons]; exact rb.append h4, fun i b' c e1 e2 => ?_, fun i b' c e1 e2 => ?_⟩
    · cases i with
      | zero => simp at e1 e2; subst e1 e2; exact pt
      | succ i => exact h5 i b' c (by simpa using e1) (by simpa using e2)
    · cases i with
      | zero => simp at e1 e2; subst e1 e2; exact ⟨t, rfl, by rw [← rv.length, rb.length], h⟩
      | succ i =>
        obtain ⟨t', q1, q2, q3⟩ := h6 i b' c (by simpa using e1) (by simpa using e2)
        exact ⟨t', by simpa using q1, q2, q3⟩
def maxL : List Int → Option Int
  | [] => none
  | x :: r => some (r.foldl (fun m y => if m < y then y else m) x)
def minL : List Int → Option Int
  | [] => none
  | x :: r => some (r.foldl (fun m y => if y < m then y else m) x)
def maxD : List D → Option S
  | [.list ds] => (intsOf ds).bind fun ns => (maxL ns).map fun m => .val (.int m)
  | [.int i, .int j] => some (.val (.int (if j > i then j else i)))
  | _ => none
def minD : List D → Option S
  | [.list ds] => (intsOf ds).bind fun ns => (minL ns).map fun m => .val (.int m)
  | [.int i, .int j] => some (.val (.int (if j < i then j else i)))
  | _ => none
def tupleD : List D → Option S
  | [.list ds] => some (.val (.tuple ds))
  | [.tuple ds] => some (.val (.tuple ds))
  | _ => none
/-- tuple(list), known to have no dict: an own object -/
def tupND : List D → Option S
  | [.list ds] => some (.own (.tuple ds))
  | _ => none
def listD : List D → Option S
  | [.list ds] => some (.own (.list ds))
  | [.tuple ds] => some (.own (.list ds))
  | _ => none

/-- what can be sorted: alike data; no empty tuples -/
def srtOk (ds : List D) : Bool := (ds.all fun d => ds.all fun e => PySem.W.alike d e) && ((ds.all fun d => match d with | .tuple (_ :: _) => true | _ => false) || (ds.all fun d => match d with | .tuple _ => false | .none => false | _ => true)) && ds.all fun d => decide (d.depth ≤ 100)
def sortD (ds : List D) : List D := ds.mergeSort (PySem.W.dataLe false id)
def srtD : List D → Option S
  | [.list ds] => if srtOk ds then some (.own (.list (sortD ds))) else none
  | _ => none
inductive Bi where
  | len | abs | int | all | any | sum | max | min | tuple | list | sorted | tupleN
  deriving DecidableEq
def Bi.name : Bi → Str
  | .len => "len" | .abs => "abs" | .int => "int" | .all => "all" | .any => "any" | .sum => "sum" | .max => "max" | .min => "min" | .tuple => "tuple" | .list => "list" | .sorted => "sorted" | .tupleN => "tuple"
def Bi.run : Bi → List D → Option S
  | .len => lenD | .abs => absD | .int => intD | .all => allD | .any => anyD | .sum => sumD | .max => maxD | .min => minD | .tuple => tupleD | .list => listD | .sorted => srtD | .tupleN => tupND
def Bi.isTy : Bi → Bool
  | .int => true | .tuple => true | .list => true | .tupleN => true | _ => false

theorem fold_max : ∀ (r : List Int) (x : Int), let m := r.foldl (fun m y => if m < y then y else m) x; (m = x ∨ m ∈ r) ∧ x ≤ m ∧ ∀ y ∈ r, y ≤ m
  | [], x => ⟨.inl rfl, Int.le_refl _, fun y h => by simp at h⟩
  | z :: r, x => by
    obtain ⟨h1, h2, h3⟩ := fold_max r (if x < z then z else x)
    simp only [List.foldl_cons]
    refine ⟨?_, ?_, ?_⟩
    · rcases h1 with h1 | h1
      · rw [h1]
        by_cases hz : x < z
        · rw [if_pos hz]; exact .inr (by simp)
        · rw [if_neg hz]; exact .inl rfl
      · exact .inr (by simp [h1])
    · refine Int.le_trans ?_ h2
      split <;> omega
    · intro y hy
      rcases List.mem_cons.mp hy with rfl | hy
      · refine Int.le_trans ?_ h2
        split <;> omega
      · exact h3 y hy
theorem fold_min : ∀ (r : List Int) (x : Int), let m := r.foldl (fun m y => if y < m then y else m) x; (m = x ∨ m ∈ r) ∧ m ≤ x ∧ ∀ y ∈ r, m ≤ y
  | [], x => ⟨.inl rfl, Int.le_refl _, fun y h => by simp at h⟩
  | z :: r, x => by
    obtain ⟨h1, h2, h3⟩ := fold_min r (if z < x then z else x)
    simp only [List.foldl_cons]
    refine ⟨?_, ?_, ?_⟩
    · rcases h1 with h1 | h1
      · rw [h1]
        by_cases hz : z < x
        · rw [if_pos hz]; exact .inr (by simp)
        · rw [if_neg hz]; exact .inl rfl
      · exact .inr (by simp [h1])
    · refine Int.le_trans h2 ?_
      split <;> omega
    · intro y hy
      rcases List.mem_cons.mp hy with rfl | hy
      · refine Int.le_trans h2 ?_
        split <;> omega
      · exact h3 y hy
theorem maxL_spec {ns : List Int} {m : Int} (h : maxL ns = some m) : m ∈ ns ∧ ∀ y ∈ ns, y ≤ m := by
  cases ns with
  | nil => cases h
  | cons x r =>
    have h' : r.foldl (fun m y => if m < y then y else m) x = m := Option.some.inj h
    obtain ⟨h1, h2, h3⟩ := fold_max r x
    rw [h'] at h1 h2 h3
    refine ⟨by rcases h1 with h1 | h1 <;> simp [h1], fun y hy => ?_⟩
    rcases List.mem_cons.mp hy with rfl | hy
    · exact h2
    · exact h3 y hy
theorem minL_spec {ns : List Int} {m : Int} (h : minL ns = some m) : m ∈ ns ∧ ∀ y ∈ ns, m ≤ y := by
  cases ns with
  | nil => cases h
  | cons x r =>
    have h' : r.foldl (fun m y => if y < m then y else m) x = m := Option.some.inj h
    obtain ⟨h1, h2, h3⟩ := fold_min r x
    rw [h'] at h1 h2 h3
    refine ⟨by rcases h1 with h1 | h1 <;> simp [h1], fun y hy => ?_⟩
    rcases List.mem_cons.mp hy with rfl | hy
    · exact h2
    · exact h3 y hy

section
variable {X : Cx}
theorem pk1 {ω : World} {K : PySem.W.Frag} {Y : As} {H : Hp} {vs : List V} {d : D} (h : PkAll ω K Y H vs [d]) : ∃ v, vs = [v] ∧ Pk ω K Y H v d := by
  cases h with
  | cons a b => cases b; exact ⟨_, rfl, a⟩
theorem pk2 {ω : World} {K : PySem.W.Frag} {Y : As} {H : Hp} {vs : List V} {d e : D} (h : PkAll ω K Y H vs [d, e]) : ∃ v u, vs = [v, u] ∧ Pk ω K Y H v d ∧ Pk ω K Y H u e := by
  cases h with
  | cons a b =>
    cases b with
    | cons c d => cases d; exact ⟨_, _, rfl, a, c⟩
theorem b_len : CallR X (.builtin "len") (rB X.w X.K lenD) := by
  intro pins s σ H xs us Q I r h
  obtain ⟨Y, ds, o, yd, pk, g, q⟩ := h
  unfold lenD at g
  split at g
  · cases g
    obtain ⟨v, rfl, p⟩ := pk1 pk
    obtain ⟨a, ys, rfl, sa, ra⟩ := p.list_inv
    refine call_len pins s σ H _ us Q I r ⟨_, ys.length, rfl, .inl ⟨ys, sa, rfl⟩, ?_⟩
    rw [ra.length]
    exact q.int
  · cases g
    obtain ⟨v, rfl, p⟩ := pk1 pk
    obtain ⟨a, ys, rfl, sa, ra⟩ := p.tuple_inv
    refine call_len pins s σ H _ us Q I r ⟨_, ys.length, rfl, .inr ⟨ys, sa, rfl⟩, ?_⟩
    rw [ra.length]
    exact q.int
  · split at g
    · rename_i hz
      cases g
      obtain ⟨v, rfl, p⟩ := pk1 pk
      cases p.str_inv
      exact call_len pins s σ H _ us Q I r ⟨_, _, rfl, ⟨hz, rfl⟩, q.int⟩
    · cases g
  · cases g
theorem b_abs : CallR X (.builtin "abs") (rB X.w X.K absD) := by
  intro pins s σ H xs us Q I r h
  obtain ⟨Y, ds, o, yd, pk, g, q⟩ := h
  unfold absD at g
  split at g
  · cases g
    obtain ⟨v, rfl, p⟩ := pk1 pk
    cases p.int_inv
    exact call_abs pins s σ H _ us Q I r ⟨_, rfl, q.int⟩
  · cases g
theorem b_int : CallR X (.type "int") (rB X.w X.K intD) := by
  intro pins s σ H xs us Q I r h
  obtain ⟨Y, ds, o, yd, pk, g, q⟩ := h
  unfold intD at g
  split at g
  · cases g
    obtain ⟨v, rfl, p⟩ := pk1 pk
    cases p.int_inv
    exact call_int1 pins s σ H _ us Q I r (.inl ⟨_, rfl, q.int⟩)
  · cases g
    obtain ⟨v, rfl, p⟩ := pk1 pk
    cases p.bool_inv
    exact call_int1 pins s σ H _ us Q I r (.inr ⟨_, rfl, q.int⟩)
  · cases g
theorem b_all (hc : X.calm = true) : CallR X (.builtin "all") (rB X.w X.K allD) := by
  intro pins s σ H xs us Q I r h
  obtain ⟨Y, ds, o, yd, pk, g, q⟩ := h
  unfold allD at g
  split at g
  · obtain ⟨bs, hb, rfl⟩ := Option.map_eq_some_iff.mp g
    cases boolsOf_eq hb
    obtain ⟨v, rfl, p⟩ := pk1 pk
    obtain ⟨a, ys, rfl, sa, ra⟩ := p.list_inv
    cases ra.bools
    exact cr_all hc pins s σ H _ us Q I r ⟨a, bs, rfl, sa, q.bl⟩
  · cases g
theorem b_any (hc : X.calm = true) : CallR X (.builtin "any") (rB X.w X.K anyD) := by
  intro pins s σ H xs us Q I r h
  obtain ⟨Y, ds, o, yd, pk, g, q⟩ := h
  unfold anyD at g
  split at g
  · obtain ⟨bs, hb, rfl⟩ := Option.map_eq_some_iff.mp g
    cases boolsOf_eq hb
    obtain ⟨v, rfl, p⟩ := pk1 pk
    obtain ⟨a, ys, rfl, sa, ra⟩ := p.list_inv
    cases ra.bools
    exact cr_any hc pins s σ H _ us Q I r ⟨a, bs, rfl, sa, q.bl⟩
  · cases g
theorem refs_of_refs : ∀ {bs : List Addr} {us : List Value}, Vals (bs.map V.ref) us → us = bs.map Value.ref
  | [], _, .nil => rfl
  | b :: bs, _, .cons r t => by cases r; rw [refs_of_refs t]; rfl
theorem sum_tups_aux (k : Bool) (hc : X.calm = true) {pins : List (Addr × Obj)} {σ : L2.St} {H : Hp} {s : Shared} {Y : As} {Q : VK} {a : Addr} {xs : List V} {u : V} {its us : List Value} {ts : List (List D)} {o : S} (I : Inv X pins σ H s) (yd : ∀ a, Y a → H a ≠ none) (q : Res X.w X.K Y H o Q)
    (r : Vals [.ref a, u] us) (rv : Vals xs its) (pl : if k = true then s.heap.IsList a its.toArray else s.heap.IsTuple a its.toArray) (ra : RpAll X.K Y H xs (ts.map .tuple)) (p' : Pk X.w X.K Y H u (.tuple [])) (g : flatD ts = some o) :
    wpAny (model X.prog X.w) X.A (call (.builtin "sum") us) (EP X pins σ Q) X.xe s := by
  unfold flatD at g
  split at g
  · rename_i hz
    cases g
    have pz := p'.tuple_sh
    obtain ⟨z, zs, rfl, sz, rz⟩ := p'.tuple_inv
    cases rz
    obtain ⟨zits, zv, zt, _⟩ := I.tuple sz
    cases zv
    cases r with
    | cons r1 r2 =>
      cases r2 with
      | cons r3 r4 =>
        cases r4
        cases r1; cases r3
        obtain ⟨bs, yss, conts, rfl, h1, h2, h3, h4, h5, h6⟩ := RpAll.tups I ra
        cases refs_of_refs rv
        have el : conts.flatten.length = ts.flatten.length := by rw [← h3.length, h4.length]
        refine DLr.call_sum_tups (fun b c => (b = z ∧ c = []) ∨ ∃ i, bs[i]? = some b ∧ conts[i]? = some c) (k := k) (bs := bs) (conts := conts) (I.ok.hd hc) pl zt (.inl ⟨rfl, rfl⟩) (fun i b c e1 e2 => .inr ⟨i, e1, e2⟩) h5 (by rw [h1, h2]) (by rw [el]; exact hz) fun h' tk r hk hr hsrc => ?_
        rcases hsrc with hn | ⟨rfl, e⟩ | ⟨i, e1, e2⟩
        · exact ⟨.ref r, upd H r (.tup yss.flatten), I.laid (t' := tk) hk hn ⟨by rw [h4.length]; exact hz, conts.flatten, h3, hr⟩, rfl, Res.tup yd h4 q _ (I.hok.fresh hn)⟩
        · have e3 : ts.flatten = [] := List.eq_nil_of_length_eq_zero (by rw [← el, e]; rfl)
          rw [e3] at q
          exact ⟨.ref r, H, I.kept hk, rfl, q.sh pz⟩
        · obtain ⟨t, t1, t2, t3⟩ := h6 i r _ e1 e2
          have e3 : t = ts.flatten := (List.sublist_flatten_of_mem (List.mem_of_getElem? t1)).eq_of_length (by rw [← t2, el])
          rw [← e3] at q
          exact ⟨.ref r, H, I.kept hk, rfl, q.sh t3⟩
  · cases g
theorem b_sum (hc : X.calm = true) : CallR X (.builtin "sum") (rB X.w X.K sumD) := by
  intro pins s σ H xs us Q I r h
  obtain ⟨Y, ds, o, yd, pk, g, q⟩ := h
  unfold sumD at g
  split at g
  · obtain ⟨bs, hb, rfl⟩ := Option.map_eq_some_iff.mp g
    cases intsOf_eq hb
    obtain ⟨v, rfl, p⟩ := pk1 pk
    obtain ⟨a, ys, rfl, sa, ra⟩ := p.list_inv
    cases ra.ints
    exact cr_sum hc pins s σ H _ us Q I r ⟨a, bs, rfl, sa, q.int⟩
  · obtain ⟨ts, ht, g2⟩ := Option.bind_eq_some_iff.mp g
    cases tupsOf_eq ht
    obtain ⟨v, u, rfl, p, p'⟩ := pk2 pk
    obtain ⟨a, ys, rfl, sa, ra⟩ := p.list_inv
    obtain ⟨its, rv, pl, _⟩ := I.list sa
    exact sum_tups_aux true hc I yd q r rv pl.isList ra p' g2
  · obtain ⟨ts, ht, g2⟩ := Option.bind_eq_some_iff.mp g
    cases tupsOf_eq ht
    obtain ⟨v, u, rfl, p, p'⟩ := pk2 pk
    obtain ⟨a, ys, rfl, sa, ra⟩ := p.tuple_inv
    obtain ⟨its, rv, pl, _⟩ := I.tuple sa
    exact sum_tups_aux false hc I yd q r rv (by obtain ⟨o, e, c, n, d⟩ := pl; exact ⟨o, e, c, n, d⟩) ra p' g2
  · cases g
theorem b_max (hc : X.calm = true) : CallR X (.builtin "max") (rB X.w X.K maxD) := by
  intro pins s σ H xs us Q I r h
  obtain ⟨Y, ds, o, yd, pk, g, q⟩ := h
  unfold maxD at g
  split at g
  · obtain ⟨ns, hb, g⟩ := Option.bind_eq_some_iff.mp g
    obtain ⟨m, hm, rfl⟩ := Option.map_eq_some_iff.mp g
    cases intsOf_eq hb
    obtain ⟨v, rfl, p⟩ := pk1 pk
    obtain ⟨a, ys, rfl, sa, ra⟩ := p.list_inv
    cases ra.ints
    obtain ⟨m1, m2⟩ := maxL_spec hm
    refine cr_max hc pins s σ H _ us Q I r ⟨a, ns, rfl, sa, List.length_pos_of_mem m1, fun k k1 k2 => ?_⟩
    rw [show k = m from Int.le_antisymm (m2 k k1) (k2 m m1)]
    exact q.int
  · cases g
    obtain ⟨v, u, rfl, p, p'⟩ := pk2 pk
    cases p.int_inv; cases p'.int_inv
    exact call_max2 hc pins s σ H _ us Q I r ⟨_, _, rfl, q.int⟩
  · cases g
theorem b_min (hc : X.calm = true) : CallR X (.builtin "min") (rB X.w X.K minD) := by
  intro pins s σ H xs us Q I r h
  obtain ⟨Y, ds, o, yd, pk, g, q⟩ := h
  unfold minD at g
  split at g
  · obtain ⟨ns, hb, g⟩ := Option.bind_eq_some_iff.mp g
    obtain ⟨m, hm, rfl⟩ := Option.map_eq_some_iff.mp g
    cases intsOf_eq hb
    obtain ⟨v, rfl, p⟩ := pk1 pk
    obtain ⟨a, ys, rfl, sa, ra⟩ := p.list_inv
    cases ra.ints
    obtain ⟨m1, m2⟩ := minL_spec hm
    refine cr_min hc pins s σ H _ us Q I r ⟨a, ns, rfl, sa, List.length_pos_of_mem m1, fun k k1 k2 => ?_⟩
    rw [show k = m from Int.le_antisymm (k2 m m1) (m2 k k1)]
    exact q.int
  · cases g
    obtain ⟨v, u, rfl, p, p'⟩ := pk2 pk
    cases p.int_inv; cases p'.int_inv
    exact call_min2 hc pins s σ H _ us Q I r ⟨_, _, rfl, q.int⟩
  · cases g
theorem b_tuple : CallR X (.type "tuple") (rB X.w X.K tupleD) := by
  intro pins s σ H xs us Q I r h
  obtain ⟨Y, ds, o, yd, pk, g, q⟩ := h
  unfold tupleD at g
  split at g
  · cases g
    obtain ⟨v, rfl, p⟩ := pk1 pk
    obtain ⟨a, ys, rfl, sa, ra⟩ := p.list_inv
    exact call_tuple_of pins s σ H _ us Q I r ⟨a, ys, rfl, .inl ⟨sa, Res.tup yd ra q⟩⟩
  · cases g
    obtain ⟨v, rfl, p⟩ := pk1 pk
    have p2 := p.tuple_sh
    obtain ⟨a, ys, rfl, sa, ra⟩ := p.tuple_inv
    exact call_tuple_of pins s σ H _ us Q I r ⟨a, ys, rfl, .inr ⟨sa, q.sh p2⟩⟩
  · cases g
theorem b_tupN : CallR X (.type "tuple") (rB X.w X.K tupND) := by
  intro pins s σ H xs us Q I r h
  obtain ⟨Y, ds, o, yd, pk, g, q⟩ := h
  unfold tupND at g
  split at g
  · cases g
    obtain ⟨v, rfl, p⟩ := pk1 pk
    obtain ⟨a, ys, rfl, sa, ra⟩ := p.list_inv
    obtain ⟨its, rv, pl, hz⟩ := I.list sa
    rw [Vals.ref1 r]
    refine call_tuple_list pl.isList (fun h' hk => ?_) (by rw [List.size_toArray, ← rv.length]; exact hz)
    have I1 : Inv X pins σ H { s with heap := h' } := I.kept (t' := s.toks) hk
    have hn : H h'.objs.size = none := I1.hok.fresh (Nat.le_refl _)
    have I2 : Inv X pins σ (upd H h'.objs.size (.frz { cls := .type "tuple", data := .seq its.toArray } (.tup ys))) { s with heap := h'.push { cls := .type "tuple", data := .seq its.toArray } } :=
      I1.laid (t' := s.toks) (fun b o e => Heap.get?_push_of_some _ e) (Nat.le_refl _) (show ObjOk X.prog X.w _ _ _ (.frz _ (.tup ys)) from ⟨Heap.get?_push_size _ rfl, hz, its, rv, IsTup.new _ _⟩)
    exact ⟨.ref h'.objs.size, _, I2, rfl, q _ _ hn (same_upd hn) ⟨_, ys, upd_same, rfl, ra.move (fun a o e _ => same_upd hn a o e) (fun a e z => z.elim id fun z => absurd hn (by rw [← z]; exact e)) _ _⟩⟩
  · cases g
theorem b_list : CallR X (.type "list") (rB X.w X.K listD) := by
  intro pins s σ H xs us Q I r h
  obtain ⟨Y, ds, o, yd, pk, g, q⟩ := h
  unfold listD at g
  split at g
  · cases g
    obtain ⟨v, rfl, p⟩ := pk1 pk
    obtain ⟨a, ys, rfl, sa, ra⟩ := p.list_inv
    exact call_list_of pins s σ H _ us Q I r ⟨a, ys, rfl, .inl sa, Res.lst ra q⟩
  · cases g
    obtain ⟨v, rfl, p⟩ := pk1 pk
    obtain ⟨a, ys, rfl, sa, ra⟩ := p.tuple_inv
    exact call_list_of pins s σ H _ us Q I r ⟨a, ys, rfl, .inr sa, Res.lst ra q⟩
  · cases g
theorem each_of {K : PySem.W.Frag} {Y : As} {H : Hp} : ∀ {xs : List V} {us : List Value} {ds : List D}, Vals xs us → RpAll K Y H xs ds → PySem.W.EachIs (fun u d => ∃ x, RelV x u ∧ Rp K Y H x d) us ds
  | _, _, _, .nil, .nil => .nil
  | _, _, _, .cons r t, .cons h t' => .cons ⟨_, r, h⟩ (each_of t t')
theorem of_each {K : PySem.W.Frag} {Y : As} {H : Hp} : ∀ {us : List Value} {ds : List D}, PySem.W.EachIs (fun u d => ∃ x, RelV x u ∧ Rp K Y H x d) us ds → ∃ xs, Vals xs us ∧ RpAll K Y H xs ds
  | _, _, .nil => ⟨[], .nil, .nil⟩
  | _, _, .cons ⟨x, r, h⟩ t => by
    obtain ⟨xs, r', h'⟩ := of_each t
    exact ⟨x :: xs, .cons r r', .cons h h'⟩
theorem each_reads {X : Cx} {pins : List (Addr × Obj)} {σ : L2.St} {H : Hp} {s : Shared} {Y : As} (I : Inv X pins σ H s) : ∀ {us : List Value} {ds : List D}, PySem.W.EachIs (fun u d => ∃ x, RelV x u ∧ Rp X.K Y H x d) us ds → PySem.W.EachIs (fun v b => ∃ as, Reads s.heap v (id b) as) us ds
  | _, _, .nil => .nil
  | _, _, .cons ⟨x, r, h⟩ t => .cons (Dp.reads I _ x _ (h.dp _ _) r) (each_reads I t)
theorem b_srt (hu : X.A.units + 200 < cLine) : CallR X (.builtin "sorted") (rB X.w X.K srtD) := by
  intro pins s σ H xs us Q I r h
  obtain ⟨Y, ds, o, yd, pk, g, q⟩ := h
  unfold srtD at g
  split at g
  · rename_i es
    split at g
    · rename_i hok
      cases g
      obtain ⟨v, rfl, p⟩ := pk1 pk
      obtain ⟨a, ys, rfl, sa, ra⟩ := p.list_inv
      obtain ⟨its, rv, hl, hz⟩ := I.list sa
      rw [Vals.ref1 r]
      unfold srtOk at hok
      simp only [Bool.and_eq_true, Bool.or_eq_true, List.all_eq_true, decide_eq_true_eq] at hok
      obtain ⟨⟨h1, h2⟩, h3⟩ := hok
      have e := each_of rv ra
      have hle : its.length = es.length := by rw [← rv.length, ra.length]
      refine PySem.W.sorted_data (enc := id) (bs := es) hl.isList e (each_reads I e) (by rw [List.map_id]; exact fun d hd d' hd' => h1 d hd d' hd') ?_ (by rw [← hle, ← rv.length]; exact hz) (fun d hd => by have := h3 d hd; show X.A.units + 2 + d.depth < cLine; omega) (fun out hlen ho => ?_)
      · rw [List.map_id]
        rcases h2 with h2 | h2
        · refine .inl fun d hd => ?_
          have := h2 d hd
          split at this
          · exact ⟨_, _, rfl⟩
          · cases this
        · refine .inr fun d hd => ?_
          have := h2 d hd
          refine ⟨fun z => ?_, fun xs z => ?_⟩
          · subst z; cases this
          · subst z; cases this
      · obtain ⟨xs', r', h'⟩ := of_each ho
        obtain ⟨ep, he'⟩ := PyProof.Rows.sortedAll_at s.heap its out.toArray
        have hl' : xs'.length ≤ sizeLine := by rw [r'.length, hlen, ← hle, ← rv.length]; exact hz
        exact ⟨.ref _, upd H (s.heap.objs.size + 1) (.lst xs'), I.laid (t' := s.toks) (fun _ _ => PyProof.Rows.sortedAll_old) (Nat.le_succ _) ⟨hl', out, ep, r', he'⟩, rfl, Res.lst h' q _ (I.hok.fresh (Nat.le_succ _))⟩
    · cases g
  · cases g
/-- the value that a built-in's name has -/
def Bi.fn : Bi → Value
  | .int => .type "int" | .tuple => .type "tuple" | .list => .type "list" | .tupleN => .type "tuple"
  | .len => .builtin "len" | .abs => .builtin "abs" | .all => .builtin "all" | .any => .builtin "any" | .sum => .builtin "sum" | .max => .builtin "max" | .min => .builtin "min" | .sorted => .builtin "sorted"
theorem b_all_of (hc : X.calm = true) (hu : X.A.units + 200 < cLine) (b : Bi) : CallR X b.fn (rB X.w X.K b.run) := by
  cases b with
  | len => exact b_len
  | abs => exact b_abs
  | int => exact b_int
  | all => exact b_all hc
  | any => exact b_any hc
  | sum => exact b_sum hc
  | max => exact b_max hc
  | min => exact b_min hc
  | tuple => exact b_tuple
  | list => exact b_list
  | sorted => exact b_srt hu
  | tupleN => exact b_tupN
theorem Bi.boot (b : Bi) : bootBuiltins b.name = some b.fn := by
  cases b <;> decide +kernel
theorem Bi.name_ok (b : Bi) : b.name ≠ "__name__" ∧ (b.name == ("__debug__" : Str)) = false := by
  cases b <;> exact ⟨by decide +kernel, by decide +kernel⟩

/-! ### subscripts -/
def ixD (d e : D) : Option S :=
  match d, e with
  | .list ds, .int i => (atI ds i).map .val
  | .tuple ds, .int i => (atI ds i).map .val
  | .str z, .int i => if z.length ≤ sizeLine then (atI z.cps.toList i).map fun c => .val (.str ⟨#[c]⟩) else none
  | _, _ => none
theorem atI_rp {K : PySem.W.Frag} {Y : As} {H : Hp} {vs : List V} {ds : List D} {i : Int} {d : D} (h : RpAll K Y H vs ds) (e : atI ds i = some d) : ∃ v, atI vs i = some v ∧ Rp K Y H v d := by
  unfold atI at e ⊢
  rw [h.length]
  cases q : ixN ds.length i with
  | none => rw [q] at e; cases e
  | some j =>
    rw [q] at e
    exact h.get e
theorem ix_D : IxR X (rOp2 X.w X.K ixD) := by
  intro value slice pins s σ H x y v u Q I rx ry h hs
  obtain ⟨Y, d, e, o, yd, px, py, g, q⟩ := h
  unfold ixD at g
  split at g
  · obtain ⟨z, hz, rfl⟩ := Option.map_eq_some_iff.mp g
    obtain ⟨a, xs, rfl, sa, ra⟩ := px.list_inv
    cases py.int_inv
    obtain ⟨w, h1, h2⟩ := atI_rp ra hz
    exact ix_list value slice pins s σ H _ _ v u Q I rx ry ⟨a, xs, _, w, rfl, rfl, sa, h1, q.sh h2⟩ hs
  · obtain ⟨z, hz, rfl⟩ := Option.map_eq_some_iff.mp g
    obtain ⟨a, xs, rfl, sa, ra⟩ := px.tuple_inv
    cases py.int_inv
    obtain ⟨w, h1, h2⟩ := atI_rp ra hz
    exact ix_tup value slice pins s σ H _ _ v u Q I rx ry ⟨a, xs, _, w, rfl, rfl, sa, h1, q.sh h2⟩ hs
  · split at g
    · rename_i hz
      obtain ⟨c, hc, rfl⟩ := Option.map_eq_some_iff.mp g
      cases px.str_inv
      cases py.int_inv
      exact ix_str value slice pins s σ H _ _ v u Q I rx ry ⟨_, _, c, rfl, rfl, hz, hc, q.sh (.str _)⟩ hs
    · cases g
  · cases g

/-! ### slices -/
def cutD (ds : List D) (lo hi : Option Int) : List D := (ds.drop (HT.sIx ds.length 0 lo)).take (HT.sIx ds.length ds.length hi - HT.sIx ds.length 0 lo)
def slD (d : D) (lo hi : Option Int) : Option S :=
  match d with
  | .list ds => some (.own (.list (cutD ds lo hi)))
  | .tuple ds => some (.val (.tuple (cutD ds lo hi)))
  | _ => none
theorem cut_rp {K : PySem.W.Frag} {Y : As} {H : Hp} {vs : List V} {ds : List D} (h : RpAll K Y H vs ds) (lo hi : Option Int) : RpAll K Y H (cutV vs lo hi) (cutD ds lo hi) := by
  unfold cutV cutD
  rw [h.length]
  exact (h.drop _).take _
theorem cut_whole {ds : List D} {lo hi : Option Int} (h : HT.sIx ds.length 0 lo = 0 ∧ HT.sIx ds.length ds.length hi = ds.length) : cutD ds lo hi = ds := by
  unfold cutD
  rw [h.1, h.2, Nat.sub_zero, List.drop_zero, List.take_length]
def rSl (ω : World) (K : PySem.W.Frag) : V → Option Int → Option Int → Hp → VK → Prop := fun x lo hi H Q => ∃ Y d s, (∀ a, Y a → H a ≠ none) ∧ Pk ω K Y H x d ∧ slD d lo hi = some s ∧ Res ω K Y H s Q
theorem sl_D : SlR X (rSl X.w X.K) := by
  intro pins s σ H x v vl vu lo hi sl Q I rx hs pl pu h
  obtain ⟨Y, d, o, yd, px, g, q⟩ := h
  unfold slD at g
  split at g
  · cases g
    obtain ⟨a, xs, rfl, sa, ra⟩ := px.list_inv
    exact sl_list pins s σ H _ v vl vu lo hi sl Q I rx hs pl pu ⟨a, xs, rfl, sa, Res.lst (cut_rp ra lo hi) q⟩
  · cases g
    have p2 := px.tuple_sh
    obtain ⟨a, xs, rfl, sa, ra⟩ := px.tuple_inv
    refine sl_tupA pins s σ H _ v vl vu lo hi sl Q I rx hs pl pu ⟨a, xs, rfl, sa, fun w => ?_, fun _ => Res.tup yd (cut_rp ra lo hi) q⟩
    rw [ra.length] at w
    rw [cut_whole w] at q
    exact q.sh p2
  · cases g

/-! ### truth -/
def truD : D → Option Bool
  | .none => some false
  | .bool b => some b
  | .int i => some (i != 0)
  | .str x => if x.length ≤ sizeLine then some ((x.length : Int) != 0) else none
  | .list ds => some (!ds.isEmpty)
  | .tuple ds => some (!ds.isEmpty)
  | .dict _ => none
theorem tru_of {ω : World} {K : PySem.W.Frag} {Y : As} {H : Hp} {v : V} {d : D} {b : Bool} (p : Pk ω K Y H v d) (h : truD d = some b) : TruV K v H b := by
  cases d with
  | none => cases p.none_inv; cases h; rfl
  | bool c => cases p.bool_inv; cases h; rfl
  | int i => cases p.int_inv; cases h; rfl
  | str x =>
    cases p.str_inv
    have h : (if x.length ≤ sizeLine then some ((x.length : Int) != 0) else none) = some b := h
    split at h
    · rename_i hz; cases h; exact ⟨hz, rfl⟩
    · cases h
  | list ds =>
    obtain ⟨a, xs, rfl, sa, ra⟩ := p.list_inv
    cases h
    refine .inl ⟨xs, sa, ?_⟩
    cases ra <;> rfl
  | tuple ds =>
    obtain ⟨a, xs, rfl, sa, ra⟩ := p.tuple_inv
    cases h
    refine .inr (.inl ⟨xs, sa, ?_⟩)
    cases ra <;> rfl
  | dict _ => cases h

/-! ### isinstance -/
inductive Ty where
  | int | bool | str | tuple | list
  deriving DecidableEq
def Ty.name : Ty → String
  | .int => "int" | .bool => "bool" | .str => "str" | .tuple => "tuple" | .list => "list"
def Ty.nameS : Ty → Str
  | .int => "int" | .bool => "bool" | .str => "str" | .tuple => "tuple" | .list => "list"
def isaD : Ty → D → Bool
  | .int, .int _ => true
  | .int, .bool _ => true
  | .bool, .bool _ => true
  | .str, .str _ => true
  | .tuple, .tuple _ => true
  | .list, .list _ => true
  | _, _ => false
def nmD : D → String
  | .none => "NoneType" | .bool _ => "bool" | .int _ => "int" | .str _ => "str" | .list _ => "list" | .tuple _ => "tuple" | .dict _ => "dict"
theorem kit_isa (T : Ty) (d : D) : kitB (nmD d) T.name = some (isaD T d) := by
  cases T <;> cases d <;> (simp only [nmD, Ty.name, isaD]; decide +kernel)
theorem tyX_of {ω : World} {K : PySem.W.Frag} {Y : As} {H : Hp} {v : V} {d : D} (p : Pk ω K Y H v d) (hd : ∀ kvs, d ≠ .dict kvs) : TyX K H v (.type (nmD d)) := by
  cases d with
  | none => cases p.none_inv; exact .base .non
  | bool c => cases p.bool_inv; exact .base (.bl _)
  | int i => cases p.int_inv; exact .base (.int _)
  | str x => cases p.str_inv; exact .base (.str _)
  | list ds =>
    obtain ⟨a, xs, rfl, sa, ra⟩ := p.list_inv
    rcases sa with (sa | ⟨o, sa⟩) | ⟨o, its, n, h1, h2, _⟩
    · exact .base (.lst sa)
    · exact .base (.frz sa)
    · exact .kList h1 h2
  | tuple ds =>
    obtain ⟨a, xs, rfl, sa, ra⟩ := p.tuple_inv
    rcases sa with (sa | ⟨o, sa⟩) | ⟨o, its, n, h1, h2, _⟩
    · exact .base (.tup sa)
    · exact .fTuple sa
    · exact .kTuple h1 h2
  | dict kvs => exact absurd rfl (hd kvs)
end
end DL

namespace DL
open PySem PySem.Spec PyProof.Rows L2

section
variable {ρ ρ1 ρ2 : En} {σ σ1 σ2 : Sg} {H H1 H2 : Hp} {Z Z' : As} {ω : World} {K : PySem.W.Frag}
theorem ER.yd (E : ER ω K Z ρ σ H) : ∀ a, YY Z ρ σ a → H a ≠ none := fun a h => by
  rcases h with h | ⟨i, s, d, e1, e2, e3⟩
  · exact E.zd a h
  · obtain ⟨b, q1, q2⟩ := E.own i s d e1 e2
    rw [e3] at q1; cases q1
    exact q2.ne
/-- less is foreign -/
theorem ER.weakZ (E : ER ω K Z ρ σ H) (h : ∀ a, Z' a → Z a) : ER ω K Z' ρ σ H where
  len := E.len
  zd := fun a z => E.zd a (h a z)
  zo := fun a z => E.zo a (h a z)
  val := fun i d e => by
    obtain ⟨v, q1, q2⟩ := E.val i d e
    exact ⟨v, q1, q2.move (fun _ _ e _ => e) (fun a _ z => z.elim (fun z => .inl (h a z)) .inr) d v⟩
  own := fun i s d e1 e2 => by
    obtain ⟨a, q1, q2⟩ := E.own i s d e1 e2
    exact ⟨a, q1, q2.move (fun _ _ e _ => e) (fun _ e => e) fun a _ z => z.elim (fun z => .inl (h a z)) .inr⟩
  inj := E.inj
/-- a new address is foreign -/
theorem ER.addZ (E : ER ω K Z ρ σ H) {a : Addr} (hn : H a = none) (hs : Same H H1) (h1 : H1 a ≠ none) : ER ω K (fun b => Z b ∨ b = a) ρ σ H1 where
  len := E.len
  zd := fun b z => by
    rcases z with z | rfl
    · exact (Stp.same (ρ := ρ) (σ := σ) hs).dom b (E.zd b z)
    · exact h1
  zo := fun b z q => by
    rcases z with z | rfl
    · exact E.zo b z q
    · exact E.yd b (.inr q) hn
  val := fun i d e => by
    obtain ⟨v, q1, q2⟩ := E.val i d e
    refine ⟨v, q1, q2.move (fun b o e _ => hs b o e) (fun b e z => ?_) d v⟩
    rcases z with (z | rfl) | z
    · exact .inl z
    · exact absurd hn e
    · exact .inr z
  own := fun i s d e1 e2 => by
    obtain ⟨b, q1, q2⟩ := E.own i s d e1 e2
    refine ⟨b, q1, q2.move (fun b o e _ => hs b o e) (fun o e => hs _ o e) fun b e z => ?_⟩
    rcases z with (z | rfl) | z
    · exact .inl z
    · exact absurd hn e
    · exact .inr z
  inj := E.inj
theorem set_get {α : Type} {l : List α} {i j : Nat} {x y : α} (h : (l.set i x)[j]? = some y) : (i = j ∧ y = x ∧ i < l.length) ∨ (i ≠ j ∧ l[j]? = some y) := by
  by_cases e : i = j
  · subst e
    by_cases hl : i < l.length
    · rw [List.getElem?_set_self hl] at h
      exact .inl ⟨rfl, (Option.some.inj h).symm, hl⟩
    · rw [List.getElem?_eq_none (by simpa using hl)] at h; cases h
  · rw [List.getElem?_set_ne e] at h
    exact .inr ⟨e, h⟩
/-- an own object is shared from now on -/
theorem ER.freeze (E : ER ω K Z ρ σ H) {i : Nat} {d : D} (h : ρ[i]? = some (.own d)) (hd : isDict d = false) : ER ω K Z (ρ.set i (.val d)) σ H := by
  obtain ⟨a, ha, oa⟩ := E.own i _ d h rfl
  have sub : ∀ b, OB (ρ.set i (.val d)) σ b → OB ρ σ b ∧ b ≠ a := fun b ⟨j, s, d', e1, e2, e3⟩ => by
    rcases set_get e1 with ⟨rfl, rfl, _⟩ | ⟨ne, e1⟩
    · cases e2
    · refine ⟨⟨j, s, d', e1, e2, e3⟩, fun z => ne ?_⟩
      subst z
      exact E.inj i j _ s d d' _ h e1 rfl e2 ha e3
  have yy : ∀ b, YY Z (ρ.set i (.val d)) σ b → YY Z ρ σ b := fun b z => z.elim .inl fun z => .inr (sub b z).1
  have nya : ¬ YY Z (ρ.set i (.val d)) σ a := fun z => by
    rcases z with z | z
    · exact E.zo a z ⟨i, _, d, h, rfl, ha⟩
    · exact (sub a z).2 rfl
  refine ⟨by rw [List.length_set]; exact E.len, E.zd, fun b z q => E.zo b z (sub b q).1, fun j e q => ?_, fun j s e q1 q2 => ?_, fun j k s t d' e b q1 q2 q3 q4 q5 q6 => ?_⟩
  · rcases set_get q with ⟨rfl, q, _⟩ | ⟨ne, q⟩
    · cases q
      exact ⟨_, ha, (oa.move (fun _ _ e _ => e) (fun _ e => e) fun b _ z => yy b z).share hd nya⟩
    · obtain ⟨v, w1, w2⟩ := E.val j e q
      exact ⟨v, w1, w2.move (fun _ _ e _ => e) (fun b _ z => yy b z) e v⟩
  · rcases set_get q1 with ⟨rfl, q1, _⟩ | ⟨ne, q1⟩
    · cases q1; cases q2
    · obtain ⟨b, w1, w2⟩ := E.own j s e q1 q2
      exact ⟨b, w1, w2.move (fun _ _ e _ => e) (fun _ e => e) fun b _ z => yy b z⟩
  · rcases set_get q1 with ⟨rfl, q1, _⟩ | ⟨ne, q1⟩
    · cases q1; cases q3
    · rcases set_get q2 with ⟨rfl, q2, _⟩ | ⟨ne2, q2⟩
      · cases q2; cases q4
      · exact E.inj j k s t d' e b q1 q2 q3 q4 q5 q6
theorem Stp.freeze {i : Nat} {d : D} (h : ρ[i]? = some (.own d)) : Stp ρ σ H (ρ.set i (.val d)) σ H :=
  ⟨fun _ _ e _ => e, fun _ e => e, fun j e a q1 q2 => by
    rcases set_get q1 with ⟨rfl, q1, _⟩ | ⟨ne, q1⟩
    · cases q1
    · exact .inl ⟨⟨e, q1⟩, q2⟩, fun j e q => by
    rcases set_get q with ⟨rfl, q, _⟩ | ⟨ne, q⟩
    · cases q
    · exact ⟨⟨e, q⟩, rfl⟩⟩
/-- what a built-in operation hands back, as an outcome -/
theorem Res.post {ρ0 : En} {H0 : Hp} {s : S} {Q : VK} (E : ER ω K Z ρ1 σ H) (t : Stp ρ0 σ H0 ρ1 σ H) (ho : s.out = true) (q : ∀ v H1, PostE ω K Z ρ0 σ H0 s ρ1 v H1 → Q v H1) : Res ω K (YY Z ρ1 σ) H s Q := by
  cases s with
  | un => cases ho
  | bor d => cases ho
  | val d =>
    intro v H1 hs r
    exact q v H1 ⟨E.same hs, t.trans (Stp.same hs), r⟩
  | own d =>
    intro a H1 hn hs o
    exact q _ H1 ⟨E.same hs, t.trans (Stp.same hs), a, rfl, t.fresh hn, fun z => E.zd a z hn, E.addZ hn hs o.ne, o.move (fun _ _ e _ => e) (fun _ e => e) fun b _ z => by
      rcases z with (z | z) | z
      · exact .inl (.inl z)
      · exact .inr z
      · exact .inl (.inr z)⟩
/-- an outcome that is shared -/
theorem PostE.share {s : S} {d : D} {v : V} (p : PostE ω K Z ρ σ H s ρ1 v H1) (hd : s.shr = some d) : Rp K (YY Z ρ1 σ) H1 v d := by
  have r := p.rs
  cases s with
  | un => cases hd
  | val e => cases hd; exact r
  | own e =>
    have hd2 := (S.shr_own hd).2
    obtain rfl := (S.shr_own hd).1
    obtain ⟨a, rfl, hn, nz, E, o⟩ := r
    refine (o.move (fun _ _ e _ => e) (fun _ e => e) (Y' := YY Z ρ1 σ) fun b _ z => z.elim (fun z => .inl (.inl z)) .inr).share hd2 fun z => ?_
    rcases z with z | z
    · exact nz z
    · exact E.zo a (.inr rfl) z
  | bor e => cases hd
end
end DL

namespace DL
open PySem PySem.Spec PyProof.Rows L2

/-! ### operands: a name's place, or shared data -/
inductive P where
  | at (i : Nat)
  | dv (d : D)
def P.get (ρ : En) : P → Option D
  | .at i => (ρ[i]?).bind S.data
  | .dv d => some d
abbrev FP := En → R (P × En)
abbrev FL := En → R (List P × En)
abbrev FB := En → R (Bool × En)

def RP (K : PySem.W.Frag) (Z : As) (ρ : En) (σ : Sg) (H : Hp) (v : V) : P → Prop
  | .at i => σ[i]? = some (some v)
  | .dv d => Rp K (YY Z ρ σ) H v d
structure PostP (ω : World) (K : PySem.W.Frag) (Z : As) (ρ : En) (σ : Sg) (H : Hp) (p : P) (ρ1 : En) (v : V) (H1 : Hp) : Prop where
  er : ER ω K Z ρ1 σ H1
  st : Stp ρ σ H ρ1 σ H1
  rp : RP K Z ρ1 σ H1 v p
structure PostL (ω : World) (K : PySem.W.Frag) (Z : As) (ρ : En) (σ : Sg) (H : Hp) (ps : List P) (ρ1 : En) (vs : List V) (H1 : Hp) : Prop where
  er : ER ω K Z ρ1 σ H1
  st : Stp ρ σ H ρ1 σ H1
  rp : Paired (RP K Z ρ1 σ H1) vs ps
structure PostT (ω : World) (K : PySem.W.Frag) (Z : As) (ρ : En) (σ : Sg) (H : Hp) (ρ1 : En) (H1 : Hp) : Prop where
  er : ER ω K Z ρ1 σ H1
  st : Stp ρ σ H ρ1 σ H1
def tFP (X : Cx) (f : FP) : TE := fun σ H Q => ∃ Z ρ, ER X.w X.K Z ρ σ H ∧ Ask X (f ρ) fun q => ∀ v H1, PostP X.w X.K Z ρ σ H q.1 q.2 v H1 → Q v H1
def tFL (X : Cx) (f : FL) : TA := fun σ H Q => ∃ Z ρ, ER X.w X.K Z ρ σ H ∧ Ask X (f ρ) fun q => ∀ v H1, PostL X.w X.K Z ρ σ H q.1 q.2 v H1 → Q v H1
def tFB (X : Cx) (f : FB) : TT := fun σ H Q => ∃ Z ρ, ER X.w X.K Z ρ σ H ∧ Ask X (f ρ) fun q => ∀ H1, PostT X.w X.K Z ρ σ H q.2 H1 → Q q.1 H1

theorem RP.step {K : PySem.W.Frag} {Z : As} {ρ ρ1 : En} {σ : Sg} {H H1 : Hp} {v : V} {p : P} (t : Stp ρ σ H ρ1 σ H1) (r : RP K Z ρ σ H v p) : RP K Z ρ1 σ H1 v p := by
  cases p with
  | «at» i => exact r
  | dv d => exact t.rp r
theorem RP.get {ω : World} {K : PySem.W.Frag} {Z : As} {ρ : En} {σ : Sg} {H : Hp} {v : V} {p : P} {d : D} (E : ER ω K Z ρ σ H) (r : RP K Z ρ σ H v p) (g : p.get ρ = some d) : Pk ω K (YY Z ρ σ) H v d := by
  cases p with
  | «at» i =>
    obtain ⟨s, hs, hd⟩ := Option.bind_eq_some_iff.mp (show (ρ[i]?).bind S.data = some d from g)
    obtain ⟨w, e1, e2⟩ := E.data hs hd
    have e3 : σ[i]? = some (some v) := r
    rw [e3] at e1
    cases e1
    exact e2
  | dv e =>
    cases g
    exact .sh r

/-! ### the meanings put together -/
def shareF (f : FE) : FP := fun ρ => (f ρ).bind fun q => (R.of q.1.shr).bind fun d => .ok (.dv d, q.2)
def atF (i : Nat) : FP := fun ρ => (R.of ((ρ[i]?).bind S.full)).bind fun _ => .ok (.at i, ρ)
def nilF : FL := fun ρ => .ok ([], ρ)
def consF (f : FP) (g : FL) : FL := fun ρ => (f ρ).bind fun q => (g q.2).bind fun r => .ok (q.1 :: r.1, r.2)
def op2F (g : D → D → Option S) (fa fb : FP) : FE := fun ρ => (fa ρ).bind fun p => (fb p.2).bind fun q => (R.of (p.1.get q.2)).bind fun d => (R.of (q.1.get q.2)).bind fun e => (R.of (g d e)).bind fun s => if s.out then .ok (s, q.2) else .stuck
def un1F (g : D → Option S) (fa : FP) : FE := fun ρ => (fa ρ).bind fun p => (R.of (p.1.get p.2)).bind fun d => (R.of (g d)).bind fun s => if s.out then .ok (s, p.2) else .stuck
def getAll (ρ : En) : List P → Option (List D)
  | [] => some []
  | p :: ps => (p.get ρ).bind fun d => (getAll ρ ps).map (d :: ·)
def callF (g : List D → Option S) (f : FL) : FE := fun ρ => (f ρ).bind fun q => (R.of (getAll q.2 q.1)).bind fun ds => (R.of (g ds)).bind fun s => if s.out then .ok (s, q.2) else .stuck
def truF (f : FE) : FB := fun ρ => (f ρ).bind fun q => (R.of (q.1.shr.bind truD)).bind fun b => .ok (b, q.2)
def cstF (d : D) : FE := fun ρ => .ok (.val d, ρ)
def varF (i : Nat) : FE := fun ρ => match ρ[i]? with
  | some (.val d) => .ok (.val d, ρ)
  | some (.own d) => if isDict d = true then .stuck else .ok (.val d, ρ.set i (.val d))
  | _ => .stuck
def notF (f : FB) : FE := fun ρ => (f ρ).bind fun q => .ok (.val (.bool (!q.1)), q.2)
def andF (fa : FE) (fb : FE) : FE := fun ρ => (fa ρ).bind fun q => (R.of (q.1.shr.bind truD)).bind fun b => if b then fb q.2 else .ok q
def orF (fa : FE) (fb : FE) : FE := fun ρ => (fa ρ).bind fun q => (R.of (q.1.shr.bind truD)).bind fun b => if b then .ok q else fb q.2
def ifF (fc : FB) (fa fb : FE) : FE := fun ρ => (fc ρ).bind fun q => if q.1 then fa q.2 else fb q.2
def tupF (f : FL) : FE := callF (fun ds => if ds.length ≤ sizeLine then some (.val (.tuple ds)) else none) f
def lstF (f : FL) : FE := callF (fun ds => if ds.length ≤ sizeLine then some (.own (.list ds)) else none) f

theorem RS.back {ω : World} {K : PySem.W.Frag} {Z : As} {ρ ρ1 ρ2 : En} {σ : Sg} {H H1 H2 : Hp} {v : V} {s : S} (r : RS ω K Z ρ2 σ H1 H2 v s) (t : Stp ρ σ H ρ1 σ H1) : RS ω K Z ρ2 σ H H2 v s := by
  cases s with
  | un => exact r
  | val d => exact r
  | own d =>
    obtain ⟨a, e, hn, r⟩ := r
    exact ⟨a, e, t.fresh hn, r⟩
  | bor d => exact r

section
variable {X : Cx}
/-- an expression as an operand -/
theorem share_wp {f : FE} {σ : Sg} {H : Hp} {Q : VK} (h : tFP X (shareF f) σ H Q) : tFE X f σ H Q := by
  obtain ⟨Z, ρ, E, h⟩ := h
  refine ⟨Z, ρ, E, ?_⟩
  refine (Ask.bind h).mono fun q _ h => ?_
  obtain ⟨d, hd, h⟩ := (Ask.bind h).of
  intro v H1 p
  exact h v H1 ⟨p.er, p.st, p.share hd⟩
theorem pe_share {e : Expr} {f : FE} (h : PE X e (tFE X f)) : PE X e (tFP X (shareF f)) := h.imp fun _ _ _ => share_wp
theorem pe_at {i : Nat} {x : Str} {pos : Pos} (hN : X.N[i]? = some x) (hv : Vis X.env.scope x) (hd : (x == ("__debug__" : Str)) = false) (hcd : (x == ("__classdict__" : Str)) = false) : PE X (.Name x pos) (tFP X (atF i)) := by
  refine (pe_var hN hv hd hcd).imp fun σ H Q h => ?_
  obtain ⟨Z, ρ, E, h⟩ := h
  obtain ⟨d, hd, h⟩ := (Ask.bind h).of
  obtain ⟨s, hs, hd⟩ := Option.bind_eq_some_iff.mp hd
  obtain ⟨v, e1⟩ := E.full hs hd
  exact ⟨v, e1, h v H ⟨E, Stp.refl, e1⟩⟩
theorem pe_varF {i : Nat} {x : Str} {pos : Pos} (hN : X.N[i]? = some x) (hv : Vis X.env.scope x) (hd : (x == ("__debug__" : Str)) = false) (hcd : (x == ("__classdict__" : Str)) = false) : PE X (.Name x pos) (tFE X (varF i)) := by
  refine (pe_var hN hv hd hcd).imp fun σ H Q h => ?_
  obtain ⟨Z, ρ, E, h⟩ := h
  unfold varF at h
  split at h
  · rename_i d hs
    obtain ⟨v, e1, e2⟩ := E.val i d hs
    exact ⟨v, e1, h v H ⟨E, Stp.refl, e2⟩⟩
  · rename_i d hs
    by_cases hdd : isDict d = true
    · rw [if_pos hdd] at h; exact h.elim
    rw [if_neg hdd] at h
    obtain ⟨a, e1, e2⟩ := E.own i _ d hs rfl
    have E' := E.freeze hs (by simpa using hdd)
    have hl : i < ρ.length := (List.getElem?_eq_some_iff.mp hs).1
    obtain ⟨v, w1, w2⟩ := E'.val i d (by rw [List.getElem?_set_self hl])
    exact ⟨v, w1, h v H ⟨E', Stp.freeze hs, w2⟩⟩
  · exact h.elim
theorem cst_wp {d : D} {v : V} {σ : Sg} {H : Hp} {Q : VK} (hr : ∀ Y, Rp X.K Y H v d) (h : tFE X (cstF d) σ H Q) : Q v H := by
  obtain ⟨Z, ρ, E, h⟩ := h
  exact h v H ⟨E, Stp.refl, hr _⟩
theorem pe_nilF : PA X [] (tFL X nilF) := by
  refine ⟨fun pos pins s σ H Q I h => pa_nil.run pos pins s σ H Q I ?_⟩
  obtain ⟨Z, ρ, E, h⟩ := h
  exact h [] H ⟨E, Stp.refl, .nil⟩
/-- an operand, then more of them -/
theorem cons_wp {f : FP} {g : FL} {σ : Sg} {H : Hp} {Q : List V → Hp → Prop} (h : tFL X (consF f g) σ H Q) : tCons (tFP X f) (tFL X g) σ H Q := by
  obtain ⟨Z, ρ, E, h⟩ := h
  refine ⟨Z, ρ, E, ?_⟩
  refine (Ask.bind h).mono fun q _ h => ?_
  intro v H1 p
  refine ⟨Z, q.2, p.er, ?_⟩
  refine (Ask.bind h).mono fun r _ h => ?_
  intro vs H2 p2
  exact h (v :: vs) H2 ⟨p2.er, p.st.trans p2.st, .cons (p.rp.step p2.st) p2.rp⟩
theorem pe_consF {e : Expr} {es : List Expr} {f : FP} {g : FL} (h1 : PE X e (tFP X f)) (h2 : PA X es (tFL X g)) (hs : starEach (e :: es) X.env = (false, eval e X.env) :: starEach es X.env) : PA X (e :: es) (tFL X (consF f g)) :=
  (pa_cons h1 h2 hs).imp fun _ _ _ => cons_wp
/-- two operands, an operation -/
theorem op2_wp {g : D → D → Option S} {fa fb : FP} {σ : Sg} {H : Hp} {Q : VK} (h : tFE X (op2F g fa fb) σ H Q) : tOp (rOp2 X.w X.K g) (tFP X fa) (tFP X fb) σ H Q := by
  obtain ⟨Z, ρ, E, h⟩ := h
  refine ⟨Z, ρ, E, ?_⟩
  refine (Ask.bind h).mono fun q _ h => ?_
  intro v H1 p
  refine ⟨Z, q.2, p.er, ?_⟩
  refine (Ask.bind h).mono fun r _ h => ?_
  obtain ⟨d, hd, h⟩ := (Ask.bind h).of
  obtain ⟨e, he, h⟩ := (Ask.bind h).of
  obtain ⟨s, hs, h⟩ := (Ask.bind h).of
  obtain ⟨ho, h⟩ := h.ite
  intro u H2 p2
  exact ⟨YY Z r.2 σ, d, e, s, p2.er.yd, (p.rp.step p2.st).get p2.er hd, p2.rp.get p2.er he, hs, Res.post p2.er (p.st.trans p2.st) ho h⟩
theorem pe_op2 {o : Operator} {a b : Expr} {fa fb : FP} {pos : Pos} (ha : PE X a (tFP X fa)) (hb : PE X b (tFP X fb)) : PE X (.BinOp a o b pos) (tFE X (op2F (opD o) fa fb)) :=
  (pe_op (op_D o) ha hb).imp fun _ _ _ => op2_wp
theorem pe_cmp2 (hu : X.A.units + 200 < cLine) {o : CmpOp} {a b : Expr} {fa fb : FP} {pos : Pos} (ha : PE X a (tFP X fa)) (hb : PE X b (tFP X fb)) (hm : behindInMarks o b = false) : PE X (.Compare a [o] [b] pos) (tFE X (op2F (cmpD o) fa fb)) :=
  (pe_cmpR (op_cmp hu o) ha hb hm).imp fun _ _ _ => op2_wp
theorem pe_ix2 {a b : Expr} {fa fb : FP} {pos : Pos} (ha : PE X a (tFP X fa)) (hb : PE X b (tFP X fb)) (hs : PlainIx b) : PE X (.Subscript a b pos) (tFE X (op2F ixD fa fb)) :=
  (pe_ix ix_D ha hb hs).imp fun _ _ _ => op2_wp
theorem getAll_pk {ω : World} {K : PySem.W.Frag} {Z : As} {ρ : En} {σ : Sg} {H : Hp} (E : ER ω K Z ρ σ H) : ∀ {vs : List V} {ps : List P} {ds : List D}, Paired (RP K Z ρ σ H) vs ps → getAll ρ ps = some ds → PkAll ω K (YY Z ρ σ) H vs ds
  | _, [], ds, .nil, h => by cases h; exact .nil
  | _, p :: ps, ds, .cons a t, h => by
    obtain ⟨d, hd, h⟩ := Option.bind_eq_some_iff.mp (show (p.get ρ).bind (fun d => (getAll ρ ps).map (d :: ·)) = some ds from h)
    obtain ⟨es, he, rfl⟩ := Option.map_eq_some_iff.mp h
    exact .cons (a.get E hd) (getAll_pk E t he)
/-- operands, a call -/
theorem call_wp {g : List D → Option S} {f : FL} {σ : Sg} {H : Hp} {Q : VK} (h : tFE X (callF g f) σ H Q) : tFL X f σ H fun vs H1 => rB X.w X.K g vs H1 Q := by
  obtain ⟨Z, ρ, E, h⟩ := h
  refine ⟨Z, ρ, E, ?_⟩
  refine (Ask.bind h).mono fun r _ h => ?_
  obtain ⟨ds, hd, h⟩ := (Ask.bind h).of
  obtain ⟨s, hs, h⟩ := (Ask.bind h).of
  obtain ⟨ho, h⟩ := h.ite
  intro u H2 p2
  exact ⟨YY Z r.2 σ, ds, s, p2.er.yd, getAll_pk p2.er p2.rp hd, hs, Res.post p2.er p2.st ho h⟩
theorem PkAll.rp {ω : World} {K : PySem.W.Frag} {Y : As} {H : Hp} : ∀ {vs : List V} {ds : List D}, (∀ v d, Pk ω K Y H v d → Rp K Y H v d) → PkAll ω K Y H vs ds → RpAll K Y H vs ds
  | _, _, _, .nil => .nil
  | _, _, w, .cons a t => .cons (w _ _ a) (PkAll.rp w t)
theorem un_wp {g : D → Option S} {fa : FP} {σ : Sg} {H : Hp} {Q : VK} (h : tFE X (un1F g fa) σ H Q) : tFP X fa σ H fun v H1 => ∃ Y d s, (∀ a, Y a → H1 a ≠ none) ∧ Pk X.w X.K Y H1 v d ∧ g d = some s ∧ Res X.w X.K Y H1 s Q := by
  obtain ⟨Z, ρ, E, h⟩ := h
  refine ⟨Z, ρ, E, ?_⟩
  refine (Ask.bind h).mono fun r _ h => ?_
  obtain ⟨d, hd, h⟩ := (Ask.bind h).of
  obtain ⟨s, hs, h⟩ := (Ask.bind h).of
  obtain ⟨ho, h⟩ := h.ite
  intro u H2 p2
  exact ⟨YY Z r.2 σ, d, s, p2.er.yd, p2.rp.get p2.er hd, hs, Res.post p2.er p2.st ho h⟩
def negD : D → Option S
  | .int i => some (.val (.int (-i)))
  | _ => none
theorem pe_negF {a : Expr} {fa : FP} {pos : Pos} (ha : PE X a (tFP X fa)) : PE X (.UnaryOp .USub a pos) (tFE X (un1F negD fa)) := by
  refine (pe_un un_neg ha).imp fun σ H Q h => ?_
  obtain ⟨Z, ρ, E, h⟩ := un_wp h
  refine ⟨Z, ρ, E, Ask.mono h fun q _ h v H1 p => ?_⟩
  obtain ⟨Y, d, s, yd, pk, g, q⟩ := h v H1 p
  unfold negD at g
  split at g
  · cases g
    cases pk.int_inv
    exact ⟨_, rfl, q.int⟩
  · cases g

/-! ### tests -/
theorem tru_wp {f : FE} {σ : Sg} {H : Hp} {Q : Bool → Hp → Prop} (h : tFB X (truF f) σ H Q) : tFE X f σ H fun v H1 => ∃ k, TruV X.K v H1 k ∧ Q k H1 := by
  obtain ⟨Z, ρ, E, h⟩ := h
  refine ⟨Z, ρ, E, ?_⟩
  refine (Ask.bind h).mono fun q _ h => ?_
  obtain ⟨b, hb, h⟩ := (Ask.bind h).of
  obtain ⟨d, hd, hb⟩ := Option.bind_eq_some_iff.mp hb
  intro v H1 p
  exact ⟨b, tru_of (ω := X.w) (.sh (p.share hd)) hb, h H1 ⟨p.er, p.st⟩⟩
theorem pt_any {e : Expr} {f : FE} (h : PE X e (tFE X f)) (he : ∀ whole, isTrue e X.env whole = (do let v ← whole; standAt e.pos; holding [v] (truthy v))) : PT X e (tFB X (truF f)) :=
  (pt_truth h he).imp fun _ _ _ => tru_wp
theorem pt_cmp2 (hu : X.A.units + 200 < cLine) {o : CmpOp} {a b : Expr} {fa fb : FP} {pos : Pos} (ha : PE X a (tFP X fa)) (hb : PE X b (tFP X fb)) (hm : behindInMarks o b = false) : PT X (.Compare a [o] [b] pos) (tFB X (truF (op2F (cmpD o) fa fb))) := by
  refine (pt_cmpR (op_cmp hu o) ha hb hm).imp fun σ H Q h => ?_
  have h2 := op2_wp (tru_wp h)
  obtain ⟨Z, ρ, E, h2⟩ := h2
  refine ⟨Z, ρ, E, Ask.mono h2 fun q _ h v H1 p => ?_⟩
  obtain ⟨Z', ρ', E', h'⟩ := h v H1 p
  refine ⟨Z', ρ', E', Ask.mono h' fun r _ h u H2 p2 => ?_⟩
  obtain ⟨Y, d, e, s, yd, p3, p4, hs, q⟩ := h u H2 p2
  have hs2 := hs
  unfold cmpD at hs2
  split at hs2
  · cases hs2
  obtain ⟨b, hb, rfl⟩ := Option.map_eq_some_iff.mp hs2
  refine ⟨Y, d, e, _, yd, p3, p4, hs, fun w H3 sm rp => ?_⟩
  obtain ⟨k, hk, q⟩ := q w H3 sm rp
  cases rp
  cases hk
  exact ⟨b, rfl, q⟩
theorem not_wp {f : FB} {σ : Sg} {H : Hp} {Q : Bool → Hp → Prop} (h : tFB X (truF (notF f)) σ H Q) : tNot (tFB X f) σ H Q := by
  obtain ⟨Z, ρ, E, h⟩ := h
  refine ⟨Z, ρ, E, ?_⟩
  refine (Ask.bind (X := X) (Ask.bind h)).mono fun q _ h H1 p => ?_
  exact h H1 p
theorem pt_notF {a : Expr} {f : FB} {pos : Pos} (ha : PT X a (tFB X f)) : PT X (.UnaryOp .Not a pos) (tFB X (truF (notF f))) := (pt_not ha).imp fun _ _ _ => not_wp
theorem pe_notF {a : Expr} {f : FE} {pos : Pos} (ha : PE X a (tFE X f)) : PE X (.UnaryOp .Not a pos) (tFE X (notF (truF f))) := by
  refine (pe_notT ha).imp fun σ H Q h => ?_
  obtain ⟨Z, ρ, E, h⟩ := h
  have h1 : tFB X (truF f) σ H (fun b H1 => Q (.bl (!b)) H1) := by
    refine ⟨Z, ρ, E, (Ask.bind h).mono fun q _ h H1 p => ?_⟩
    exact h _ H1 ⟨p.er, p.st, .bl _⟩
  exact tru_wp h1
theorem pe_ifF {c a b : Expr} {fc : FB} {fa fb : FE} {pos : Pos} (hc : PT X c (tFB X fc)) (ha : PE X a (tFE X fa)) (hb : PE X b (tFE X fb)) : PE X (.IfExp c a b pos) (tFE X (ifF fc fa fb)) := by
  refine (pe_ifExp hc ha hb).imp fun σ H Q h => ?_
  obtain ⟨Z, ρ, E, h⟩ := h
  refine ⟨Z, ρ, E, (Ask.bind h).mono fun q _ h H1 p => ?_⟩
  have key : ∀ f : FE, Ask X (f q.2) (fun q => ∀ v H1, PostE X.w X.K Z ρ σ H q.1 q.2 v H1 → Q v H1) → tFE X f σ H1 Q := fun f h => by
    refine ⟨Z, q.2, p.er, Ask.mono h fun r _ h v H2 p2 => h v H2 ⟨p2.er, p.st.trans p2.st, ?_⟩⟩
    exact RS.back p2.rs p.st
  obtain ⟨b, ρ1⟩ := q
  cases b with
  | true => exact iteT (key fa h)
  | false => exact iteF (key fb h)

/-! ### and, or -/
theorem pe_andF {a b : Expr} {rest : List Expr} {fa fb : FE} {pos : Pos} (ha : PE X a (tFE X fa)) (hb : PE X (.BoolOp .And (b :: rest) pos) (tFE X fb)) : PE X (.BoolOp .And (a :: b :: rest) pos) (tFE X (andF fa fb)) := by
  refine (pe_andT ha hb).imp fun σ H Q h => ?_
  obtain ⟨Z, ρ, E, h⟩ := h
  refine ⟨Z, ρ, E, (Ask.bind h).mono fun q _ h v H1 p => ?_⟩
  obtain ⟨k, hk, h⟩ := (Ask.bind h).of
  obtain ⟨d, hd, hk⟩ := Option.bind_eq_some_iff.mp hk
  refine ⟨k, tru_of (ω := X.w) (.sh (p.share hd)) hk, ?_⟩
  cases k with
  | true => exact iteT ⟨Z, q.2, p.er, Ask.mono h fun r _ h v H2 p2 => h v H2 ⟨p2.er, p.st.trans p2.st, RS.back p2.rs p.st⟩⟩
  | false => exact iteF (h v H1 p)
theorem pe_orF {a b : Expr} {rest : List Expr} {fa fb : FE} {pos : Pos} (ha : PE X a (tFE X fa)) (hb : PE X (.BoolOp .Or (b :: rest) pos) (tFE X fb)) : PE X (.BoolOp .Or (a :: b :: rest) pos) (tFE X (orF fa fb)) := by
  refine (pe_orT ha hb).imp fun σ H Q h => ?_
  obtain ⟨Z, ρ, E, h⟩ := h
  refine ⟨Z, ρ, E, (Ask.bind h).mono fun q _ h v H1 p => ?_⟩
  obtain ⟨k, hk, h⟩ := (Ask.bind h).of
  obtain ⟨d, hd, hk⟩ := Option.bind_eq_some_iff.mp hk
  refine ⟨k, tru_of (ω := X.w) (.sh (p.share hd)) hk, ?_⟩
  cases k with
  | false => exact iteF ⟨Z, q.2, p.er, Ask.mono h fun r _ h v H2 p2 => h v H2 ⟨p2.er, p.st.trans p2.st, RS.back p2.rs p.st⟩⟩
  | true => exact iteT (h v H1 p)
theorem Ask.bind' {α β : Type} {X : Cx} {r : R α} {f : α → R β} {k : β → Prop} (h : Ask X r fun a => Ask X (f a) k) : Ask X (r.bind f) k := by
  cases r with
  | ok a => exact h
  | exc c d => exact h
  | stuck => exact h
theorem Ask.of' {α : Type} {X : Cx} {o : Option α} {k : α → Prop} {a : α} (e : o = some a) (h : k a) : Ask X (R.of o) k := by
  subst e
  exact h
theorem pw_andF {a b : Expr} {rest : List Expr} {fa fb : FE} {pos : Pos} (ha : PT X a (tFB X (truF fa))) (hb : PW X (.BoolOp .And (b :: rest) pos) (tFB X (truF fb))) : PW X (.BoolOp .And (a :: b :: rest) pos) (tFB X (truF (andF fa fb))) := by
  refine ⟨fun wh pins s σ H Q I h => (pw_and ha hb).run wh pins s σ H Q I ?_⟩
  obtain ⟨Z, ρ, E, h⟩ := h
  refine ⟨Z, ρ, E, ?_⟩
  refine Ask.bind' ((Ask.bind (Ask.bind h)).mono fun q _ h => ?_)
  obtain ⟨k, hk, h⟩ := (Ask.bind h).of
  refine Ask.bind' (Ask.of' hk ?_)
  intro H1 p
  cases k with
  | true => exact iteT ⟨Z, q.2, p.er, Ask.bind' (Ask.mono (show Ask X (fb q.2) _ from h) fun r _ h => Ask.bind' ((Ask.bind h).mono fun b _ h H2 p2 => h H2 ⟨p2.er, p.st.trans p2.st⟩))⟩
  | false =>
    obtain ⟨k', hk', h⟩ := (Ask.bind (show Ask X (R.bind (R.of (q.1.shr.bind truD)) fun b => R.ok (b, q.2)) _ from h)).of
    rw [hk] at hk'
    cases hk'
    exact iteF (h H1 p)
theorem pw_orF {a b : Expr} {rest : List Expr} {fa fb : FE} {pos : Pos} (ha : PT X a (tFB X (truF fa))) (hb : PW X (.BoolOp .Or (b :: rest) pos) (tFB X (truF fb))) : PW X (.BoolOp .Or (a :: b :: rest) pos) (tFB X (truF (orF fa fb))) := by
  refine ⟨fun wh pins s σ H Q I h => (pw_or ha hb).run wh pins s σ H Q I ?_⟩
  obtain ⟨Z, ρ, E, h⟩ := h
  refine ⟨Z, ρ, E, ?_⟩
  refine Ask.bind' ((Ask.bind (Ask.bind h)).mono fun q _ h => ?_)
  obtain ⟨k, hk, h⟩ := (Ask.bind h).of
  refine Ask.bind' (Ask.of' hk ?_)
  intro H1 p
  cases k with
  | false => exact iteF ⟨Z, q.2, p.er, Ask.bind' (Ask.mono (show Ask X (fb q.2) _ from h) fun r _ h => Ask.bind' ((Ask.bind h).mono fun b _ h H2 p2 => h H2 ⟨p2.er, p.st.trans p2.st⟩))⟩
  | true =>
    obtain ⟨k', hk', h⟩ := (Ask.bind (show Ask X (R.bind (R.of (q.1.shr.bind truD)) fun b => R.ok (b, q.2)) _ from h)).of
    rw [hk] at hk'
    cases hk'
    exact iteT (h H1 p)

/-! ### displays, built-ins by name, slices, isinstance -/
theorem pk_rp {ω : World} {K : PySem.W.Frag} {Z : As} {ρ : En} {σ : Sg} {H : Hp} (E : ER ω K Z ρ σ H) {v : V} {p : P} {d : D} (r : RP K Z ρ σ H v p) (hp : ∀ i, p ≠ .at i) (g : p.get ρ = some d) : Rp K (YY Z ρ σ) H v d := by
  cases p with
  | «at» i => exact absurd rfl (hp i)
  | dv e => cases g; exact r
/-- operands that are shared data alone -/
def dvs : List P → Option (List D)
  | [] => some []
  | .dv d :: ps => (dvs ps).map (d :: ·)
  | .at _ :: _ => none
theorem dvs_rp {K : PySem.W.Frag} {Z : As} {ρ : En} {σ : Sg} {H : Hp} : ∀ {vs : List V} {ps : List P} {ds : List D}, Paired (RP K Z ρ σ H) vs ps → dvs ps = some ds → RpAll K (YY Z ρ σ) H vs ds
  | _, [], ds, .nil, h => by cases h; exact .nil
  | _, .dv d :: ps, ds, .cons a t, h => by
    obtain ⟨es, he, rfl⟩ := Option.map_eq_some_iff.mp (show (dvs ps).map (d :: ·) = some ds from h)
    exact .cons a (dvs_rp t he)
  | _, .at _ :: ps, ds, _, h => by cases h
def dispF (mk : List D → S) (f : FL) : FE := fun ρ => (f ρ).bind fun q => (R.of (dvs q.1)).bind fun ds => if decide (ds.length ≤ sizeLine) = true then .ok (mk ds, q.2) else .stuck
theorem pe_tupF {es : List Expr} {f : FL} {k : Nat} {pos : Pos} (h : PA X es (tFL X f)) : PE X (.Tuple es k pos) (tFE X (dispF (fun ds => .val (.tuple ds)) f)) := by
  refine (pe_tup h).imp fun σ H Q h => ?_
  obtain ⟨Z, ρ, E, h⟩ := h
  refine ⟨Z, ρ, E, (Ask.bind h).mono fun q _ h vs H1 p => ?_⟩
  obtain ⟨ds, hd, h⟩ := (Ask.bind h).of
  obtain ⟨hz, h⟩ := h.ite
  have ra := dvs_rp p.rp hd
  refine ⟨by rw [ra.length]; exact of_decide_eq_true hz, Res.tup p.er.yd ra (Res.post p.er p.st rfl h)⟩
theorem pe_lstF {es : List Expr} {f : FL} {pos : Pos} (h : PA X es (tFL X f)) : PE X (.List es pos) (tFE X (dispF (fun ds => .own (.list ds)) f)) := by
  refine (pe_lst h).imp fun σ H Q h => ?_
  obtain ⟨Z, ρ, E, h⟩ := h
  refine ⟨Z, ρ, E, (Ask.bind h).mono fun q _ h vs H1 p => ?_⟩
  obtain ⟨ds, hd, h⟩ := (Ask.bind h).of
  obtain ⟨hz, h⟩ := h.ite
  have ra := dvs_rp p.rp hd
  refine ⟨by rw [ra.length]; exact of_decide_eq_true hz, Res.lst ra (Res.post p.er p.st rfl h)⟩
theorem tCB_wp {g : List D → Option S} {f : FL} {σ : Sg} {H : Hp} {Q : VK} (h : tFE X (callF g f) σ H Q) : tCB (rB X.w X.K g) (tFL X f) σ H Q := call_wp h
theorem pe_biF (hc : X.calm = true) (hu : X.A.units + 200 < cLine) (b : Bi) {p pos : Pos} {e : Expr} {es : List Expr} {f : FL} (hg : Gl X b.name) (hm : X.mg b.name = none) (ha : PA X (e :: es) (tFL X f))
    (he : starEach (e :: es) X.env = (false, eval e X.env) :: starEach es X.env) (hpl : (backTo pos (starEach es X.env)).any (·.1) = false) : PE X (.Call (.Name b.name p) (e :: es) [] pos) (tFE X (callF b.run f)) := by
  have hb := b_all_of (X := X) hc hu b
  have bt := b.boot
  have nm := b.name_ok
  cases hf : b.fn with
  | builtin id =>
    rw [hf] at hb bt
    exact (pe_callB hb hg hm bt ha nm.1 nm.2 he hpl).imp fun _ _ _ => tCB_wp
  | type T =>
    rw [hf] at hb bt
    exact (pe_callTy hb hg hm bt ha nm.1 nm.2 he hpl).imp fun _ _ _ => tCB_wp
  | _ => cases b <;> cases hf
/-- a slice's parts -/
inductive Pt where
  | no
  | yes (f : FP)
def optI (ρ : En) : Option P → Option (Option Int)
  | none => some none
  | some p => match p.get ρ with
    | some (.int i) => some (some i)
    | _ => none
def ptF : Option FP → En → R (Option P × En)
  | none, ρ => .ok (none, ρ)
  | some f, ρ => (f ρ).bind fun q => .ok (some q.1, q.2)
def slF (fa : FP) (lo hi : Option FP) : FE := fun ρ => (fa ρ).bind fun p => (ptF lo p.2).bind fun l => (R.of (optI l.2 l.1)).bind fun i => (ptF hi l.2).bind fun h => (R.of (optI h.2 h.1)).bind fun j =>
  (R.of (p.1.get h.2)).bind fun d => (R.of (slD d i j)).bind fun s => if s.out then .ok (s, h.2) else .stuck
/-- a part of a slice means f -/
def tFO (X : Cx) (f : Option FP) : TO := fun σ H Q => ∃ Z ρ, ER X.w X.K Z ρ σ H ∧ Ask X ((ptF f ρ).bind fun q => (R.of (optI q.2 q.1)).bind fun i => .ok (i, q.2)) fun q => ∀ H1, PostT X.w X.K Z ρ σ H q.2 H1 → Q q.1 H1
theorem po_noneF : PO X none (tFO X none) := by
  refine ⟨fun pins s σ H Q I h => po_none.run pins s σ H Q I ?_⟩
  obtain ⟨Z, ρ, E, h⟩ := h
  exact h H ⟨E, Stp.refl⟩
theorem po_someF {e : Expr} {f : FP} (h : PE X e (tFP X f)) : PO X (some e) (tFO X (some f)) := by
  refine ⟨fun pins s σ H Q I h' => (po_some h).run pins s σ H Q I ?_⟩
  obtain ⟨Z, ρ, E, h'⟩ := h'
  refine ⟨Z, ρ, E, (Ask.bind (Ask.bind h')).mono fun q _ h v H1 p => ?_⟩
  obtain ⟨i, hi, h⟩ := (Ask.bind h).of
  have hi : (match q.1.get q.2 with | some (.int i) => some (some i) | _ => none) = some i := hi
  split at hi
  · rename_i k hk
    cases hi
    exact ⟨k, (p.rp.get p.er hk).int_inv, h H1 ⟨p.er, p.st⟩⟩
  · cases hi
theorem pe_slF {e : Expr} {lo hi : Option Expr} {fa : FP} {fl fh : Option FP} {p2 pos : Pos} (ha : PE X e (tFP X fa)) (hl : PO X lo (tFO X fl)) (hh : PO X hi (tFO X fh)) : PE X (.Subscript e (.Slice lo hi none p2) pos) (tFE X (slF fa fl fh)) := by
  refine (pe_slice sl_D ha hl hh).imp fun σ H Q h => ?_
  obtain ⟨Z, ρ, E, h⟩ := h
  refine ⟨Z, ρ, E, (Ask.bind h).mono fun q _ h v H1 p => ?_⟩
  refine ⟨Z, q.2, p.er, ?_⟩
  refine Ask.bind' ((Ask.bind h).mono fun l _ h => ?_)
  obtain ⟨i, hi, h⟩ := (Ask.bind h).of
  refine Ask.bind' (Ask.of' hi ?_)
  intro H2 p2
  refine ⟨Z, l.2, p2.er, ?_⟩
  refine Ask.bind' ((Ask.bind h).mono fun r _ h => ?_)
  obtain ⟨j, hj, h⟩ := (Ask.bind h).of
  refine Ask.bind' (Ask.of' hj ?_)
  intro H3 p3
  obtain ⟨d, hd, h⟩ := (Ask.bind h).of
  obtain ⟨s, hs, h⟩ := (Ask.bind h).of
  obtain ⟨ho, h⟩ := h.ite
  exact ⟨YY Z r.2 σ, d, s, p3.er.yd, ((p.rp.step p2.st).step p3.st).get p3.er hd, hs, Res.post p3.er (p.st.trans (p2.st.trans p3.st)) ho h⟩
def notDict : D → Bool
  | .dict _ => false
  | _ => true
def isaF (T : Ty) (fa : FP) : FE := un1F (fun d => if notDict d then some (.val (.bool (isaD T d))) else none) fa
theorem boot_ty (T : Ty) : bootBuiltins T.nameS = some (.type T.name) := by
  cases T <;> decide +kernel
theorem ty_ok (T : Ty) : T.nameS ≠ "__name__" ∧ (T.nameS == ("__debug__" : Str)) = false := by
  cases T <;> exact ⟨by decide +kernel, by decide +kernel⟩
theorem pe_isaF (T : Ty) {e : Expr} {fa : FP} {p p2 pos : Pos} (ha : PE X e (tFP X fa)) (hg : Gl X "isinstance") (hm : X.mg "isinstance" = none) (hg2 : Gl X T.nameS) (hm2 : X.mg T.nameS = none)
    (hs : starEach [e, .Name T.nameS p2] X.env = (false, eval e X.env) :: starEach [.Name T.nameS p2] X.env) : PE X (.Call (.Name "isinstance" p) [e, .Name T.nameS p2] [] pos) (tFE X (isaF T fa)) := by
  have k2 : PE X (.Name T.nameS p2) (tC (.ty T.name)) := pe_bltn hg2 hm2 (boot_ty T) rfl (ty_ok T).1 (ty_ok T).2
  have a2 := pa_cons k2 pa_nil (by rfl)
  refine (pe_callB call_isi hg hm (by decide +kernel) (pa_cons ha a2 hs) (by decide +kernel) (by decide +kernel) hs (by rfl)).imp fun σ H Q h => ?_
  obtain ⟨Z, ρ, E, h⟩ := un_wp h
  refine ⟨Z, ρ, E, Ask.mono h fun q _ h v H1 p => ?_⟩
  obtain ⟨Y, d, s, yd, pk, g, q⟩ := h v H1 p
  have hn : notDict d = true := by
    cases hh : notDict d with
    | true => rfl
    | false => rw [hh] at g; cases g
  rw [hn] at g
  cases g
  refine ⟨v, .ty T.name, .type (nmD d), .type T.name, isaD T d, rfl, .ty _, tyX_of pk (fun kvs e => by subst e; cases hn), kit_ty (kit_isa T d), q.bl⟩
end
end DL

namespace DL
open PySem PySem.Spec PyProof.Rows L2

/-! ### slots that are set, wiped, brought back -/
def wipeE (ρ : En) : List Nat → En
  | [] => ρ
  | v :: vs => (wipeE ρ vs).set v .un
def backE (ρl ρ : En) : List Nat → En
  | [] => ρl
  | v :: vs => (backE ρl ρ vs).set v (ρ.getD v .un)
theorem wipeE_len (ρ : En) : ∀ vs, (wipeE ρ vs).length = ρ.length
  | [] => rfl
  | v :: vs => by unfold wipeE; rw [List.length_set, wipeE_len ρ vs]
theorem backE_len (ρl ρ : En) : ∀ vs, (backE ρl ρ vs).length = ρl.length
  | [] => rfl
  | v :: vs => by unfold backE; rw [List.length_set, backE_len ρl ρ vs]
theorem wipeE_out (ρ : En) {i : Nat} : ∀ {vs : List Nat}, i ∉ vs → (wipeE ρ vs)[i]? = ρ[i]?
  | [], _ => rfl
  | v :: vs, h => by
    unfold wipeE
    rw [List.getElem?_set_ne (fun e => h (by simp [e])), wipeE_out ρ fun z => h (List.mem_cons_of_mem _ z)]
theorem wipeE_in (ρ : En) {i : Nat} {s : S} : ∀ {vs : List Nat}, i ∈ vs → (wipeE ρ vs)[i]? = some s → s = .un
  | [], h, _ => by simp at h
  | v :: vs, h, e => by
    unfold wipeE at e
    rcases set_get e with ⟨rfl, rfl, _⟩ | ⟨ne, e⟩
    · rfl
    · rcases List.mem_cons.mp h with rfl | h
      · exact absurd rfl ne
      · exact wipeE_in ρ h e
theorem backE_out (ρl ρ : En) {i : Nat} : ∀ {vs : List Nat}, i ∉ vs → (backE ρl ρ vs)[i]? = ρl[i]?
  | [], _ => rfl
  | v :: vs, h => by
    unfold backE
    rw [List.getElem?_set_ne (fun e => h (by simp [e])), backE_out ρl ρ fun z => h (List.mem_cons_of_mem _ z)]
theorem backE_in (ρl ρ : En) (hl : ρl.length = ρ.length) {i : Nat} : ∀ {vs : List Nat}, i ∈ vs → (backE ρl ρ vs)[i]? = ρ[i]?
  | [], h => by simp at h
  | v :: vs, h => by
    unfold backE
    by_cases e : v = i
    · subst e
      by_cases hv : v < ρl.length
      · rw [List.getElem?_set_self (by rw [backE_len]; exact hv), List.getD_eq_getElem?_getD, List.getElem?_eq_getElem (show v < ρ.length by omega)]
        rfl
      · rw [List.getElem?_eq_none (by rw [List.length_set, backE_len]; omega), List.getElem?_eq_none (show ρ.length ≤ v by omega)]
    · rw [List.getElem?_set_ne e]
      exact backE_in ρl ρ hl (by rcases List.mem_cons.mp h with z | z; exact absurd z.symm e; exact z)
theorem wipe_out (σ : Sg) {i : Nat} : ∀ {vs : List Nat}, i ∉ vs → (wipe σ vs)[i]? = σ[i]?
  | [], _ => rfl
  | v :: vs, h => by
    unfold wipe
    rw [List.getElem?_set_ne (fun e => h (by simp [e])), wipe_out σ fun z => h (List.mem_cons_of_mem _ z)]
theorem wipe_set {σ : Sg} {x : Option V} {i : Nat} : ∀ {vs : List Nat}, i ∈ vs → wipe (σ.set i x) vs = wipe σ vs
  | [], h => by simp at h
  | v :: vs, h => by
    by_cases e : i ∈ vs
    · unfold wipe
      rw [wipe_set e]
    · have e1 : i = v := by
        rcases List.mem_cons.mp h with z | z
        · exact z
        · exact absurd z e
      subst e1
      have key : ∀ {us : List Nat}, i ∉ us → wipe (σ.set i x) us = (wipe σ us).set i x := by
        intro us
        induction us with
        | nil => intro _; rfl
        | cons u us ih =>
          intro hu
          unfold wipe
          rw [ih (fun z => hu (List.mem_cons_of_mem _ z)), List.set_comm _ _ (fun z => hu (by simp [z]))]
      unfold wipe
      rw [key e, List.set_set]

section
variable {ω : World} {K : PySem.W.Frag} {Z : As} {ρ ρ1 ρl : En} {σ σ1 : Sg} {H H1 Hc : Hp}
/-- a slot is given shared data (or none) -/
theorem ER.put (E : ER ω K Z ρ σ H) {i : Nat} {v : V} {d : D} (r : Rp K (YY Z ρ σ) H v d) : ER ω K Z (ρ.set i (.val d)) (σ.set i (some v)) H := by
  have sub : ∀ b, OB (ρ.set i (.val d)) (σ.set i (some v)) b → OB ρ σ b := fun b ⟨j, s, d', e1, e2, e3⟩ => by
    rcases set_get e1 with ⟨rfl, rfl, _⟩ | ⟨ne, e1⟩
    · cases e2
    · rw [List.getElem?_set_ne ne] at e3
      exact ⟨j, s, d', e1, e2, e3⟩
  have yy : ∀ b, YY Z (ρ.set i (.val d)) (σ.set i (some v)) b → YY Z ρ σ b := fun b z => z.elim .inl fun z => .inr (sub b z)
  refine ⟨by rw [List.length_set, List.length_set]; exact E.len, E.zd, fun b z q => E.zo b z (sub b q), fun j e q => ?_, fun j s e q1 q2 => ?_, fun j k s t d' e b q1 q2 q3 q4 q5 q6 => ?_⟩
  · rcases set_get q with ⟨rfl, q, hl⟩ | ⟨ne, q⟩
    · cases q
      exact ⟨v, by rw [List.getElem?_set_self (by rw [← E.len]; exact hl)], r.move (fun _ _ e _ => e) (fun b _ z => yy b z) d v⟩
    · obtain ⟨w, w1, w2⟩ := E.val j e q
      exact ⟨w, by rw [List.getElem?_set_ne ne]; exact w1, w2.move (fun _ _ e _ => e) (fun b _ z => yy b z) e w⟩
  · rcases set_get q1 with ⟨rfl, q1, _⟩ | ⟨ne, q1⟩
    · cases q1; cases q2
    · obtain ⟨b, w1, w2⟩ := E.own j s e q1 q2
      exact ⟨b, by rw [List.getElem?_set_ne ne]; exact w1, w2.move (fun _ _ e _ => e) (fun _ e => e) fun b _ z => yy b z⟩
  · rcases set_get q1 with ⟨rfl, q1, _⟩ | ⟨ne, q1⟩
    · cases q1; cases q3
    · rcases set_get q2 with ⟨rfl, q2, _⟩ | ⟨ne2, q2⟩
      · cases q2; cases q4
      · rw [List.getElem?_set_ne ne] at q5
        rw [List.getElem?_set_ne ne2] at q6
        exact E.inj j k s t d' e b q1 q2 q3 q4 q5 q6
theorem Stp.put {i : Nat} {v : V} {d : D} : Stp ρ σ H (ρ.set i (.val d)) (σ.set i (some v)) H :=
  ⟨fun _ _ e _ => e, fun _ e => e, fun j e a q1 q2 => by
    rcases set_get q1 with ⟨rfl, q1, _⟩ | ⟨ne, q1⟩
    · cases q1
    · rw [List.getElem?_set_ne ne] at q2
      exact .inl ⟨⟨e, q1⟩, q2⟩, fun j e q => by
    rcases set_get q with ⟨rfl, q, _⟩ | ⟨ne, q⟩
    · cases q
    · exact ⟨⟨e, q⟩, by rw [List.getElem?_set_ne ne]⟩⟩
/-- a slot is given an object of its own, which was foreign so far -/
theorem ER.putOwn {a : Addr} (E : ER ω K (fun b => Z b ∨ b = a) ρ σ H) (nz : ¬ Z a) {i : Nat} {d : D} (o : OwnAt ω K (YY (fun b => Z b ∨ b = a) ρ σ) H a d) : ER ω K Z (ρ.set i (.own d)) (σ.set i (some (.ref a))) H := by
  have sub : ∀ b, OB (ρ.set i (.own d)) (σ.set i (some (.ref a))) b → OB ρ σ b ∨ b = a := fun b ⟨j, s, d', e1, e2, e3⟩ => by
    rcases set_get e1 with ⟨rfl, rfl, hl⟩ | ⟨ne, e1⟩
    · rw [List.getElem?_set_self (by rw [← E.len]; exact hl)] at e3
      cases e3
      exact .inr rfl
    · rw [List.getElem?_set_ne ne] at e3
      exact .inl ⟨j, s, d', e1, e2, e3⟩
  have yy : ∀ b, YY Z (ρ.set i (.own d)) (σ.set i (some (.ref a))) b → YY (fun b => Z b ∨ b = a) ρ σ b := fun b z => by
    rcases z with z | z
    · exact .inl (.inl z)
    · rcases sub b z with z | z
      · exact .inr z
      · exact .inl (.inr z)
  refine ⟨by rw [List.length_set, List.length_set]; exact E.len, fun b z => E.zd b (.inl z), fun b z q => ?_, fun j e q => ?_, fun j s e q1 q2 => ?_, fun j k s t d' e b q1 q2 q3 q4 q5 q6 => ?_⟩
  · rcases sub b q with q | rfl
    · exact E.zo b (.inl z) q
    · exact nz z
  · rcases set_get q with ⟨rfl, q, hl⟩ | ⟨ne, q⟩
    · cases q
    · obtain ⟨w, w1, w2⟩ := E.val j e q
      exact ⟨w, by rw [List.getElem?_set_ne ne]; exact w1, w2.move (fun _ _ e _ => e) (fun b _ z => yy b z) e w⟩
  · rcases set_get q1 with ⟨rfl, q1, hl⟩ | ⟨ne, q1⟩
    · cases q1
      cases q2
      refine ⟨a, by rw [List.getElem?_set_self (by rw [← E.len]; exact hl)], ?_⟩
      exact o.move (fun _ _ e _ => e) (fun _ e => e) fun b _ z => yy b z
    · obtain ⟨b, w1, w2⟩ := E.own j s e q1 q2
      exact ⟨b, by rw [List.getElem?_set_ne ne]; exact w1, w2.move (fun _ _ e _ => e) (fun _ e => e) fun b _ z => yy b z⟩
  · rcases set_get q1 with ⟨rfl, q1, hl⟩ | ⟨ne, q1⟩
    · rcases set_get q2 with ⟨rfl, q2, _⟩ | ⟨ne2, q2⟩
      · rfl
      · rw [List.getElem?_set_self (by rw [← E.len]; exact hl)] at q5
        rw [List.getElem?_set_ne ne2] at q6
        cases q5
        exact absurd ⟨k, t, e, q2, q4, q6⟩ (E.zo a (.inr rfl))
    · rcases set_get q2 with ⟨rfl, q2, hl⟩ | ⟨ne2, q2⟩
      · rw [List.getElem?_set_self (by rw [← E.len]; exact hl)] at q6
        rw [List.getElem?_set_ne ne] at q5
        cases q6
        exact absurd ⟨j, s, d', q1, q3, q5⟩ (E.zo a (.inr rfl))
      · rw [List.getElem?_set_ne ne] at q5
        rw [List.getElem?_set_ne ne2] at q6
        exact E.inj j k s t d' e b q1 q2 q3 q4 q5 q6
end
end DL
namespace DL
open PySem PySem.Spec PyProof.Rows L2
section
variable {ω : World} {K : PySem.W.Frag} {Z : As} {ρ ρ1 ρl : En} {σ σ1 : Sg} {H H1 Hc : Hp}
theorem Stp.putOwn {a : Addr} {i : Nat} {d : D} (hn : Hc a = none) (t : Stp ρ σ Hc ρ1 σ1 H) : Stp ρ σ Hc (ρ1.set i (.own d)) (σ1.set i (some (.ref a))) H :=
  ⟨t.keep, t.dom, fun j e b q1 q2 => by
    rcases set_get q1 with ⟨rfl, q1, hl⟩ | ⟨ne, q1⟩
    · by_cases hs : i < σ1.length
      · rw [List.getElem?_set_self hs] at q2
        cases q2
        exact .inr hn
      · rw [List.getElem?_eq_none (by rw [List.length_set]; omega)] at q2
        cases q2
    · rw [List.getElem?_set_ne ne] at q2
      exact t.own j e b q1 q2, fun j e q => by
    rcases set_get q with ⟨rfl, q, _⟩ | ⟨ne, q⟩
    · cases q
    · rw [List.getElem?_set_ne ne]
      exact t.bor j e q⟩

/-! ### targets -/
abbrev FT := D → En → R En
abbrev FTs := List D → En → R En
/-- behind a target: the slots ns are written, nothing else -/
structure PostG (ω : World) (K : PySem.W.Frag) (Z : As) (ns : List Nat) (ρ : En) (σ : Sg) (H : Hp) (ρ1 : En) (σ1 : Sg) (H1 : Hp) : Prop where
  er : ER ω K Z ρ1 σ1 H1
  st : Stp ρ σ H ρ1 σ1 H1
  wi : ∀ vs : List Nat, (∀ i ∈ ns, i ∈ vs) → wipe σ1 vs = wipe σ vs
def tFT (X : Cx) (ns : List Nat) (g : FT) : TG := fun v σ H Q => ∃ Z ρ d, ER X.w X.K Z ρ σ H ∧ Rp X.K (YY Z ρ σ) H v d ∧ Ask X (g d ρ) fun ρ1 => ∀ σ1 H1, PostG X.w X.K Z ns ρ σ H ρ1 σ1 H1 → Q σ1 H1
def tFTs (X : Cx) (ns : List Nat) (g : FTs) : TGs := fun vs σ H Q => ∃ Z ρ ds, ER X.w X.K Z ρ σ H ∧ RpAll X.K (YY Z ρ σ) H vs ds ∧ Ask X (g ds ρ) fun ρ1 => ∀ σ1 H1, PostG X.w X.K Z ns ρ σ H ρ1 σ1 H1 → Q σ1 H1
def nameT (i : Nat) : FT := fun d ρ => .ok (ρ.set i (.val d))
def nilT : FTs := fun ds ρ => match ds with
  | [] => .ok ρ
  | _ => .stuck
def consT (g : FT) (h : FTs) : FTs := fun ds ρ => match ds with
  | [] => .stuck
  | d :: r => (g d ρ).bind fun ρ1 => h r ρ1
def tupT (n : Nat) (g : FTs) : FT := fun d ρ => match d with
  | .tuple ds => if decide (ds.length = n) = true then g ds ρ else .stuck
  | _ => .stuck
theorem _root_.L2.PG.imp {X : Cx} {e : Expr} {t u : TG} (h : PG X e t) (w : ∀ v σ H Q, u v σ H Q → t v σ H Q) : PG X e u :=
  ⟨fun pins s σ H v y Q I r q => h.run pins s σ H v y Q I r (w v σ H Q q)⟩
theorem _root_.L2.PGs.imp {X : Cx} {e : List Expr} {t u : TGs} (h : PGs X e t) (w : ∀ v σ H Q, u v σ H Q → t v σ H Q) : PGs X e u :=
  ⟨fun pins s σ H v y Q I r q => h.run pins s σ H v y Q I r (w v σ H Q q)⟩
theorem PostG.mono {ns ms : List Nat} (h : ∀ i ∈ ns, i ∈ ms) (p : PostG ω K Z ns ρ σ H ρ1 σ1 H1) : PostG ω K Z ms ρ σ H ρ1 σ1 H1 :=
  ⟨p.er, p.st, fun vs k => p.wi vs fun i hi => k i (h i hi)⟩
variable {X : Cx}
theorem pg_nameT {i : Nat} {x : Str} {pos : Pos} (hN : X.N.Nodup) (hi : X.N[i]? = some x) (hx : Loc X.env.scope x) (hf : X.fn x = true ∨ X.env.scope.names.lookup x = some .local) : PG X (.Name x pos) (tFT X [i] (nameT i)) :=
  (pg_name hN hi hx hf).imp fun v σ H Q h => by
    obtain ⟨Z, ρ, d, E, r, h⟩ := h
    exact h _ H ⟨E.put r, Stp.put, fun vs k => wipe_set (k i (by simp))⟩
theorem pgs_nilT : PGs X [] (tFTs X [] nilT) := pgs_nil.imp fun v σ H Q h => by
  obtain ⟨Z, ρ, d, E, r, h⟩ := h
  cases r with
  | nil => exact ⟨rfl, h σ H ⟨E, Stp.refl, fun _ _ => rfl⟩⟩
  | cons => exact h.elim
theorem pgs_consT {e : Expr} {es : List Expr} {ns ms : List Nat} {g : FT} {h : FTs} (h1 : PG X e (tFT X ns g)) (h2 : PGs X es (tFTs X ms h)) (hs : (assignEach (e :: es) X.env).map (·.2) = assign e X.env :: (assignEach es X.env).map (·.2)) : PGs X (e :: es) (tFTs X (ns ++ ms) (consT g h)) :=
  (pgs_cons h1 h2 hs).imp fun vs σ H Q q => by
    obtain ⟨Z, ρ, ds, E, r, q⟩ := q
    cases r with
    | nil => exact q.elim
    | @cons v vs d ds rv rr =>
      refine ⟨v, vs, rfl, Z, ρ, d, E, rv, (Ask.bind q).mono fun ρ1 _ q σ1 H1 p => ?_⟩
      refine ⟨Z, ρ1, ds, p.er, p.st.rpAll rr, Ask.mono q fun ρ2 _ q σ2 H2 p2 => q σ2 H2 ⟨p2.er, p.st.trans p2.st, fun us k => ?_⟩⟩
      rw [p2.wi us fun i hi => k i (List.mem_append_right _ hi), p.wi us fun i hi => k i (List.mem_append_left _ hi)]
theorem pg_tupT {es : List Expr} {k : Nat} {pos : Pos} {n : Nat} {ns : List Nat} {g : FTs} (hc : X.calm = true) (h : PGs X es (tFTs X ns g)) (hn : (assignEach es X.env).length = n) (hst : (assignEach es X.env).findIdx? (·.1) = none) : PG X (.Tuple es k pos) (tFT X ns (tupT n g)) :=
  (pg_tup hc h hn hst).imp fun v σ H Q q => by
    obtain ⟨Z, ρ, d, E, r, q⟩ := q
    unfold tupT at q
    split at q
    · split at q
      · rename_i hl
        obtain ⟨a, xs, rfl, hq, al⟩ := r.tuple_inv
        exact ⟨a, xs, rfl, hq, by rw [al.length]; exact of_decide_eq_true hl, Z, ρ, _, E, al, q⟩
      · exact q.elim
    · exact q.elim
end
end DL

namespace PySem
theorem DLmeets_enum {v : Value} {o : Obj} {H : Heap → Prop} (B : Begins v o H) :
    Meets (Builtin.«enumerate.__new__» ⟨[.type "enumerate", v], []⟩) (fun _ R s => H s.heap ∧
      R (.ok (.ret (.ref (s.heap.push o).objs.size))) { s with heap := (s.heap.push o).push { cls := .type "enumerate", data := .fields #[.none, .bool false, .ref s.heap.objs.size, rawInt 0, .none, .none] } }) :=
  .of_wp fun prog w A R s h => by
    obtain ⟨hp, g, d, tk, os⟩ := s; obtain ⟨h1, h⟩ := h
    have hsub := sub_enumerate
    have q1 : ∀ {A' : Around} {E : Value → Shared → Prop} {Q : Value → Shared → Prop}, Q (.ref hp.objs.size) ⟨hp.push o, g, d, tk, os⟩ → wpAny (model prog w) A' (pyIter v) Q E ⟨hp, g, d, tk, os⟩ :=
      fun q => B.iter prog w _ _ ⟨hp, g, d, tk, os⟩ _ h1 q
    wp_walk using q1
    refine wpAny_stack_any fun st => wpAny_pure ?_
    split
    · rename_i c _ _ _ _ _
      cases (c == Value.type "enumerate")
      · wp_walk using q1
        exact ⟨_, rfl, h⟩
      · wp_walk using q1
        exact ⟨_, rfl, h⟩
    · wp_walk using q1
      exact ⟨_, rfl, h⟩
section
variable {prog : Program} {w : World} {A : Around} {E : Value → Shared → Prop} {s : Shared}
theorem DLcall_enum {v : Value} {o : Obj} {H : Heap → Prop} {Q : Value → Shared → Prop} (B : Begins v o H) (h1 : H s.heap)
    (h : ∀ h', IsEnum h' (s.heap.objs.size + 1) s.heap.objs.size 0 .none → h'.get? s.heap.objs.size = some o → h'.objs.size = s.heap.objs.size + 2 →
      (∀ b o, s.heap.get? b = some o → h'.get? b = some o) → Q (.ref (s.heap.objs.size + 1)) { s with heap := h' }) :
    wpAny (model prog w) A (call (.type "enumerate") [v]) Q E s := by
  refine callType_new F.called_enumerate (by decide) (F.typeCall_enumerate_1 _) (F.newCall_enumerate_1 _) (fun obj => F.args_object_init_2 obj _) F.entry_enumerate_new
    (DLmeets_enum B) ⟨h1, ?_⟩
  have hz : (s.heap.push o).objs.size = s.heap.objs.size + 1 := Heap.size_push ..
  show _ ∧ _
  rw [hz]
  have he : IsEnum ((s.heap.push o).push { cls := .type "enumerate", data := .fields #[.none, .bool false, .ref s.heap.objs.size, rawInt 0, .none, .none] }) (s.heap.objs.size + 1) s.heap.objs.size 0 .none := by
    have := Heap.get?_push_size (s.heap.push o) (o := { cls := .type "enumerate", data := .fields #[.none, .bool false, .ref s.heap.objs.size, rawInt 0, .none, .none] }) rfl
    rw [hz] at this; exact this
  refine ⟨⟨_, he, rfl⟩, h _ he (Heap.get?_push_of_some _ (Heap.get?_push_size _ B.free)) (by rw [Heap.size_push, hz]) fun b o x => Heap.get?_push_of_some _ (Heap.get?_push_of_some _ x)⟩
end
end PySem
namespace DL
open PySem PySem.Spec PyProof.Rows L2

/-! ### enumerate(tuple) -/
def IteT (K : PySem.W.Frag) (a : Addr) : It :=
  ⟨fun i H => ∃ (xs : List V) (x : V), SqT K H a xs ∧ xs[i]? = some x, fun i H v H' => ∃ T x, v = .ref T ∧ H T = none ∧ H' = upd H T (.tup [.int (i : Nat), x]) ∧ ∀ xs, SqT K H a xs → xs[i]? = some x, fun i H => ∃ xs : List V, SqT K H a xs ∧ xs.length ≤ i⟩
theorem turn_enumT {P : Program} {w : World} {K : PySem.W.Frag} {elts : List Expr} {kk : Nat} {tpos : Pos} (a e it : Addr) :
    Turn P w K (.Tuple elts kk tpos) (IteT K a) [e, it] e (fun i h => (∃ old, IsEnum h e it ((i : Nat) : Int) old) ∧ h.IsTupleIter it a i ∧ e ≠ it) where
  mem := by simp
  obj := fun i h st b hb => by
    obtain ⟨⟨old, he⟩, ⟨o, ho, hc, hd⟩, _⟩ := st
    have e' : b = e ∨ b = it := by simpa using hb
    rcases e' with z | z
    · rw [z]; exact ⟨_, he, fun v q => nomatch q⟩
    · rw [z]; exact ⟨o, ho, fun v q => by rw [hd] at q; cases q⟩
  keep := fun i h h' st k => let ⟨⟨old, he⟩, hi, hne⟩ := st; ⟨⟨old, k e (by simp) _ he⟩, hi.at fun o q => k it (by simp) o q, hne⟩
  item := by
    intro X hP hw hK hc i pins s σ H E I hf st hg
    subst hP hw hK
    obtain ⟨⟨old, he⟩, hit, hne⟩ := st
    obtain ⟨xs, x, hq, hx⟩ := hg
    obtain ⟨its, rv, p, hz⟩ := I.tuple hq
    obtain ⟨u, hu, ru⟩ := rv.get hx
    have hel : e < s.heap.objs.size := Heap.lt_size he
    have hil : it < s.heap.objs.size := by obtain ⟨_, q, _⟩ := hit; exact Heap.lt_size q
    have pT : s.heap.IsTuple a its.toArray := p
    have nai : a ≠ it := fun z => by
      obtain ⟨o1, e1, c1, _⟩ := hit
      obtain ⟨o2, e2, c2, _⟩ := pT
      rw [z, e1] at e2
      cases e2
      rw [c1] at c2
      exact absurd c2 (by decide)
    have nae : e ≠ a := fun z => by
      obtain ⟨o2, e2, c2, _⟩ := pT
      rw [← z, he] at e2
      cases e2
      have c3 : (Value.type "enumerate") = Value.type "tuple" := c2
      exact absurd c3 (by decide)
    have hlt : i < its.toArray.size := by
      have := (List.getElem?_eq_some_iff.mp hu).1
      simpa using this
    refine wpAny_pyNext_enum_itemD (Draws.tuple (prog := X.prog) (w := X.w) (A := X.A.in1) (I.ok.hd hc) it a nai its.toArray) he ⟨hit, pT⟩ hlt hne (by simp [hne, nae]) fun y h' tk hy ho hit' hT hsz hk => ?_
    have ey : y = u := by
      have hu' : its.toArray[i]? = some u := by simpa using hu
      rw [hy] at hu'
      exact Option.some.inj hu'
    subst ey
    refine ⟨_, rfl, wpAny_letOwnedTupleGo_enum (s := { s with heap := h', toks := tk + 1 }) ho fun h'' he' sb => ?_⟩
    have hT2 : h''.get? s.heap.objs.size = some { cls := .type "tuple", data := .seq #[.int i tk, y] } := (sb.2 _ (Nat.ne_of_gt hel)).trans hT
    have new : ObjOk X.prog X.w (upd H s.heap.objs.size (.tup [.int (i : Nat), x])) h'' s.heap.objs.size (.tup [.int (i : Nat), x]) :=
      ⟨by show 2 ≤ sizeLine; decide, [.int i tk, y], .cons ⟨_, rfl⟩ (.cons ru .nil), ⟨_, hT2, rfl, _, rfl⟩⟩
    have I1 : Inv X pins σ (upd H s.heap.objs.size (.tup [.int (i : Nat), x])) { s with heap := h'', toks := tk + 1 } :=
      I.turnedNew (ch := [e, it]) (fun b ob hb q => (sb.2 b (fun z => hb (by simp [z]))).trans (hk b ob (fun z => hb (by simp [z])) (fun z => hb (by simp [z])) q)) hf (Nat.le_refl _) new
    refine ⟨.ref s.heap.objs.size, _, I1, rfl, ⟨_, x, rfl, I.hok.fresh (Nat.le_refl _), rfl, fun ys hy => by rw [I.tuple_inj hy hq]; exact hx⟩, ⟨⟨y, ?_⟩, hit'.1.at fun o q => (sb.2 it (Ne.symm hne)).trans q, hne⟩, fun b hb => ?_⟩
    · have e1 : ((i + 1 : Nat) : Int) = (i : Int) + 1 := by omega
      rw [e1]; exact he'
    · have hb' : b < s.heap.objs.size := by
        have e' : b = e ∨ b = it := by simpa using hb
        rcases e' with z | z
        · rw [z]; exact hel
        · rw [z]; exact hil
      rw [upd_ne (Nat.ne_of_lt hb')]
      exact (hf b hb).1
  done := by
    intro X hP hw hK hc i pins s σ H E I hf st hg
    subst hP hw hK
    obtain ⟨⟨old, he⟩, hit, hne⟩ := st
    obtain ⟨xs, hq, hx⟩ := hg
    obtain ⟨its, rv, p, hz⟩ := I.tuple hq
    obtain ⟨f0, f1, f2, f3, f4, f5⟩ := hf it (by simp)
    have hl := rv.length
    have pT : s.heap.IsTuple a its.toArray := p
    have hT : s.TypeIs (.ref e) "enumerate" := ⟨_, he, rfl⟩
    unfold pyNext
    refine wpAny_bind (wpAny_attempt (wpAny_callSpecial?_slot (name := Str.ofString "__next__") hT F.slot_enumerate_next
      (wpAny_call_entry F.slot_enumerate_next hT F.entry_enumerate_next ?_ (F.args_enumerate_next_1 _))))
    show wpAny _ _ (field (.ref e) 2 >>= _) _ _ _
    refine wpAny_bind (wpAny_field he rfl (x := .ref it) rfl ?_)
    refine wpAny_bind (wpAny_nextOf_tuple_end (A := X.A.in1) (I.ok.hd hc) hit pT (by simp; omega) fun h' x he' hx' => ?_)
    obtain ⟨o, ho, hc⟩ := hx'
    refine wpAny_bind (wpAny_isInstance (T := "StopIteration") (b := true) ⟨o, ho, hc⟩ isSubtype_stop ?_)
    exact wpAny_pure ⟨rfl, I.turned (t' := s.toks) (fun b o hb q => he' b o hb q) f0 f1 f3 f4 f5⟩
  self := fun A i s Q E st h => let ⟨⟨_, he⟩, _⟩ := st; wpAny_pyIter_enum he h
def iEnumA (K : PySem.W.Frag) (ta : TA) : TI := fun σ H R => ta σ H fun vs H1 => ∃ a xs, vs = [.ref a] ∧ ((SqL K H1 a xs ∧ (xs.length ≤ sizeLine → R (Ite K a) H1)) ∨ (SqT K H1 a xs ∧ (xs.length ≤ sizeLine → R (IteT K a) H1)))
theorem pi_enumA {X : Cx} {e : Expr} {ta : TA} {p pos tpos : Pos} {elts : List Expr} {kk : Nat} (hg : Gl X "enumerate") (hm : X.mg "enumerate" = none) (ha : PA X [e] ta) (hs : starEach [e] X.env = [(false, eval e X.env)]) :
    PI X (.Tuple elts kk tpos) (.Call (.Name "enumerate" p) [e] [] pos) (iEnumA X.K ta) := by
  refine ⟨fun pins s σ H R I h => ?_⟩
  refine Call_ (ld_blt I hg hm boot_enumerate (PyProof.Rows.callWith_type1 (thn (ha.run pos pins s σ H _ I h) fun us s1 ⟨vs, H1, I1, r1, q1⟩ => ?_) hs rfl))
  obtain ⟨a, xs, ex, q⟩ := q1
  subst ex
  cases r1 with
  | cons r rr =>
    cases rr
    cases r
    have fp : ∀ b ∈ [s1.heap.objs.size + 1, s1.heap.objs.size], FpOk X pins H1 b := fun b hb => by
      have e' : b = s1.heap.objs.size + 1 ∨ b = s1.heap.objs.size := by simpa using hb
      have hle : s1.heap.objs.size ≤ b := by
        rcases e' with z | z
        · rw [z]; exact Nat.le_add_right _ _
        · rw [z]; exact Nat.le_refl _
      exact I1.fpOk hle (I1.hok.fresh hle)
    rcases q with ⟨hq, q⟩ | ⟨hq, q⟩
    · obtain ⟨its, rv, p', hz⟩ := I1.list hq
      refine call_enumerate_list p'.isList fun h' he hit hsz hk => wpAny_pyIter_enum he ?_
      have I2 : Inv X pins σ H1 { s1 with heap := h' } := I1.kept (t' := s1.toks) hk
      exact ⟨s1.heap.objs.size + 1, [s1.heap.objs.size + 1, s1.heap.objs.size], _, _, H1, rfl, I2, turn_enum a (s1.heap.objs.size + 1) s1.heap.objs.size, ⟨⟨.none, he⟩, hit, Nat.succ_ne_self _⟩, fp, q hz⟩
    · obtain ⟨its, rv, p', hz⟩ := I1.tuple hq
      refine DLcall_enum (begins_tuple a its.toArray) (show s1.heap.IsTuple a its.toArray from p') fun h' he hit hsz hk => wpAny_pyIter_enum he ?_
      have I2 : Inv X pins σ H1 { s1 with heap := h' } := I1.kept (t' := s1.toks) hk
      exact ⟨s1.heap.objs.size + 1, [s1.heap.objs.size + 1, s1.heap.objs.size], _, _, H1, rfl, I2, turn_enumT a (s1.heap.objs.size + 1) s1.heap.objs.size, ⟨⟨.none, he⟩, ⟨_, hit, rfl, rfl⟩, Nat.succ_ne_self _⟩, fp, q hz⟩

/-! ### a list or a tuple, walked -/
def iSeqA (K : PySem.W.Frag) (tl : TE) : TI := fun σ H R => tl σ H fun v H1 => ∃ a xs, v = .ref a ∧ ((SqL K H1 a xs ∧ (xs.length ≤ sizeLine → R (Itl K a) H1)) ∨ (SqT K H1 a xs ∧ (xs.length ≤ sizeLine → R (Itt K a) H1)))
theorem pi_seqA {X : Cx} {tg l : Expr} {tl : TE} (hl : PE X l tl) : PI X tg l (iSeqA X.K tl) := by
  refine ⟨fun pins s σ H R I h => ?_⟩
  refine thn (hl.run pins s σ H _ I h) fun v s1 ⟨x, H1, I1, r1, q1⟩ => ?_
  obtain ⟨a, xs, e, q⟩ := q1
  subst e
  cases r1
  have fp : ∀ b ∈ [s1.heap.objs.size], FpOk X pins H1 b := fun b hb => by
    have e : b = s1.heap.objs.size := by simpa using hb
    subst e
    exact I1.fpOk (Nat.le_refl _) (I1.hok.fresh (Nat.le_refl _))
  rcases q with ⟨hq, q⟩ | ⟨hq, q⟩
  · obtain ⟨its, rv, p, hz⟩ := I1.list hq
    refine wpAny_pyIter_list p.isList ?_
    exact ⟨s1.heap.objs.size, [s1.heap.objs.size], _, _, H1, rfl, I1.kept (t' := s1.toks) fun b o e => Heap.get?_push_of_some _ e, turn_list a _, ⟨_, Heap.get?_push_size _ rfl, rfl, rfl⟩, fp, q hz⟩
  · obtain ⟨its, rv, p, hz⟩ := I1.tuple hq
    refine wpAny_pyIter_tuple (show s1.heap.IsTuple a its.toArray from p) ?_
    exact ⟨s1.heap.objs.size, [s1.heap.objs.size], _, _, H1, rfl, I1.kept (t' := s1.toks) fun b o e => Heap.get?_push_of_some _ e, turn_tuple a _, ⟨_, Heap.get?_push_size _ rfl, rfl, rfl⟩, fp, q hz⟩
def iZipB (K : PySem.W.Frag) (ta : TA) : TI := fun σ H R => ta σ H fun vs H1 => ∃ a b xs ys, vs = [.ref a, .ref b] ∧ ((SqL K H1 a xs ∧ SqL K H1 b ys ∧ (xs.length ≤ sizeLine → R (Itz K a b) H1)) ∨ (SqT K H1 a xs ∧ SqT K H1 b ys ∧ (xs.length ≤ sizeLine → R (RZ.ItzT K a b) H1)))
theorem pi_zipB {X : Cx} {e e2 : Expr} {ta : TA} {p pos tpos : Pos} {elts : List Expr} {kk : Nat} (hg : Gl X "zip") (hm : X.mg "zip" = none) (ha : PA X [e, e2] ta)
    (hs : starEach [e, e2] X.env = (false, eval e X.env) :: starEach [e2] X.env) (hpl : (backTo pos (starEach [e2] X.env)).any (·.1) = false) :
    PI X (.Tuple elts kk tpos) (.Call (.Name "zip" p) [e, e2] [] pos) (iZipB X.K ta) := by
  have ha' : PA X [e, e2] (fun σ H Q => ∃ Q0, ta σ H Q0 ∧ ∀ vs H1, Q0 vs H1 → (∀ a xs, SqL X.K H1 a xs → xs.length ≤ sizeLine) → (∀ a xs, SqT X.K H1 a xs → xs.length ≤ sizeLine) → Q vs H1) := by
    refine ⟨fun pos pins s σ H Q I h => ?_⟩
    obtain ⟨Q0, h, w⟩ := h
    refine thn (ha.run pos pins s σ H _ I h) fun us s1 ⟨vs, H1, I1, r, q⟩ => ⟨vs, H1, I1, r, w vs H1 q (fun a xs hq => ?_) fun a xs hq => ?_⟩
    · obtain ⟨_, _, _, hz⟩ := I1.list hq; exact hz
    · obtain ⟨_, _, _, hz⟩ := I1.tuple hq; exact hz
  refine ⟨fun pins s σ H R I h => (RZ.pi_zipA (tpos := tpos) (elts := elts) (kk := kk) hg hm ha' hs hpl).run pins s σ H R I ⟨_, h, fun vs H1 q w1 w2 => ?_⟩⟩
  obtain ⟨a, b, xs, ys, e, q⟩ := q
  rcases q with ⟨h1, h2, q⟩ | ⟨h1, h2, q⟩
  · exact ⟨a, b, xs, ys, e, .inl ⟨h1, h2, q (w1 _ _ h1)⟩⟩
  · exact ⟨a, b, xs, ys, e, .inr ⟨h1, h2, q (w2 _ _ h1)⟩⟩

/-! ### what is walked, by its items -/
/-- all that was there, but for what may be written, is there still -/
structure Mv (Y : As) (H : Hp) (Y2 : As) (H2 : Hp) : Prop where
  kp : ∀ a o, H a = some o → ¬ Y a → H2 a = some o
  yy : ∀ a, H a ≠ none → Y2 a → Y a
  yd : ∀ a, Y2 a → H2 a ≠ none
def ItOk (K : PySem.W.Frag) (Y : As) (H : Hp) (J : It) (ds : List D) : Prop := ∀ (i : Nat) (Y2 : As) (H2 : Hp), Mv Y H Y2 H2 →
  (i < ds.length → J.go i H2 ∧ ∀ x H3, J.yld i H2 x H3 → Same H2 H3 ∧ ∃ d, ds[i]? = some d ∧ Rp K Y2 H3 x d) ∧ (i = ds.length → J.stop i H2)
abbrev FI := En → R (List D × En)
def tFI (X : Cx) (f : FI) : TI := fun σ H R => ∃ Z ρ, ER X.w X.K Z ρ σ H ∧ Ask X (f ρ) fun q => ∀ J H1, ER X.w X.K Z q.2 σ H1 → Stp ρ σ H q.2 σ H1 → ItOk X.K (YY Z q.2 σ) H1 J q.1 → q.1.length ≤ sizeLine → R J H1
theorem _root_.L2.PI.imp {X : Cx} {tg e : Expr} {t u : TI} (h : PI X tg e t) (w : ∀ σ H Q, u σ H Q → t σ H Q) : PI X tg e u :=
  ⟨fun pins s σ H Q I q => h.run pins s σ H Q I (w σ H Q q)⟩
section
variable {ω : World} {K : PySem.W.Frag} {Y Y2 : As} {H H2 : Hp}
theorem Mv.sqL (m : Mv Y H Y2 H2) {a : Addr} {ds : List D} (h : Rp K Y H (.ref a) (.list ds)) : ∃ xs, SqL K H a xs ∧ SqL K H2 a xs ∧ RpAll K Y2 H2 xs ds ∧ xs.length = ds.length := by
  cases h with
  | lst r ny al =>
    refine ⟨_, .inl r, .inl ?_, al.move m.kp m.yy ds _, al.length⟩
    rcases r with r | ⟨o, r⟩
    · exact .inl (m.kp _ _ r ny)
    · exact .inr ⟨o, m.kp _ _ r ny⟩
  | lstK k al => exact ⟨_, .inr k, .inr k, al.move m.kp m.yy ds _, al.length⟩
theorem Mv.sqT (m : Mv Y H Y2 H2) {a : Addr} {ds : List D} (h : Rp K Y H (.ref a) (.tuple ds)) : ∃ xs, SqT K H a xs ∧ SqT K H2 a xs ∧ RpAll K Y2 H2 xs ds ∧ xs.length = ds.length := by
  cases h with
  | tup r ny al =>
    refine ⟨_, .inl r, .inl ?_, al.move m.kp m.yy ds _, al.length⟩
    rcases r with r | ⟨o, r⟩
    · exact .inl (m.kp _ _ r ny)
    · exact .inr ⟨o, m.kp _ _ r ny⟩
  | tupK k al => exact ⟨_, .inr k, .inr k, al.move m.kp m.yy ds _, al.length⟩
theorem itok_list {a : Addr} {ds : List D} (h : Rp K Y H (.ref a) (.list ds)) : ItOk K Y H (Itl K a) ds := fun i Y2 H2 m => by
  obtain ⟨xs, _, q, al, hl⟩ := m.sqL h
  refine ⟨fun hi => ⟨⟨xs, xs[i]'(by omega), q, by simp [show i < xs.length by omega]⟩, fun x H3 y => ?_⟩, fun hi => ⟨xs, q, by omega⟩⟩
  obtain ⟨rfl, y⟩ := y
  obtain ⟨d, e1, e2⟩ := al.getV (y xs q)
  exact ⟨Same.refl _, d, e1, e2⟩
theorem itok_tup {a : Addr} {ds : List D} (h : Rp K Y H (.ref a) (.tuple ds)) : ItOk K Y H (Itt K a) ds := fun i Y2 H2 m => by
  obtain ⟨xs, _, q, al, hl⟩ := m.sqT h
  refine ⟨fun hi => ⟨⟨xs, xs[i]'(by omega), q, by simp [show i < xs.length by omega]⟩, fun x H3 y => ?_⟩, fun hi => ⟨xs, q, by omega⟩⟩
  obtain ⟨rfl, y⟩ := y
  obtain ⟨d, e1, e2⟩ := al.getV (y xs q)
  exact ⟨Same.refl _, d, e1, e2⟩
def numb : Nat → List D → List D
  | _, [] => []
  | n, d :: ds => .tuple [.int (n : Nat), d] :: numb (n + 1) ds
theorem numb_len : ∀ (n : Nat) (ds : List D), (numb n ds).length = ds.length
  | _, [] => rfl
  | n, d :: ds => by rw [numb, List.length_cons, List.length_cons, numb_len]
theorem numb_get : ∀ (n : Nat) (ds : List D) (i : Nat) (d : D), ds[i]? = some d → (numb n ds)[i]? = some (.tuple [.int ((n + i : Nat)), d])
  | _, [], i, d, h => by simp at h
  | n, e :: ds, 0, d, h => by simp at h; subst h; simp [numb]
  | n, e :: ds, i + 1, d, h => by
    have := numb_get (n + 1) ds i d (by simpa using h)
    rw [numb, List.getElem?_cons_succ, this]
    simp only [Option.some.injEq, PyData.tuple.injEq, List.cons.injEq, PyData.int.injEq, and_true]
    omega
/-- a pair just made -/
theorem pair_rp {T : Addr} {v u : V} {d e : D} (m : ∀ a, Y2 a → H2 a ≠ none) (hT : H2 T = none) (rv : Rp K Y2 H2 v d) (ru : Rp K Y2 H2 u e) : Same H2 (upd H2 T (.tup [v, u])) ∧ Rp K Y2 (upd H2 T (.tup [v, u])) (.ref T) (.tuple [d, e]) :=
  ⟨same_upd hT, .tup (.inl upd_same) (fun z => m T z hT) (.cons (Same.rp (same_upd hT) rv) (.cons (Same.rp (same_upd hT) ru) .nil))⟩
theorem itok_enumL {a : Addr} {ds : List D} (h : Rp K Y H (.ref a) (.list ds)) : ItOk K Y H (Ite K a) (numb 0 ds) := fun i Y2 H2 m => by
  obtain ⟨xs, _, q, al, hl⟩ := m.sqL h
  rw [numb_len]
  refine ⟨fun hi => ⟨⟨xs, xs[i]'(by omega), q, by simp [show i < xs.length by omega]⟩, fun x H3 y => ?_⟩, fun hi => ⟨xs, q, by omega⟩⟩
  obtain ⟨T, u, rfl, hT, rfl, y⟩ := y
  obtain ⟨d, e1, e2⟩ := al.getV (y xs q)
  obtain ⟨p1, p2⟩ := pair_rp m.yd hT (.int (i : Nat)) e2
  exact ⟨p1, _, by rw [numb_get 0 ds i d e1, Nat.zero_add], p2⟩
theorem itok_enumT {a : Addr} {ds : List D} (h : Rp K Y H (.ref a) (.tuple ds)) : ItOk K Y H (IteT K a) (numb 0 ds) := fun i Y2 H2 m => by
  obtain ⟨xs, _, q, al, hl⟩ := m.sqT h
  rw [numb_len]
  refine ⟨fun hi => ⟨⟨xs, xs[i]'(by omega), q, by simp [show i < xs.length by omega]⟩, fun x H3 y => ?_⟩, fun hi => ⟨xs, q, by omega⟩⟩
  obtain ⟨T, u, rfl, hT, rfl, y⟩ := y
  obtain ⟨d, e1, e2⟩ := al.getV (y xs q)
  obtain ⟨p1, p2⟩ := pair_rp m.yd hT (.int (i : Nat)) e2
  exact ⟨p1, _, by rw [numb_get 0 ds i d e1, Nat.zero_add], p2⟩
def zipD (xs ys : List D) : List D := List.zipWith (fun d e => .tuple [d, e]) xs ys
theorem zipD_get {xs ys : List D} {i : Nat} {d e : D} (h1 : xs[i]? = some d) (h2 : ys[i]? = some e) : (zipD xs ys)[i]? = some (.tuple [d, e]) := by
  unfold zipD
  rw [List.getElem?_zipWith, h1, h2]
theorem itok_zipL {a b : Addr} {ds es : List D} (h : Rp K Y H (.ref a) (.list ds)) (h' : Rp K Y H (.ref b) (.list es)) : ItOk K Y H (Itz K a b) (zipD ds es) := fun i Y2 H2 m => by
  obtain ⟨xs, _, q, al, hl⟩ := m.sqL h
  obtain ⟨ys, _, q', al', hl'⟩ := m.sqL h'
  have lz : (zipD ds es).length = min ds.length es.length := List.length_zipWith
  refine ⟨fun hi => ⟨⟨xs, ys, xs[i]'(by omega), ys[i]'(by omega), q, q', by simp [show i < xs.length by omega], by simp [show i < ys.length by omega]⟩, fun x H3 y => ?_⟩, fun hi => ⟨xs, ys, q, q', by omega⟩⟩
  obtain ⟨T, u, w, rfl, hT, rfl, y, y'⟩ := y
  obtain ⟨d, e1, e2⟩ := al.getV (y xs q)
  obtain ⟨d', e1', e2'⟩ := al'.getV (y' ys q')
  obtain ⟨p1, p2⟩ := pair_rp m.yd hT e2 e2'
  exact ⟨p1, _, zipD_get e1 e1', p2⟩
theorem itok_zipT {a b : Addr} {ds es : List D} (h : Rp K Y H (.ref a) (.tuple ds)) (h' : Rp K Y H (.ref b) (.tuple es)) : ItOk K Y H (RZ.ItzT K a b) (zipD ds es) := fun i Y2 H2 m => by
  obtain ⟨xs, _, q, al, hl⟩ := m.sqT h
  obtain ⟨ys, _, q', al', hl'⟩ := m.sqT h'
  have lz : (zipD ds es).length = min ds.length es.length := List.length_zipWith
  refine ⟨fun hi => ⟨⟨xs, ys, xs[i]'(by omega), ys[i]'(by omega), q, q', by simp [show i < xs.length by omega], by simp [show i < ys.length by omega]⟩, fun x H3 y => ?_⟩, fun hi => ⟨xs, ys, q, q', by omega⟩⟩
  obtain ⟨T, u, w, rfl, hT, rfl, y, y'⟩ := y
  obtain ⟨d, e1, e2⟩ := al.getV (y xs q)
  obtain ⟨d', e1', e2'⟩ := al'.getV (y' ys q')
  obtain ⟨p1, p2⟩ := pair_rp m.yd hT e2 e2'
  exact ⟨p1, _, zipD_get e1 e1', p2⟩
def rngD (lo c : Int) (n : Nat) : List D := (List.range n).map fun i => .int (lo + (i : Nat) * c)
theorem rngD_len (lo c : Int) (n : Nat) : (rngD lo c n).length = n := by unfold rngD; simp
theorem itok_rng {lo : Int} {n : Nat} : ItOk K Y H (Itr lo n) (rngD lo 1 n) := fun i Y2 H2 m => by
  rw [rngD_len]
  refine ⟨fun hi => ⟨hi, fun x H3 y => ?_⟩, fun hi => Nat.le_of_eq hi.symm⟩
  obtain ⟨rfl, rfl⟩ := y
  exact ⟨Same.refl _, .int (lo + (i : Nat)), by unfold rngD; simp [hi], .int _⟩
theorem itok_rngC {lo c : Int} {n : Nat} : ItOk K Y H (Itc lo c n) (rngD lo c n) := fun i Y2 H2 m => by
  rw [rngD_len]
  refine ⟨fun hi => ⟨hi, fun x H3 y => ?_⟩, fun hi => Nat.le_of_eq hi.symm⟩
  obtain ⟨rfl, rfl⟩ := y
  exact ⟨Same.refl _, .int (lo + (i : Nat) * c), by unfold rngD; simp [hi], .int _⟩
theorem itok_revL {a : Addr} {ds : List D} {n : Nat} (hn : n = ds.length) (h : Rp K Y H (.ref a) (.list ds)) : ItOk K Y H (Itv K a n) ds.reverse := fun i Y2 H2 m => by
  subst hn
  obtain ⟨xs, _, q, al, hl⟩ := m.sqL h
  rw [List.length_reverse]
  refine ⟨fun hi => ⟨⟨hi, xs, xs[ds.length - 1 - i]'(by omega), q, by simp [show ds.length - 1 - i < xs.length by omega]⟩, fun x H3 y => ?_⟩, fun hi => Nat.le_of_eq hi.symm⟩
  obtain ⟨rfl, y⟩ := y
  obtain ⟨d, e1, e2⟩ := al.getV (y xs q)
  exact ⟨Same.refl _, d, by rw [List.getElem?_reverse hi]; exact e1, e2⟩
theorem itok_revT {a : Addr} {ds : List D} {n : Nat} (hn : n = ds.length) (h : Rp K Y H (.ref a) (.tuple ds)) : ItOk K Y H (RT.ItvT K a n) ds.reverse := fun i Y2 H2 m => by
  subst hn
  obtain ⟨xs, _, q, al, hl⟩ := m.sqT h
  rw [List.length_reverse]
  refine ⟨fun hi => ⟨⟨hi, xs, xs[ds.length - 1 - i]'(by omega), q, by simp [show ds.length - 1 - i < xs.length by omega]⟩, fun x H3 y => ?_⟩, fun hi => Nat.le_of_eq hi.symm⟩
  obtain ⟨rfl, y⟩ := y
  obtain ⟨d, e1, e2⟩ := al.getV (y xs q)
  exact ⟨Same.refl _, d, by rw [List.getElem?_reverse hi]; exact e1, e2⟩
end
end DL
namespace DL
open PySem PySem.Spec PyProof.Rows L2
/-! ### the meanings of what is walked -/
def seqI (f : FE) : FI := fun ρ => (f ρ).bind fun q => (R.of (q.1.shr.bind itemsOf)).bind fun ds => .ok (ds, q.2)
def enumI (f : FE) : FI := fun ρ => (f ρ).bind fun q => (R.of (q.1.shr.bind itemsOf)).bind fun ds => .ok (numb 0 ds, q.2)
def revI (f : FE) : FI := fun ρ => (f ρ).bind fun q => (R.of (q.1.shr.bind itemsOf)).bind fun ds => if decide (ds.length ≤ 1000000) then .ok (ds.reverse, q.2) else .stuck
def zip2D : List D → Option (List D)
  | [.list ds, .list es] => some (zipD ds es)
  | [.tuple ds, .tuple es] => some (zipD ds es)
  | _ => none
def zipI (f : FL) : FI := fun ρ => (f ρ).bind fun q => (R.of ((dvs q.1).bind zip2D)).bind fun ds => .ok (ds, q.2)
def lim62 (i : Int) : Bool := decide (-1000000 ≤ i) && decide (i ≤ 1000000)
def range1D : List D → Option (List D)
  | [.int j] => if lim62 j then some (rngD 0 1 j.toNat) else none
  | _ => none
def range2D : List D → Option (List D)
  | [.int i, .int j] => if lim62 i && lim62 j then some (rngD i 1 (j - i).toNat) else none
  | _ => none
def range3D : List D → Option (List D)
  | [.int i, .int j, .int c] => if lim62 i && lim62 j && decide (c = -1) then some (rngD i (-1) (i - j).toNat) else none
  | _ => none
def rangeI (g : List D → Option (List D)) (f : FL) : FI := fun ρ => (f ρ).bind fun q => (R.of ((getAll q.2 q.1).bind g)).bind fun ds => .ok (ds, q.2)
section
variable {X : Cx} {tg : Expr}
theorem items_cases {d : D} {ds : List D} (h : itemsOf d = some ds) : d = .list ds ∨ d = .tuple ds := by
  cases d <;> simp [itemsOf] at h <;> subst h <;> simp
theorem pi_seqI {l : Expr} {f : FE} (hl : PE X l (tFE X f)) : PI X tg l (tFI X (seqI f)) :=
  (pi_seqA hl).imp fun σ H Q h => by
    obtain ⟨Z, ρ, E, h⟩ := h
    refine ⟨Z, ρ, E, (Ask.bind h).mono fun q _ h v H1 p => ?_⟩
    obtain ⟨ds, hd, h⟩ := (Ask.bind h).of
    obtain ⟨d, hd, hi⟩ := Option.bind_eq_some_iff.mp hd
    have r := p.share hd
    rcases items_cases hi with rfl | rfl
    · obtain ⟨a, xs, rfl, sq, al⟩ := r.list_inv
      exact ⟨a, xs, rfl, .inl ⟨sq, fun z => h _ _ p.er p.st (itok_list r) (by rw [← al.length]; exact z)⟩⟩
    · obtain ⟨a, xs, rfl, sq, al⟩ := r.tuple_inv
      exact ⟨a, xs, rfl, .inr ⟨sq, fun z => h _ _ p.er p.st (itok_tup r) (by rw [← al.length]; exact z)⟩⟩
theorem pi_revI {l : Expr} {f : FE} {p pos : Pos} (hl : PE X l (tFE X f)) (hg : Gl X "reversed") (hm : X.mg "reversed" = none) (hs : starEach [l] X.env = (false, eval l X.env) :: starEach [] X.env) : PI X tg (.Call (.Name "reversed" p) [l] [] pos) (tFI X (revI f)) :=
  (RT.pi_revA hg hm hl hs).imp fun σ H Q h => by
    obtain ⟨Z, ρ, E, h⟩ := h
    refine ⟨Z, ρ, E, (Ask.bind h).mono fun q _ h v H1 p => ?_⟩
    obtain ⟨ds, hd, h⟩ := (Ask.bind h).of
    obtain ⟨d, hd, hi⟩ := Option.bind_eq_some_iff.mp hd
    obtain ⟨hz, h⟩ := h.ite
    have hz : ds.reverse.length ≤ sizeLine := by rw [List.length_reverse, sizeLine_eq]; have := of_decide_eq_true hz; omega
    have r := p.share hd
    rcases items_cases hi with rfl | rfl
    · obtain ⟨a, xs, rfl, sq, al⟩ := r.list_inv
      exact ⟨a, xs, rfl, .inl ⟨sq, h _ _ p.er p.st (itok_revL al.length r) hz⟩⟩
    · obtain ⟨a, xs, rfl, sq, al⟩ := r.tuple_inv
      exact ⟨a, xs, rfl, .inr ⟨sq, h _ _ p.er p.st (itok_revT al.length r) hz⟩⟩
theorem pi_enumI {l : Expr} {f : FE} {p pos tpos : Pos} {elts : List Expr} {kk : Nat} (hl : PE X l (tFE X f)) (hg : Gl X "enumerate") (hm : X.mg "enumerate" = none) (hs : starEach [l] X.env = [(false, eval l X.env)]) : PI X (.Tuple elts kk tpos) (.Call (.Name "enumerate" p) [l] [] pos) (tFI X (enumI f)) :=
  (pi_enumA hg hm (pa_cons hl pa_nil hs) hs).imp fun σ H Q h => by
    obtain ⟨Z, ρ, E, h⟩ := h
    refine ⟨Z, ρ, E, (Ask.bind h).mono fun q _ h v H1 p => ?_⟩
    obtain ⟨ds, hd, h⟩ := (Ask.bind h).of
    obtain ⟨d, hd, hi⟩ := Option.bind_eq_some_iff.mp hd
    have r := p.share hd
    rcases items_cases hi with rfl | rfl
    · obtain ⟨a, xs, rfl, sq, al⟩ := r.list_inv
      exact ⟨a, xs, rfl, .inl ⟨sq, fun z => h _ _ p.er p.st (itok_enumL r) (by rw [numb_len, ← al.length]; exact z)⟩⟩
    · obtain ⟨a, xs, rfl, sq, al⟩ := r.tuple_inv
      exact ⟨a, xs, rfl, .inr ⟨sq, fun z => h _ _ p.er p.st (itok_enumT r) (by rw [numb_len, ← al.length]; exact z)⟩⟩
theorem pi_zipI {l m : Expr} {f : FL} {p pos tpos : Pos} {elts : List Expr} {kk : Nat} (hl : PA X [l, m] (tFL X f)) (hg : Gl X "zip") (hm : X.mg "zip" = none) (hs : starEach [l, m] X.env = (false, eval l X.env) :: starEach [m] X.env) (hs2 : (backTo pos (starEach [m] X.env)).any (·.1) = false) :
    PI X (.Tuple elts kk tpos) (.Call (.Name "zip" p) [l, m] [] pos) (tFI X (zipI f)) :=
  (pi_zipB hg hm hl hs hs2).imp fun σ H Q h => by
    obtain ⟨Z, ρ, E, h⟩ := h
    refine ⟨Z, ρ, E, (Ask.bind h).mono fun q _ h vs H1 p => ?_⟩
    obtain ⟨ds, hd, h⟩ := (Ask.bind h).of
    obtain ⟨l, hd, hz⟩ := Option.bind_eq_some_iff.mp hd
    have r := dvs_rp p.rp hd
    unfold zip2D at hz
    split at hz
    · cases hz
      cases r with
      | cons r1 r =>
        cases r with
        | cons r2 r =>
          cases r
          obtain ⟨a, xs, rfl, sa, al⟩ := r1.list_inv
          obtain ⟨b, ys, rfl, sb, _⟩ := r2.list_inv
          exact ⟨a, b, xs, ys, rfl, .inl ⟨sa, sb, fun z => h _ _ p.er p.st (itok_zipL r1 r2) (by rw [show (zipD _ _).length = _ from List.length_zipWith, ← al.length]; omega)⟩⟩
    · cases hz
      cases r with
      | cons r1 r =>
        cases r with
        | cons r2 r =>
          cases r
          obtain ⟨a, xs, rfl, sa, al⟩ := r1.tuple_inv
          obtain ⟨b, ys, rfl, sb, _⟩ := r2.tuple_inv
          exact ⟨a, b, xs, ys, rfl, .inr ⟨sa, sb, fun z => h _ _ p.er p.st (itok_zipT r1 r2) (by rw [show (zipD _ _).length = _ from List.length_zipWith, ← al.length]; omega)⟩⟩
    · cases hz
theorem lim62_in {i : Int} (h : lim62 i = true) : -1000000 ≤ i ∧ i ≤ 1000000 := by
  unfold lim62 at h
  rw [Bool.and_eq_true] at h
  exact ⟨of_decide_eq_true h.1, of_decide_eq_true h.2⟩
theorem lim62_of {i : Int} (h : lim62 i = true) : -(2 ^ 62) ≤ i ∧ i < 2 ^ 62 := by
  have := lim62_in h
  omega
theorem rng_bind {g : List D → Option (List D)} {f : FL} {σ : Sg} {H : Hp} {Q : It → Hp → Prop} (h : tFI X (rangeI g f) σ H Q) : tFL X f σ H fun vs H1 => ∃ Z ρ ds out, ER X.w X.K Z ρ σ H1 ∧ PkAll X.w X.K (YY Z ρ σ) H1 vs ds ∧ g ds = some out ∧ ∀ J, ItOk X.K (YY Z ρ σ) H1 J out → out.length ≤ sizeLine → Q J H1 := by
  obtain ⟨Z, ρ, E, h⟩ := h
  refine ⟨Z, ρ, E, (Ask.bind h).mono fun q _ h vs H1 p => ?_⟩
  obtain ⟨ds, hd, h⟩ := (Ask.bind h).of
  obtain ⟨l, hd, hz⟩ := Option.bind_eq_some_iff.mp hd
  exact ⟨Z, q.2, l, ds, p.er, getAll_pk p.er p.rp hd, hz, fun J => h J H1 p.er p.st⟩
theorem pi_rangeI1 {a : Expr} {f : FL} {p pos : Pos} (hl : PA X [a] (tFL X f)) (hg : Gl X "range") (hm : X.mg "range" = none) (hs : starEach [a] X.env = [(false, eval a X.env)]) : PI X tg (.Call (.Name "range" p) [a] [] pos) (tFI X (rangeI range1D f)) :=
  (pi_range1 hg hm hl hs).imp fun σ H Q h => by
    obtain ⟨Z, ρ, E, h⟩ := rng_bind h
    refine ⟨Z, ρ, E, Ask.mono h fun q _ h vs H1 p => ?_⟩
    obtain ⟨Z1, ρ1, ds, out, E1, pk, hr, h⟩ := h vs H1 p
    unfold range1D at hr
    split at hr
    · split at hr
      · rename_i hj
        cases hr
        cases pk with
        | cons k1 k =>
          cases k
          cases k1.int_inv
          exact ⟨_, rfl, (lim62_of hj).1, (lim62_of hj).2, h _ itok_rng (by rw [rngD_len, sizeLine_eq]; have := lim62_in hj; omega)⟩
      · cases hr
    · cases hr
theorem pi_rangeI2 {a b : Expr} {f : FL} {p pos : Pos} (hl : PA X [a, b] (tFL X f)) (hg : Gl X "range") (hm : X.mg "range" = none) (hs : starEach [a, b] X.env = [(false, eval a X.env), (false, eval b X.env)]) (hs2 : starEach [b] X.env = [(false, eval b X.env)]) : PI X tg (.Call (.Name "range" p) [a, b] [] pos) (tFI X (rangeI range2D f)) :=
  (pi_range2 hg hm hl hs hs2).imp fun σ H Q h => by
    obtain ⟨Z, ρ, E, h⟩ := rng_bind h
    refine ⟨Z, ρ, E, Ask.mono h fun q _ h vs H1 p => ?_⟩
    obtain ⟨Z1, ρ1, ds, out, E1, pk, hr, h⟩ := h vs H1 p
    unfold range2D at hr
    split at hr
    · split at hr
      · rename_i hj
        rw [Bool.and_eq_true] at hj
        cases hr
        cases pk with
        | cons k1 k =>
          cases k with
          | cons k2 k =>
            cases k
            cases k1.int_inv
            cases k2.int_inv
            exact ⟨_, _, rfl, ⟨(lim62_of hj.1).1, (lim62_of hj.1).2, (lim62_of hj.2).1, (lim62_of hj.2).2⟩, h _ itok_rng (by rw [rngD_len, sizeLine_eq]; have := lim62_in hj.1; have := lim62_in hj.2; omega)⟩
      · cases hr
    · cases hr
theorem pi_rangeI3 {a b c : Expr} {f : FL} {p pos : Pos} (hl : PA X [a, b, c] (tFL X f)) (hg : Gl X "range") (hm : X.mg "range" = none) (hs : starEach [a, b, c] X.env = (false, eval a X.env) :: starEach [b, c] X.env) (hs2 : (backTo pos (starEach [b, c] X.env)).any (·.1) = false) : PI X tg (.Call (.Name "range" p) [a, b, c] [] pos) (tFI X (rangeI range3D f)) :=
  (pi_range3 hg hm hl hs hs2).imp fun σ H Q h => by
    obtain ⟨Z, ρ, E, h⟩ := rng_bind h
    refine ⟨Z, ρ, E, Ask.mono h fun q _ h vs H1 p => ?_⟩
    obtain ⟨Z1, ρ1, ds, out, E1, pk, hr, h⟩ := h vs H1 p
    unfold range3D at hr
    split at hr
    · split at hr
      · rename_i hj
        rw [Bool.and_eq_true, Bool.and_eq_true] at hj
        have hc := of_decide_eq_true hj.2
        subst hc
        cases hr
        cases pk with
        | cons k1 k =>
          cases k with
          | cons k2 k =>
            cases k with
            | cons k3 k =>
              cases k
              cases k1.int_inv
              cases k2.int_inv
              cases k3.int_inv
              exact ⟨_, _, _, _, rfl, RgC.neg (lim62_of hj.1.1).1 (lim62_of hj.1.1).2 (lim62_of hj.1.2).1 (lim62_of hj.1.2).2, h _ itok_rngC (by rw [rngD_len, sizeLine_eq]; have := lim62_in hj.1.1; have := lim62_in hj.1.2; omega)⟩
      · cases hr
    · cases hr
end
end DL

namespace DL
open PySem PySem.Spec PyProof.Rows L2

theorem wipe_in (σ : Sg) {i : Nat} {x : Option V} : ∀ {vs : List Nat}, i ∈ vs → (wipe σ vs)[i]? = some x → x = none
  | [], h, _ => by simp at h
  | v :: vs, h, e => by
    unfold wipe at e
    rcases set_get e with ⟨rfl, rfl, _⟩ | ⟨ne, e⟩
    · rfl
    · rcases List.mem_cons.mp h with rfl | h
      · exact absurd rfl ne
      · exact wipe_in σ h e
theorem wipe_wipe (σ : Sg) (vs : List Nat) : wipe (wipe σ vs) vs = wipe σ vs := by
  apply List.ext_getElem?
  intro i
  by_cases h : i ∈ vs
  · by_cases hl : i < σ.length
    · have h1 : i < (wipe (wipe σ vs) vs).length := by rw [wipe_length, wipe_length]; exact hl
      have h2 : i < (wipe σ vs).length := by rw [wipe_length]; exact hl
      rw [List.getElem?_eq_getElem h1, List.getElem?_eq_getElem h2, wipe_in (wipe σ vs) h (List.getElem?_eq_getElem h1), wipe_in σ h (List.getElem?_eq_getElem h2)]
    · rw [List.getElem?_eq_none (by rw [wipe_length, wipe_length]; omega), List.getElem?_eq_none (by rw [wipe_length]; omega)]
  · rw [wipe_out _ h]

/-- the slots of a block's names own these -/
def VO (ρ : En) (σ : Sg) (vs : List Nat) : As := fun a => ∃ i s d, i ∈ vs ∧ ρ[i]? = some s ∧ s.mine = some d ∧ σ[i]? = some (some (.ref a))
def ZB (Z : As) (ρ : En) (σ : Sg) (vs : List Nat) (L : Addr) : As := fun a => Z a ∨ a = L ∨ VO ρ σ vs a
section
variable {ω : World} {K : PySem.W.Frag} {Z : As} {ρ ρ1 ρl : En} {σ σ1 : Sg} {H H1 H2 : Hp} {vs : List Nat} {L : Addr}
theorem wipeE_mine {i : Nat} {s : S} {d : D} (h : (wipeE ρ vs)[i]? = some s) (m : s.mine = some d) : i ∉ vs ∧ ρ[i]? = some s := by
  by_cases hv : i ∈ vs
  · rw [wipeE_in ρ hv h] at m; cases m
  · rw [wipeE_out ρ hv] at h; exact ⟨hv, h⟩
theorem OB.wiped {a : Addr} (h : OB (wipeE ρ vs) (wipe σ vs) a) : ∃ i s d, i ∉ vs ∧ ρ[i]? = some s ∧ s.mine = some d ∧ σ[i]? = some (some (.ref a)) := by
  obtain ⟨i, s, d, e1, e2, e3⟩ := h
  obtain ⟨hv, e1⟩ := wipeE_mine e1 e2
  rw [wipe_out σ hv] at e3
  exact ⟨i, s, d, hv, e1, e2, e3⟩
theorem OB.unwipe {a : Addr} (h : OB (wipeE ρ vs) (wipe σ vs) a) : OB ρ σ a := by
  obtain ⟨i, s, d, hv, e1, e2, e3⟩ := h.wiped
  exact ⟨i, s, d, e1, e2, e3⟩
theorem VO.ob {a : Addr} (h : VO ρ σ vs a) : OB ρ σ a := by
  obtain ⟨i, s, d, hv, e1, e2, e3⟩ := h
  exact ⟨i, s, d, e1, e2, e3⟩
theorem ZB.yy {a : Addr} (h : ZB Z ρ σ vs L a) (hL : H L = none) (ha : H a ≠ none) : YY Z ρ σ a := by
  rcases h with h | h | h
  · exact .inl h
  · subst h; exact absurd hL ha
  · exact .inr h.ob
/-- slots forgotten -/
theorem ER.wipe (E : ER ω K Z ρ σ H) (vs : List Nat) : ER ω K Z (wipeE ρ vs) (wipe σ vs) H where
  len := by rw [wipeE_len, wipe_length]; exact E.len
  zd := E.zd
  zo := fun a z q => E.zo a z q.unwipe
  val := fun i d h => by
    by_cases hv : i ∈ vs
    · cases wipeE_in ρ hv h
    · rw [wipeE_out ρ hv] at h
      obtain ⟨v, e1, e2⟩ := E.val i d h
      exact ⟨v, by rw [wipe_out σ hv]; exact e1, e2.move (fun _ _ e _ => e) (fun a _ z => z.elim .inl fun z => .inr z.unwipe) d v⟩
  own := fun i s d h m => by
    obtain ⟨hv, h⟩ := wipeE_mine h m
    obtain ⟨a, e1, e2⟩ := E.own i s d h m
    exact ⟨a, by rw [wipe_out σ hv]; exact e1, e2.move (fun _ _ e _ => e) (fun _ e => e) fun a _ z => z.elim .inl fun z => .inr z.unwipe⟩
  inj := fun i j s t d e a h1 h2 m1 m2 e1 e2 => by
    obtain ⟨v1, h1⟩ := wipeE_mine h1 m1
    obtain ⟨v2, h2⟩ := wipeE_mine h2 m2
    rw [wipe_out σ v1] at e1
    rw [wipe_out σ v2] at e2
    exact E.inj i j s t d e a h1 h2 m1 m2 e1 e2
theorem Stp.wipe (vs : List Nat) : Stp ρ σ H (wipeE ρ vs) (wipe σ vs) H :=
  ⟨fun _ _ e _ => e, fun _ e => e, fun i d a e1 e2 => by
    obtain ⟨hv, e1⟩ := wipeE_mine e1 rfl
    rw [wipe_out σ hv] at e2
    exact .inl ⟨⟨d, e1⟩, e2⟩, fun i d e => by
    obtain ⟨hv, e⟩ := wipeE_mine e rfl
    exact ⟨⟨d, e⟩, wipe_out σ hv⟩⟩
/-- a foreign address is written -/
theorem ER.updZ (E : ER ω K Z ρ σ H) (hz : Z L) (o : HO) : ER ω K Z ρ σ (upd H L o) := by
  have dom : ∀ a, H a ≠ none → upd H L o a ≠ none := fun a e => by
    by_cases h : a = L
    · subst h; rw [upd_same]; exact fun z => nomatch z
    · rw [upd_ne h]; exact e
  have kp : ∀ a ob, H a = some ob → ¬ YY Z ρ σ a → upd H L o a = some ob := fun a ob e n => by
    rw [upd_ne (fun z => n (by subst z; exact .inl hz))]; exact e
  refine ⟨E.len, fun a z => dom a (E.zd a z), E.zo, fun i d h => ?_, fun i s d h m => ?_, E.inj⟩
  · obtain ⟨v, e1, e2⟩ := E.val i d h
    exact ⟨v, e1, e2.move kp (fun _ _ z => z) d v⟩
  · obtain ⟨a, e1, e2⟩ := E.own i s d h m
    refine ⟨a, e1, e2.move kp (fun ob e => ?_) fun _ _ z => z⟩
    rw [upd_ne (fun z => E.zo L hz (by subst z; exact ⟨i, s, d, h, m, e1⟩))]; exact e
theorem Stp.updNew {ρ' : En} {σ' : Sg} (t : Stp ρ σ H ρ' σ' H1) (hL : H L = none) (o : HO) : Stp ρ σ H ρ' σ' (upd H1 L o) :=
  ⟨fun a ob e n => by rw [upd_ne (ne_of_none e hL)]; exact t.keep a ob e n, fun a e => by
    by_cases h : a = L
    · subst h; rw [upd_same]; exact fun z => nomatch z
    · rw [upd_ne h]; exact t.dom a e, t.own, t.bor⟩
/-- a block starts -/
theorem ER.blk (E : ER ω K Z ρ σ H) (hL : H L = none) (vs : List Nat) : ER ω K (ZB Z ρ σ vs L) (wipeE ρ vs) (L2.wipe σ vs) (upd H L (.lst [])) := by
  have dom : ∀ a, H a ≠ none → upd H L (.lst []) a ≠ none := fun a e => by
    by_cases h : a = L
    · subst h; exact absurd hL e
    · rw [upd_ne h]; exact e
  have zy : ∀ a, H a ≠ none → YY (ZB Z ρ σ vs L) (wipeE ρ vs) (L2.wipe σ vs) a → YY Z ρ σ a := fun a e z => by
    rcases z with z | z
    · exact z.yy hL e
    · exact .inr z.unwipe
  have W := E.wipe vs
  refine ⟨W.len, fun a z => ?_, fun a z q => ?_, fun i d h => ?_, fun i s d h m => ?_, W.inj⟩
  · rcases z with z | z | z
    · exact dom a (E.zd a z)
    · subst z; rw [upd_same]; exact fun z => nomatch z
    · exact dom a (E.yd a (.inr z.ob))
  · rcases z with z | z | z
    · exact W.zo a z q
    · subst z; exact E.yd _ (.inr q.unwipe) hL
    · obtain ⟨i, s, d, hi, e1, e2, e3⟩ := z
      obtain ⟨j, t, d', hj, q1, q2, q3⟩ := q.wiped
      exact hj (by rw [← E.inj i j s t d d' a e1 q1 e2 q2 e3 q3]; exact hi)
  · by_cases hv : i ∈ vs
    · cases wipeE_in ρ hv h
    · rw [wipeE_out ρ hv] at h
      obtain ⟨v, e1, e2⟩ := E.val i d h
      exact ⟨v, by rw [wipe_out σ hv]; exact e1, e2.move (fun a o e _ => same_upd hL a o e) zy d v⟩
  · obtain ⟨hv, h⟩ := wipeE_mine h m
    obtain ⟨a, e1, e2⟩ := E.own i s d h m
    exact ⟨a, by rw [wipe_out σ hv]; exact e1, e2.move (fun a o e _ => same_upd hL a o e) (fun o e => same_upd hL _ o e) zy⟩
/-- a block ends -/
theorem back_mine {i : Nat} {s : S} {d : D} (hl : ρl.length = ρ1.length) (h : (backE ρl ρ1 vs)[i]? = some s) : (i ∈ vs ∧ ρ1[i]? = some s) ∨ (i ∉ vs ∧ ρl[i]? = some s) := by
  by_cases hv : i ∈ vs
  · rw [backE_in ρl ρ1 hl hv] at h; exact .inl ⟨hv, h⟩
  · rw [backE_out ρl ρ1 hv] at h; exact .inr ⟨hv, h⟩
theorem blk_end (E1 : ER ω K Z ρ1 σ H1) (hL : H1 L = none) (EL : ER ω K (ZB Z ρ1 σ vs L) (wipeE ρl vs) (L2.wipe σ vs) H2) (t : Stp (wipeE ρ1 vs) (L2.wipe σ vs) H1 (wipeE ρl vs) (L2.wipe σ vs) H2) :
    ER ω K (fun a => Z a ∨ a = L) (backE ρl ρ1 vs) σ H2 ∧ Stp ρ1 σ H1 (backE ρl ρ1 vs) σ H2 ∧ (∀ a, YY (fun a => Z a ∨ a = L) (backE ρl ρ1 vs) σ a → YY (ZB Z ρ1 σ vs L) (wipeE ρl vs) (L2.wipe σ vs) a) := by
  have hl : ρl.length = ρ1.length := by
    have h1 := EL.len
    rw [wipeE_len, wipe_length] at h1
    rw [h1, E1.len]
  have up : ∀ {i : Nat} {s : S}, i ∉ vs → ρl[i]? = some s → (wipeE ρl vs)[i]? = some s := fun hv h => by rw [wipeE_out ρl hv]; exact h
  have ob : ∀ a, OB (backE ρl ρ1 vs) σ a → VO ρ1 σ vs a ∨ OB (wipeE ρl vs) (L2.wipe σ vs) a := fun a ⟨i, s, d, e1, e2, e3⟩ => by
    rcases back_mine (d := d) hl e1 with ⟨hv, h⟩ | ⟨hv, h⟩
    · exact .inl ⟨i, s, d, hv, h, e2, e3⟩
    · exact .inr ⟨i, s, d, up hv h, e2, by rw [wipe_out σ hv]; exact e3⟩
  have yy : ∀ a, YY (fun a => Z a ∨ a = L) (backE ρl ρ1 vs) σ a → YY (ZB Z ρ1 σ vs L) (wipeE ρl vs) (L2.wipe σ vs) a := fun a z => by
    rcases z with (z | z) | z
    · exact .inl (.inl z)
    · exact .inl (.inr (.inl z))
    · rcases ob a z with z | z
      · exact .inl (.inr (.inr z))
      · exact .inr z
  have yo : ∀ a, H1 a ≠ none → YY (fun a => Z a ∨ a = L) (backE ρl ρ1 vs) σ a → YY Z ρ1 σ a := fun a e z => by
    rcases z with (z | z) | z
    · exact .inl z
    · subst z; exact absurd hL e
    · rcases ob a z with z | z
      · exact .inr z.ob
      · rcases t.ob z with q | q
        · exact .inr q.unwipe
        · exact absurd q e
  have kp : ∀ a o, H1 a = some o → ¬ YY Z ρ1 σ a → H2 a = some o := fun a o e n => t.keep a o e fun z => n (.inr z.unwipe)
  refine ⟨⟨by rw [backE_len, hl]; exact E1.len, fun a z => ?_, fun a z q => ?_, fun i d h => ?_, fun i s d h m => ?_, fun i j s u d e a h1 h2 m1 m2 e1 e2 => ?_⟩, ⟨fun a o e n => ?_, t.dom, fun i d a h e => ?_, fun i d h => ?_⟩, yy⟩
  · rcases z with z | z
    · exact EL.zd a (.inl z)
    · exact EL.zd a (.inr (.inl z))
  · rcases ob a q with q | q
    · rcases z with z | z
      · exact E1.zo a z q.ob
      · subst z; exact E1.yd _ (.inr q.ob) hL
    · rcases z with z | z
      · exact EL.zo a (.inl z) q
      · exact EL.zo a (.inr (.inl z)) q
  · rcases back_mine (d := d) hl h with ⟨hv, h⟩ | ⟨hv, h⟩
    · obtain ⟨v, e1, e2⟩ := E1.val i d h
      exact ⟨v, e1, e2.move kp yo d v⟩
    · obtain ⟨v, e1, e2⟩ := EL.val i d (up hv h)
      rw [wipe_out σ hv] at e1
      exact ⟨v, e1, e2.move (fun _ _ e _ => e) (fun a _ z => yy a z) d v⟩
  · rcases back_mine (d := d) hl h with ⟨hv, h⟩ | ⟨hv, h⟩
    · obtain ⟨a, e1, e2⟩ := E1.own i s d h m
      refine ⟨a, e1, e2.move kp (fun o e => t.keep a o e fun z => ?_) yo⟩
      obtain ⟨j, u, d', hj, q1, q2, q3⟩ := z.wiped
      exact hj (by rw [← E1.inj i j s u d d' a h q1 m q2 e1 q3]; exact hv)
    · obtain ⟨a, e1, e2⟩ := EL.own i s d (up hv h) m
      rw [wipe_out σ hv] at e1
      exact ⟨a, e1, e2.move (fun _ _ e _ => e) (fun _ e => e) fun a _ z => yy a z⟩
  · rcases back_mine (d := d) hl h1 with ⟨v1, h1⟩ | ⟨v1, h1⟩ <;> rcases back_mine (d := e) hl h2 with ⟨v2, h2⟩ | ⟨v2, h2⟩
    · exact E1.inj i j s u d e a h1 h2 m1 m2 e1 e2
    · exact absurd ⟨j, u, e, up v2 h2, m2, by rw [wipe_out σ v2]; exact e2⟩ (EL.zo a (.inr (.inr ⟨i, s, d, v1, h1, m1, e1⟩)))
    · exact absurd ⟨i, s, d, up v1 h1, m1, by rw [wipe_out σ v1]; exact e1⟩ (EL.zo a (.inr (.inr ⟨j, u, e, v2, h2, m2, e2⟩)))
    · exact EL.inj i j s u d e a (up v1 h1) (up v2 h2) m1 m2 (by rw [wipe_out σ v1]; exact e1) (by rw [wipe_out σ v2]; exact e2)
  · exact t.keep a o e fun z => n z.unwipe
  · rcases back_mine (d := d) hl h with ⟨hv, h⟩ | ⟨hv, h⟩
    · exact .inl ⟨⟨d, h⟩, e⟩
    · rcases t.own i d a (up hv h) (by rw [wipe_out σ hv]; exact e) with ⟨⟨d0, q1⟩, q2⟩ | q
      · obtain ⟨_, q1⟩ := wipeE_mine q1 rfl
        exact .inl ⟨⟨d0, q1⟩, e⟩
      · exact .inr q
  · rcases back_mine (d := d) hl h with ⟨hv, h⟩ | ⟨hv, h⟩
    · exact ⟨⟨d, h⟩, rfl⟩
    · obtain ⟨⟨d0, q1⟩, q2⟩ := t.bor i d (up hv h)
      obtain ⟨_, q1⟩ := wipeE_mine q1 rfl
      exact ⟨⟨d0, q1⟩, rfl⟩
end
end DL
namespace DL
open PySem PySem.Spec PyProof.Rows L2
/-! ### a comprehension's meaning -/
def lcL (tg : FT) (tt : FB) (te : FE) (vs : List Nat) : List D → En → R (List D × En)
  | [], ρ => .ok ([], ρ)
  | d :: ds, ρ => (tg d (wipeE ρ vs)).bind fun ρ1 => (tt ρ1).bind fun b =>
      if b.1 then (te b.2).bind fun s => (R.of s.1.shr).bind fun e => (lcL tg tt te vs ds s.2).bind fun r => .ok (e :: r.1, r.2) else lcL tg tt te vs ds b.2
def lcF (it : FI) (tg : FT) (tt : FB) (te : FE) (vs : List Nat) : FE := fun ρ => (it ρ).bind fun q => (lcL tg tt te vs q.1 q.2).bind fun r => .ok (.own (.list r.1), backE r.2 q.2 vs)
section
variable {X : Cx}
theorem Ask.mono' {α : Type} {X : Cx} {r : R α} {k k' : α → Prop} (h : Ask X r k) (w : ∀ a, k a → k' a) : Ask X r k' := h.mono fun a _ => w a
theorem lc_wp {it : FI} {tg : FT} {tt : FB} {te : FE} {vs ns : List Nat} (hns : ∀ i ∈ ns, i ∈ vs) {σ : Sg} {H : Hp} {Q : VK} (h : tFE X (lcF it tg tt te vs) σ H Q) :
    tLc (tFI X it) (tFT X ns tg) (tFB X tt) (tFE X te) vs σ H Q := by
  obtain ⟨Z, ρ, E, h⟩ := h
  refine ⟨Z, ρ, E, (Ask.bind h).mono fun q _ h J H1 E1 st1 ok hz L hL => ?_⟩
  have h := Ask.bind h
  let G : Hp → Prop := fun H2 => ∃ Y2, Mv (YY Z q.2 σ) H1 Y2 H2
  let Yd : Nat → Hp → V → Hp → Prop := fun i H2 x H3 => ∀ Y2, Mv (YY Z q.2 σ) H1 Y2 H2 → Same H2 H3 ∧ ∃ d, q.1[i]? = some d ∧ Rp X.K Y2 H3 x d
  have w : Walk J q.1.length G Yd := ⟨fun i H2 hi ⟨Y2, m⟩ => ((ok i Y2 H2 m).1 hi).1, fun H2 ⟨Y2, m⟩ => (ok _ Y2 H2 m).2 rfl, fun i H2 x H3 hi _ y Y2 m => ((ok i Y2 H2 m).1 hi).2 x H3 y⟩
  have t0 : Stp (wipeE q.2 vs) (wipe σ vs) H1 (wipeE q.2 vs) (wipe σ vs) H1 := Stp.refl
  let Pv : Nat → Hp → Prop := fun i H2 => ∃ ρi acc xs, ER X.w X.K (ZB Z q.2 σ vs L) (wipeE ρi vs) (wipe σ vs) H2 ∧ Stp (wipeE q.2 vs) (wipe σ vs) H1 (wipeE ρi vs) (wipe σ vs) H2 ∧
    H2 L = some (.lst xs) ∧ RpAll X.K (YY (ZB Z q.2 σ vs L) (wipeE ρi vs) (wipe σ vs)) H2 xs acc ∧ acc.length ≤ i ∧
    Ask X (lcL tg tt te vs (q.1.drop i) ρi) fun r => ∀ v H3, PostE X.w X.K Z ρ σ H (.own (.list (acc ++ r.1))) (backE r.2 q.2 vs) v H3 → Q v H3
  have mv : ∀ {ρi : En} {H2 : Hp}, ER X.w X.K (ZB Z q.2 σ vs L) (wipeE ρi vs) (wipe σ vs) H2 → Stp (wipeE q.2 vs) (wipe σ vs) H1 (wipeE ρi vs) (wipe σ vs) H2 → Mv (YY Z q.2 σ) H1 (YY (ZB Z q.2 σ vs L) (wipeE ρi vs) (wipe σ vs)) H2 := fun {ρi H2} Ei ti =>
    ⟨fun a o e n => ti.keep a o e fun z => n (.inr z.unwipe), fun a e z => by
      rcases z with z | z
      · exact z.yy hL e
      · rcases ti.ob z with y | y
        · exact .inr y.unwipe
        · exact absurd y e, Ei.yd⟩
  refine lc_it w Pv ?h0 ?hG ?hs ?hd
  case h0 =>
    refine ⟨q.2, [], [], E1.blk hL vs, t0.updNew hL _, upd_same, .nil, Nat.le_refl _, ?_⟩
    exact h
  case hG =>
    intro i H2 hi p
    obtain ⟨ρi, acc, xs, Ei, ti, _⟩ := p
    exact ⟨_, mv Ei ti⟩
  case hd =>
    intro H2 p
    obtain ⟨ρi, acc, xs, Ei, ti, eL, al, hi, h⟩ := p
    rw [List.drop_length] at h
    obtain ⟨B1, B2, B3⟩ := blk_end E1 hL Ei ti
    refine h _ _ ⟨B1.weakZ fun a z => .inl z, st1.trans B2, L, rfl, st1.fresh hL, fun z => E1.zd L z hL, B1, xs, eL, ?_⟩
    rw [List.append_nil]
    exact al.move (fun _ _ e _ => e) (fun a _ z => B3 a z) acc xs
  case hs =>
    intro i x H2 H3 hi p y
    obtain ⟨ρi, acc, xs, Ei, ti, eL, al, hai, h⟩ := p
    obtain ⟨sm, d, hd, rx⟩ := y _ (mv Ei ti)
    have zL : ZB Z q.2 σ vs L L := .inr (.inl rfl)
    have hdrop : q.1.drop i = d :: q.1.drop (i + 1) := by
      rw [List.drop_eq_getElem_cons hi]
      rw [List.getElem?_eq_getElem hi] at hd
      rw [Option.some.inj hd]
    rw [hdrop] at h
    have Ei3 := Ei.same sm
    have ti3 := ti.trans (Stp.same sm)
    have eL3 := sm _ _ eL
    have al3 := Same.rpAll sm al
    have h := Ask.bind h
    refine ⟨_, _, d, Ei3, rx, Ask.mono h fun ρa _ h σ2 H4 pg => ?_⟩
    have hw : wipe σ2 vs = wipe σ vs := (pg.wi vs hns).trans (wipe_wipe σ vs)
    refine ⟨hw, ?_⟩
    have eL4 := pg.st.keep _ _ eL3 (Ei3.zo L zL)
    have al4 := pg.st.rpAll al3
    refine ⟨_, ρa, pg.er, (Ask.bind h).mono fun b _ h H5 pt => ?_⟩
    have t5 := pg.st.trans pt.st
    have eL5 := pt.st.keep _ _ eL4 (pg.er.zo L zL)
    have al5 := pt.st.rpAll al4
    -- how a turn ends
    have fin : ∀ {ρc : En} {H6 : Hp}, ER X.w X.K (ZB Z q.2 σ vs L) ρc σ2 H6 → Stp (wipeE ρi vs) (wipe σ vs) H3 ρc σ2 H6 → ER X.w X.K (ZB Z q.2 σ vs L) (wipeE ρc vs) (wipe σ vs) H6 ∧ Stp (wipeE q.2 vs) (wipe σ vs) H1 (wipeE ρc vs) (wipe σ vs) H6 := fun {ρc H6} Ec tc => by
      have e1 := Ec.wipe vs
      have e2 := ti3.trans (tc.trans (Stp.wipe vs))
      rw [hw] at e1 e2
      exact ⟨e1, e2⟩
    have less : ∀ {ρc : En} {H6 : Hp} {ws : List V} {es : List D}, RpAll X.K (YY (ZB Z q.2 σ vs L) ρc σ2) H6 ws es → RpAll X.K (YY (ZB Z q.2 σ vs L) (wipeE ρc vs) (wipe σ vs)) H6 ws es := fun {ρc H6 ws es} al => by
      rw [← hw]
      exact al.move (fun _ _ e _ => e) (fun a _ z => z.elim .inl fun z => .inr z.unwipe) es ws
    obtain ⟨k, ρb⟩ := b
    cases k with
    | false =>
      refine iteF ?_
      obtain ⟨F1, F2⟩ := fin pt.er t5
      exact ⟨ρb, acc, xs, F1, F2, eL5, less al5, by omega, h⟩
    | true =>
      refine iteT ⟨_, ρb, pt.er, (Ask.bind h).mono fun s _ h v H6 pe => ?_⟩
      obtain ⟨e, he, h⟩ := (Ask.bind h).of
      have h := Ask.bind h
      have eL6 := pe.st.keep _ _ eL5 (pt.er.zo L zL)
      have al6 := pe.st.rpAll al5
      obtain ⟨F1, F2⟩ := fin pe.er (t5.trans pe.st)
      have lx := al.length
      refine ⟨xs, eL6, by rw [lx]; omega, s.2, acc ++ [e], xs ++ [v], F1.updZ zL _, F2.updNew hL _, upd_same, ?_, by rw [List.length_append]; simp; omega, ?_⟩
      · have a1 := less (al6.append (.one (pe.share he)))
        refine a1.move (fun a o e n => ?_) (fun _ _ z => z) _ _
        rw [upd_ne (fun z => n (by subst z; exact .inl zL))]
        exact e
      · refine h.mono' fun r h v H7 pq => h v H7 ?_
        rw [List.append_assoc] at pq
        exact pq
end
end DL

namespace DL
open PySem PySem.Spec PyProof.Rows L2

/-! ### statements -/
inductive Fl where
  | nx | bk | ct
  | rt (s : S)
abbrev FS := En → R (Fl × En)
structure PostS (ω : World) (K : PySem.W.Frag) (Z : As) (ρ : En) (σ : Sg) (H : Hp) (ρ1 : En) (σ1 : Sg) (H1 : Hp) : Prop where
  er : ER ω K Z ρ1 σ1 H1
  st : Stp ρ σ H ρ1 σ1 H1
/-- a value that is handed back: an own one was an own one ahead, or is new -/
def RR (ω : World) (K : PySem.W.Frag) (Z : As) (ρ : En) (σ : Sg) (H : Hp) (ρ1 : En) (σ1 : Sg) (H1 : Hp) (v : V) : S → Prop
  | .val d => Rp K (YY Z ρ1 σ1) H1 v d
  | .own d => ∃ a, v = .ref a ∧ ((∃ (i : Nat) (d0 : D), ρ[i]? = some (S.own d0) ∧ σ[i]? = some (some (V.ref a))) ∨ H a = none) ∧ ¬ Z a ∧ ER ω K (fun b => Z b ∨ b = a) ρ1 σ1 H1 ∧ OwnAt ω K (YY (fun b => Z b ∨ b = a) ρ1 σ1) H1 a d
  | _ => False
structure PostR (ω : World) (K : PySem.W.Frag) (Z : As) (ρ : En) (σ : Sg) (H : Hp) (s : S) (ρ1 : En) (v : V) (H1 : Hp) : Prop where
  ex : ∃ σ1, ER ω K Z ρ1 σ1 H1 ∧ Stp ρ σ H ρ1 σ1 H1 ∧ RR ω K Z ρ σ H ρ1 σ1 H1 v s
def EndF (ω : World) (K : PySem.W.Frag) (Z : As) (ρ : En) (σ : Sg) (H : Hp) (D : Ends) (q : Fl × En) : Prop :=
  match q.1 with
  | .nx => ∀ σ1 H1, PostS ω K Z ρ σ H q.2 σ1 H1 → D.nx σ1 H1
  | .bk => ∀ σ1 H1, PostS ω K Z ρ σ H q.2 σ1 H1 → D.bk σ1 H1
  | .ct => ∀ σ1 H1, PostS ω K Z ρ σ H q.2 σ1 H1 → D.ct σ1 H1
  | .rt s => ∀ v H1, PostR ω K Z ρ σ H s q.2 v H1 → D.rt v H1
def tFS (X : Cx) (f : FS) : TS := fun D σ H => ∃ Z ρ, ER X.w X.K Z ρ σ H ∧ Ask X (f ρ) (EndF X.w X.K Z ρ σ H D)
theorem _root_.L2.PS.imp {X : Cx} {e : Stmt} {t u : TS} (h : PS X e t) (w : ∀ D σ H, u D σ H → t D σ H) : PS X e u :=
  ⟨fun pins s σ H D I q => h.run pins s σ H D I (w D σ H q)⟩
theorem _root_.L2.PSs.imp {X : Cx} {e : List Stmt} {t u : TS} (h : PSs X e t) (w : ∀ D σ H, u D σ H → t D σ H) : PSs X e u :=
  ⟨fun pins s σ H D I q => h.run pins s σ H D I (w D σ H q)⟩

section
variable {ω : World} {K : PySem.W.Frag} {Z : As} {ρ ρ1 ρ2 : En} {σ σ1 σ2 : Sg} {H H1 H2 : Hp}
theorem RR.back {v : V} {s : S} (t : Stp ρ σ H ρ1 σ1 H1) (r : RR ω K Z ρ1 σ1 H1 ρ2 σ2 H2 v s) : RR ω K Z ρ σ H ρ2 σ2 H2 v s := by
  cases s with
  | un => exact r
  | val d => exact r
  | bor d => exact r
  | own d =>
    obtain ⟨a, e, h, r⟩ := r
    refine ⟨a, e, ?_, r⟩
    rcases h with ⟨i, d0, h1, h2⟩ | h
    · rcases t.own i d0 a h1 h2 with ⟨⟨d1, q1⟩, q2⟩ | q
      · exact .inl ⟨i, d1, q1, q2⟩
      · exact .inr q
    · exact .inr (t.fresh h)
theorem PostS.back {X : Type} (t : Stp ρ σ H ρ1 σ1 H1) (p : PostS ω K Z ρ1 σ1 H1 ρ2 σ2 H2) : PostS ω K Z ρ σ H ρ2 σ2 H2 := ⟨p.er, t.trans p.st⟩
theorem PostR.back {s : S} {v : V} (t : Stp ρ σ H ρ1 σ1 H1) (p : PostR ω K Z ρ1 σ1 H1 s ρ2 v H2) : PostR ω K Z ρ σ H s ρ2 v H2 := by
  obtain ⟨σ2, e, t2, r⟩ := p.ex
  exact ⟨σ2, e, t.trans t2, r.back t⟩
theorem EndF.back {D : Ends} {q : Fl × En} (t : Stp ρ σ H ρ1 σ1 H1) (h : EndF ω K Z ρ σ H D q) : EndF ω K Z ρ1 σ1 H1 D q := by
  obtain ⟨f, ρ2⟩ := q
  cases f with
  | nx => exact fun σ2 H2 p => h σ2 H2 ⟨p.er, t.trans p.st⟩
  | bk => exact fun σ2 H2 p => h σ2 H2 ⟨p.er, t.trans p.st⟩
  | ct => exact fun σ2 H2 p => h σ2 H2 ⟨p.er, t.trans p.st⟩
  | rt s => exact fun v H2 p => h v H2 (p.back t)
end

def nxF : FS := fun ρ => .ok (.nx, ρ)
def bkF : FS := fun ρ => .ok (.bk, ρ)
def ctF : FS := fun ρ => .ok (.ct, ρ)
def seqF (f g : FS) : FS := fun ρ => (f ρ).bind fun q => match q.1 with
  | .nx => g q.2
  | .bk => .ok (.bk, q.2)
  | .ct => .ok (.ct, q.2)
  | .rt s => .ok (.rt s, q.2)
def setF (i : Nat) (f : FE) : FS := fun ρ => (f ρ).bind fun q => .ok (.nx, q.2.set i q.1)
def asgF (f : FE) (g : FT) : FS := fun ρ => (f ρ).bind fun q => (R.of q.1.shr).bind fun d => (g d q.2).bind fun ρ1 => .ok (.nx, ρ1)
def dropF (f : FE) : FS := fun ρ => (f ρ).bind fun q => .ok (.nx, q.2)
def retF (f : FE) : FS := fun ρ => (f ρ).bind fun q => .ok (.rt q.1, q.2)
def retvF (i : Nat) : FS := fun ρ => match ρ[i]? with
  | some (.val d) => .ok (.rt (.val d), ρ)
  | some (.own d) => .ok (.rt (.own d), ρ.set i .un)
  | _ => .stuck
def retnF : FS := fun ρ => .ok (.rt (.val .none), ρ)
def ifS (c : FB) (f g : FS) : FS := fun ρ => (c ρ).bind fun q => if q.1 then f q.2 else g q.2
def lots : Nat := 2 ^ 64
def whL (c : FB) (b : FS) : Nat → FS
  | 0, _ => .stuck
  | n + 1, ρ => (c ρ).bind fun q => if q.1 then (b q.2).bind fun r => match r.1 with
      | .nx => whL c b n r.2
      | .ct => whL c b n r.2
      | .bk => .ok (.nx, r.2)
      | .rt s => .ok (.rt s, r.2)
    else .ok (.nx, q.2)
def whF (c : FB) (b : FS) : FS := whL c b lots
def forL (g : FT) (b : FS) : List D → FS
  | [], ρ => .ok (.nx, ρ)
  | d :: ds, ρ => (g d ρ).bind fun ρ1 => (b ρ1).bind fun r => match r.1 with
      | .nx => forL g b ds r.2
      | .ct => forL g b ds r.2
      | .bk => .ok (.nx, r.2)
      | .rt s => .ok (.rt s, r.2)
def forF (it : FI) (g : FT) (b : FS) : FS := fun ρ => (it ρ).bind fun q => forL g b q.1 q.2

section
variable {X : Cx} {pos : Pos}
theorem pss_nilF : PSs X [] (tFS X nxF) := pss_nil.imp fun D σ H h => by
  obtain ⟨Z, ρ, E, h⟩ := h
  exact h σ H ⟨E, Stp.refl⟩
theorem ps_passF : PS X (.Pass pos) (tFS X nxF) := ps_pass.imp fun D σ H h => by
  obtain ⟨Z, ρ, E, h⟩ := h
  exact h σ H ⟨E, Stp.refl⟩
theorem ps_brkF : PS X (.Break pos) (tFS X bkF) := ps_break.imp fun D σ H h => by
  obtain ⟨Z, ρ, E, h⟩ := h
  exact h σ H ⟨E, Stp.refl⟩
theorem ps_ctF : PS X (.Continue pos) (tFS X ctF) := ps_continue.imp fun D σ H h => by
  obtain ⟨Z, ρ, E, h⟩ := h
  exact h σ H ⟨E, Stp.refl⟩
theorem pss_consF {st : Stmt} {rest : List Stmt} {f g : FS} (h1 : PS X st (tFS X f)) (h2 : PSs X rest (tFS X g)) : PSs X (st :: rest) (tFS X (seqF f g)) :=
  (pss_cons h1 h2).imp fun D σ H h => by
    obtain ⟨Z, ρ, E, h⟩ := h
    refine ⟨Z, ρ, E, (Ask.bind h).mono fun q _ h => ?_⟩
    obtain ⟨fl, ρ1⟩ := q
    cases fl with
    | nx => exact fun σ1 H1 p => ⟨Z, ρ1, p.er, Ask.mono h fun r _ h => h.back p.st⟩
    | bk => exact h
    | ct => exact h
    | rt s => exact h
theorem ps_dropF {e : Expr} {f : FE} (he : PE X e (tFE X f)) (hs : swapsWith e none pos.line X.env = pure false) : PS X (.Expr e pos) (tFS X (dropF f)) :=
  (ps_expr he hs).imp fun D σ H h => by
    obtain ⟨Z, ρ, E, h⟩ := h
    exact ⟨Z, ρ, E, (Ask.bind h).mono fun q _ h v H1 p => h σ H1 ⟨p.er, p.st⟩⟩
theorem ps_retF {e : Expr} {f : FE} (he : PE X e (tFE X f)) : PS X (.Return (some e) pos) (tFS X (retF f)) :=
  (ps_ret he).imp fun D σ H h => by
    obtain ⟨Z, ρ, E, h⟩ := h
    refine ⟨Z, ρ, E, (Ask.bind h).mono fun q _ h v H1 p => h v H1 ⟨σ, p.er, p.st, ?_⟩⟩
    have r := p.rs
    obtain ⟨s, ρ1⟩ := q
    cases s with
    | un => exact r
    | val d => exact r
    | bor d => exact r
    | own d =>
      obtain ⟨a, e, hn, r⟩ := r
      exact ⟨a, e, .inr hn, r⟩
theorem ps_retnF : PS X (.Return none pos) (tFS X retnF) := ps_retN.imp fun D σ H h => by
  obtain ⟨Z, ρ, E, h⟩ := h
  exact h .non H ⟨σ, E, Stp.refl, .non⟩
/-- an own object leaves its slot -/
theorem ER.out {ω : World} {K : PySem.W.Frag} {Z : As} {ρ : En} {σ : Sg} {H : Hp} (E : ER ω K Z ρ σ H) {i : Nat} {d : D} {a : Addr} (h : ρ[i]? = some (.own d)) (ha : σ[i]? = some (some (.ref a))) :
    ER ω K (fun b => Z b ∨ b = a) (ρ.set i .un) σ H ∧ ER ω K Z (ρ.set i .un) σ H ∧ Stp ρ σ H (ρ.set i .un) σ H ∧ ¬ Z a ∧ OwnAt ω K (YY (fun b => Z b ∨ b = a) (ρ.set i .un) σ) H a d := by
  obtain ⟨b, hb, oa⟩ := E.own i _ d h rfl
  rw [ha] at hb; cases hb
  have sub : ∀ b, OB (ρ.set i .un) σ b → OB ρ σ b ∧ b ≠ a := fun b ⟨j, s, d', e1, e2, e3⟩ => by
    rcases set_get e1 with ⟨rfl, rfl, _⟩ | ⟨ne, e1⟩
    · cases e2
    · refine ⟨⟨j, s, d', e1, e2, e3⟩, fun z => ne ?_⟩
      subst z
      exact E.inj i j _ s d d' _ h e1 rfl e2 ha e3
  have nz : ¬ Z a := fun z => E.zo a z ⟨i, _, d, h, rfl, ha⟩
  have yy : ∀ b, YY (fun b => Z b ∨ b = a) (ρ.set i .un) σ b → YY Z ρ σ b := fun b z => by
    rcases z with (z | z) | z
    · exact .inl z
    · subst z; exact .inr ⟨i, _, d, h, rfl, ha⟩
    · exact .inr (sub b z).1
  have E2 : ER ω K (fun b => Z b ∨ b = a) (ρ.set i .un) σ H := by
    refine ⟨by rw [List.length_set]; exact E.len, fun b z => ?_, fun b z q => ?_, fun j e q => ?_, fun j s e q1 q2 => ?_, fun j k s t d' e b q1 q2 q3 q4 q5 q6 => ?_⟩
    · rcases z with z | rfl
      · exact E.zd b z
      · exact oa.ne
    · rcases z with z | z
      · exact E.zo b z (sub b q).1
      · exact (sub b q).2 z
    · rcases set_get q with ⟨rfl, q, _⟩ | ⟨ne, q⟩
      · cases q
      · obtain ⟨v, w1, w2⟩ := E.val j e q
        exact ⟨v, w1, w2.move (fun _ _ e _ => e) (fun b _ z => yy b z) e v⟩
    · rcases set_get q1 with ⟨rfl, q1, _⟩ | ⟨ne, q1⟩
      · subst q1; cases q2
      · obtain ⟨b, w1, w2⟩ := E.own j s e q1 q2
        exact ⟨b, w1, w2.move (fun _ _ e _ => e) (fun _ e => e) fun b _ z => yy b z⟩
    · rcases set_get q1 with ⟨rfl, q1, _⟩ | ⟨ne, q1⟩
      · subst q1; cases q3
      · rcases set_get q2 with ⟨rfl, q2, _⟩ | ⟨ne2, q2⟩
        · subst q2; cases q4
        · exact E.inj j k s t d' e b q1 q2 q3 q4 q5 q6
  refine ⟨E2, E2.weakZ fun b z => .inl z, ⟨fun _ _ e _ => e, fun _ e => e, fun j e b q1 q2 => ?_, fun j e q => ?_⟩, nz, oa.move (fun _ _ e _ => e) (fun _ e => e) fun b _ z => yy b z⟩
  · rcases set_get q1 with ⟨rfl, q1, _⟩ | ⟨ne, q1⟩
    · cases q1
    · exact .inl ⟨⟨e, q1⟩, q2⟩
  · rcases set_get q with ⟨rfl, q, _⟩ | ⟨ne, q⟩
    · cases q
    · exact ⟨⟨e, q⟩, rfl⟩
theorem ps_retvF {i : Nat} {x : Str} {p : Pos} (hN : X.N[i]? = some x) (hv : Vis X.env.scope x) (hd : (x == ("__debug__" : Str)) = false) (hcd : (x == ("__classdict__" : Str)) = false) : PS X (.Return (some (.Name x p)) pos) (tFS X (retvF i)) :=
  (ps_ret (pe_var hN hv hd hcd)).imp fun D σ H h => by
    obtain ⟨Z, ρ, E, h⟩ := h
    unfold retvF at h
    split at h
    · rename_i d hs
      obtain ⟨v, e1, e2⟩ := E.val i d hs
      exact ⟨v, e1, h v H ⟨σ, E, Stp.refl, e2⟩⟩
    · rename_i d hs
      obtain ⟨a, e1, e2⟩ := E.own i _ d hs rfl
      obtain ⟨o1, o2, o3, o4, o5⟩ := E.out hs e1
      exact ⟨_, e1, h _ H ⟨σ, o2, o3, a, rfl, .inl ⟨i, d, hs, e1⟩, o4, o1, o5⟩⟩
    · exact h.elim
theorem ps_ifF {c : Expr} {a b : List Stmt} {tc : FB} {f g : FS} (hc : PT X c (tFB X tc)) (ha : PSs X a (tFS X f)) (hb : PSs X b (tFS X g)) : PS X (.If c a b pos) (tFS X (ifS tc f g)) :=
  (ps_if hc ha hb).imp fun D σ H h => by
    obtain ⟨Z, ρ, E, h⟩ := h
    refine ⟨Z, ρ, E, (Ask.bind h).mono fun q _ h H1 p => ?_⟩
    obtain ⟨k, ρ1⟩ := q
    cases k with
    | true => exact iteT ⟨Z, ρ1, p.er, Ask.mono h fun r _ h => h.back p.st⟩
    | false => exact iteF ⟨Z, ρ1, p.er, Ask.mono h fun r _ h => h.back p.st⟩
theorem ps_whF {c : Expr} {body : List Stmt} {tc : FB} {f : FS} (hp : PassesOwn (model X.prog X.w) X.A X.env X.xe) (hc : PT X c (tFB X tc)) (hb : PSs X body (tFS X f)) : PS X (.While c body [] pos) (tFS X (whF tc f)) :=
  (ps_while hp hc hb).imp fun D σ H h => by
    obtain ⟨Z, ρ, E, h⟩ := h
    refine ⟨fun m σ' H' => ∃ ρ', ER X.w X.K Z ρ' σ' H' ∧ Stp ρ σ H ρ' σ' H' ∧ Ask X (whL tc f m ρ') (EndF X.w X.K Z ρ σ H D), ⟨lots, ρ, E, Stp.refl, h⟩, fun m σ1 H1 h => ?_⟩
    obtain ⟨ρ1, E1, t1, h⟩ := h
    cases m with
    | zero => exact h.elim
    | succ m =>
      refine ⟨Z, ρ1, E1, (Ask.bind h).mono fun q _ h H2 p => ?_⟩
      obtain ⟨k, ρ2⟩ := q
      cases k with
      | false => exact iteF (h σ1 H2 ⟨p.er, t1.trans p.st⟩)
      | true =>
        refine iteT ⟨fun σ' H' => ∃ ρ', ER X.w X.K Z ρ' σ' H' ∧ Stp ρ σ H ρ' σ' H' ∧ Ask X (whL tc f m ρ') (EndF X.w X.K Z ρ σ H D), fun σ' H' h => ⟨m, Nat.lt_succ_self m, h⟩, Z, ρ2, p.er, (Ask.bind h).mono fun r _ h => ?_⟩
        have t2 := t1.trans p.st
        obtain ⟨fl, ρ3⟩ := r
        cases fl with
        | nx => exact fun σ3 H3 p => ⟨ρ3, p.er, t2.trans p.st, h⟩
        | ct => exact fun σ3 H3 p => ⟨ρ3, p.er, t2.trans p.st, h⟩
        | bk => exact fun σ3 H3 p => h σ3 H3 ⟨p.er, t2.trans p.st⟩
        | rt s => exact fun v H3 p => h v H3 (p.back t2)
theorem ps_forF {tg iter : Expr} {body : List Stmt} {it : FI} {ns : List Nat} {g : FT} {f : FS} (hp : PassesOwn (model X.prog X.w) X.A X.env X.xe) (hc : X.calm = true) (hi : PI X tg iter (tFI X it)) (hg : PG X tg (tFT X ns g)) (hb : PSs X body (tFS X f))
    (hs : ∀ x, foldedSetIterable iter X.env x = pure x) : PS X (.For tg iter body [] pos) (tFS X (forF it g f)) :=
  (ps_for hp hc hi hg hb hs).imp fun D σ H h => by
    obtain ⟨Z, ρ, E, h⟩ := h
    refine ⟨Z, ρ, E, (Ask.bind h).mono fun q _ h J H1 E1 st1 ok hz => ?_⟩
    let G : Hp → Prop := fun H2 => ∃ Y2, Mv (YY Z q.2 σ) H1 Y2 H2
    let Yd : Nat → Hp → V → Hp → Prop := fun i H2 x H3 => ∀ Y2, Mv (YY Z q.2 σ) H1 Y2 H2 → Same H2 H3 ∧ ∃ d, q.1[i]? = some d ∧ Rp X.K Y2 H3 x d
    have w : Walk J q.1.length G Yd := ⟨fun i H2 hi ⟨Y2, m⟩ => ((ok i Y2 H2 m).1 hi).1, fun H2 ⟨Y2, m⟩ => (ok _ Y2 H2 m).2 rfl, fun i H2 x H3 hi _ y Y2 m => ((ok i Y2 H2 m).1 hi).2 x H3 y⟩
    have mv : ∀ {ρi : En} {σi : Sg} {H2 : Hp}, ER X.w X.K Z ρi σi H2 → Stp q.2 σ H1 ρi σi H2 → Mv (YY Z q.2 σ) H1 (YY Z ρi σi) H2 := fun {ρi σi H2} Ei ti =>
      ⟨fun a o e n => ti.keep a o e fun z => n (.inr z), fun a e z => by
        rcases z with z | z
        · exact .inl z
        · rcases ti.ob z with y | y
          · exact .inr y
          · exact absurd y e, Ei.yd⟩
    refine for_it w (fun i σi H2 => ∃ ρi, ER X.w X.K Z ρi σi H2 ∧ Stp q.2 σ H1 ρi σi H2 ∧ Ask X (forL g f (q.1.drop i) ρi) (EndF X.w X.K Z ρ σ H D)) ⟨q.2, E1, Stp.refl, h⟩ (fun i σi H2 hi ⟨ρi, Ei, ti, _⟩ => ⟨_, mv Ei ti⟩) (fun i x σi H2 H3 hi p y => ?_) (fun σi H2 p => ?_)
    · obtain ⟨ρi, Ei, ti, h⟩ := p
      obtain ⟨sm, d, hd, rx⟩ := y _ (mv Ei ti)
      have hdrop : q.1.drop i = d :: q.1.drop (i + 1) := by
        rw [List.drop_eq_getElem_cons hi]
        rw [List.getElem?_eq_getElem hi] at hd
        rw [Option.some.inj hd]
      rw [hdrop] at h
      refine ⟨Z, ρi, d, Ei.same sm, rx, (Ask.bind h).mono fun ρa _ h σ2 H4 pg => ?_⟩
      have t2 := ti.trans ((Stp.same sm).trans pg.st)
      refine ⟨Z, ρa, pg.er, (Ask.bind h).mono fun r _ h => ?_⟩
      obtain ⟨fl, ρ3⟩ := r
      cases fl with
      | nx => exact fun σ3 H5 p => ⟨ρ3, p.er, t2.trans p.st, h⟩
      | ct => exact fun σ3 H5 p => ⟨ρ3, p.er, t2.trans p.st, h⟩
      | bk => exact fun σ3 H5 p => h σ3 H5 ⟨p.er, st1.trans (t2.trans p.st)⟩
      | rt s => exact fun v H5 p => h v H5 ((p.back t2).back st1)
    · obtain ⟨ρi, Ei, ti, h⟩ := p
      rw [List.drop_length] at h
      exact h σi H2 ⟨Ei, st1.trans ti⟩
end
end DL

namespace DL
open PySem PySem.Spec PyProof.Rows L2

def S.wid : S → D → S
  | .own _, d => .own d
  | .bor _, d => .bor d
  | s, _ => s
section
variable {X : Cx} {pos : Pos}
theorem setF_wp {i : Nat} {f : FE} {D : Ends} {σ : Sg} {H : Hp} (h : tFS X (setF i f) D σ H) : tAsg (tFE X f) (gName i) D σ H := by
  obtain ⟨Z, ρ, E, h⟩ := h
  refine ⟨Z, ρ, E, (Ask.bind h).mono fun q _ h v H1 p => ?_⟩
  have r := p.rs
  obtain ⟨s, ρ1⟩ := q
  cases s with
  | un => exact r.elim
  | bor d => exact r.elim
  | val d => exact h _ H1 ⟨p.er.put r, p.st.trans Stp.put⟩
  | own d =>
    obtain ⟨a, rfl, hn, nz, E2, o⟩ := r
    exact h _ H1 ⟨E2.putOwn nz o, Stp.putOwn hn p.st⟩
theorem ps_setF {i : Nat} {x : Str} {e : Expr} {f : FE} {pos' : Pos} (hN : X.N.Nodup) (hi : X.N[i]? = some x) (hx : Loc X.env.scope x) (he : PE X e (tFE X f)) (hs : swapsWith e (some (.Name x pos')) pos.line X.env = pure false) (hf : X.fn x = true ∨ X.env.scope.names.lookup x = some .local) :
    PS X (.Assign [.Name x pos'] e pos) (tFS X (setF i f)) := (ps_set hN hi hx he hs hf).imp fun _ _ _ => setF_wp
theorem ps_asgF {tg e : Expr} {f : FE} {ns : List Nat} {g : FT} (he : PE X e (tFE X f)) (hg : PG X tg (tFT X ns g)) (hs : swapsWithSole [tg] e pos.line X.env = pure false) (hw : swappedStores [tg] e X.env = pure none)
    (h1 : (assignEach [tg] X.env).map (·.2) = [assign tg X.env]) : PS X (.Assign [tg] e pos) (tFS X (asgF f g)) :=
  (ps_asg he hg hs hw h1).imp fun D σ H h => by
    obtain ⟨Z, ρ, E, h⟩ := h
    refine ⟨Z, ρ, E, (Ask.bind h).mono fun q _ h v H1 p => ?_⟩
    obtain ⟨d, hd, h⟩ := (Ask.bind h).of
    exact ⟨Z, q.2, d, p.er, p.share hd, (Ask.bind h).mono fun ρ1 _ h σ1 H2 pg => h σ1 H2 ⟨pg.er, p.st.trans pg.st⟩⟩
/-- the comprehension as a value, as a store -/
theorem pe_lcF {elt tg iter : Expr} {ifs : List Expr} {scope : Scope} {own : List (Str × Nat)} {it : FI} {ns : List Nat} {g : FT} {tt : FB} {te : FE} (hc : X.calm = true) (hN : X.N.Nodup) (hi : PI X tg iter (tFI X it)) (ok : BlkOk X.N X.env.scope scope own) (hns : ∀ i ∈ ns, i ∈ own.map (·.2))
    (hg : ∀ (s : Shared) (H : Hp) (C : Addr) (cl : List (Str × Addr)) (fp : List Addr), PG (X.blk s H scope (compEnvC scope cl C X.env) fp) tg (tFT X ns g)) (ht : ∀ (s : Shared) (H : Hp) (C : Addr) (cl : List (Str × Addr)) (fp : List Addr), PTs (X.blk s H scope (compEnvC scope cl C X.env) fp) ifs (tFB X tt))
    (he : ∀ (s : Shared) (H : Hp) (C : Addr) (cl : List (Str × Addr)) (fp : List Addr), PE (X.blk s H scope (compEnvC scope cl C X.env) fp) elt (tFE X te)) (hs : ∀ x, foldedSetIterable iter X.env x = pure x) :
    PE X (.ListComp elt [⟨tg, iter, ifs, 0⟩] scope pos) (tFE X (lcF it g tt te (own.map (·.2)))) :=
  (pe_lc hc hN hi ok hg ht he hs).imp fun _ _ _ => lc_wp hns
theorem ps_setLcF {i : Nat} {y : Str} {py : Pos} {elt tg iter : Expr} {ifs : List Expr} {scope : Scope} {own : List (Str × Nat)} {spos : Pos} {it : FI} {ns : List Nat} {g : FT} {tt : FB} {te : FE} (hc : X.calm = true) (hN : X.N.Nodup) (hy : X.N[i]? = some y) (hyl : X.env.scope.names.lookup y = some .local)
    (hsw : swapsWith (.ListComp elt [⟨tg, iter, ifs, 0⟩] scope pos) (some (.Name y py)) spos.line X.env = pure true) (hi : PI X tg iter (tFI X it)) (ok : BlkOk X.N X.env.scope scope own) (hns : ∀ i ∈ ns, i ∈ own.map (·.2))
    (hg : ∀ (s : Shared) (H : Hp) (C : Addr) (cl : List (Str × Addr)) (fp : List Addr), PG (X.blk s H scope (compEnvC scope cl C X.env) fp) tg (tFT X ns g)) (ht : ∀ (s : Shared) (H : Hp) (C : Addr) (cl : List (Str × Addr)) (fp : List Addr), PTs (X.blk s H scope (compEnvC scope cl C X.env) fp) ifs (tFB X tt))
    (he : ∀ (s : Shared) (H : Hp) (C : Addr) (cl : List (Str × Addr)) (fp : List Addr), PE (X.blk s H scope (compEnvC scope cl C X.env) fp) elt (tFE X te)) (hs : ∀ x, foldedSetIterable iter X.env x = pure x) :
    PS X (.Assign [.Name y py] (.ListComp elt [⟨tg, iter, ifs, 0⟩] scope pos) spos) (tFS X (setF i (lcF it g tt te (own.map (·.2))))) :=
  (ps_setLc hc hN hy hyl hsw hi ok hg ht he hs).imp fun D σ H h => by
    have h := setF_wp h
    exact lc_wp hns h

/-! ### several values, own ones among them -/
inductive Its (ω : World) (K : PySem.W.Frag) (Y : As) (H : Hp) : List V → List S → List Addr → Prop where
  | nil : Its ω K Y H [] [] []
  | val {v : V} {d : D} {vs : List V} {ss : List S} {A : List Addr} : Rp K Y H v d → Its ω K Y H vs ss A → Its ω K Y H (v :: vs) (.val d :: ss) A
  | own {a : Addr} {d : D} {vs : List V} {ss : List S} {A : List Addr} : OwnAt ω K Y H a d → Its ω K Y H vs ss A → Its ω K Y H (.ref a :: vs) (.own d :: ss) (a :: A)
theorem Its.move {ω : World} {K : PySem.W.Frag} {Y Y' : As} {H H' : Hp} : ∀ {vs : List V} {ss : List S} {A : List Addr}, Its ω K Y H vs ss A → (∀ a o, H a = some o → ¬ Y a → H' a = some o) → (∀ a ∈ A, ∀ o, H a = some o → H' a = some o) → (∀ a, H a ≠ none → Y' a → Y a) → Its ω K Y' H' vs ss A
  | _, _, _, .nil, _, _, _ => .nil
  | _, _, _, .val r t, kp, ka, yy => .val (r.move kp yy _ _) (t.move kp ka yy)
  | _, _, _, .own o t, kp, ka, yy => .own (o.move kp (ka _ (by simp)) yy) (t.move kp (fun a ha => ka a (List.mem_cons_of_mem _ ha)) yy)
theorem Its.len {ω : World} {K : PySem.W.Frag} {Y : As} {H : Hp} : ∀ {vs : List V} {ss : List S} {A : List Addr}, Its ω K Y H vs ss A → vs.length = ss.length
  | _, _, _, .nil => rfl
  | _, _, _, .val _ t => by rw [List.length_cons, List.length_cons, t.len]
  | _, _, _, .own _ t => by rw [List.length_cons, List.length_cons, t.len]
abbrev FLS := En → R (List S × En)
structure PostLS (ω : World) (K : PySem.W.Frag) (Z : As) (ρ : En) (σ : Sg) (H : Hp) (ss : List S) (ρ1 : En) (vs : List V) (H1 : Hp) : Prop where
  ex : ∃ A : List Addr, ER ω K (fun a => Z a ∨ a ∈ A) ρ1 σ H1 ∧ Stp ρ σ H ρ1 σ H1 ∧ A.Nodup ∧ (∀ a ∈ A, H a = none ∧ ¬ Z a) ∧ Its ω K (YY (fun a => Z a ∨ a ∈ A) ρ1 σ) H1 vs ss A
def tFLS (X : Cx) (f : FLS) : TA := fun σ H Q => ∃ Z ρ, ER X.w X.K Z ρ σ H ∧ Ask X (f ρ) fun q => ∀ v H1, PostLS X.w X.K Z ρ σ H q.1 q.2 v H1 → Q v H1
def nilS : FLS := fun ρ => .ok ([], ρ)
def consS (f : FE) (g : FLS) : FLS := fun ρ => (f ρ).bind fun q => (g q.2).bind fun r => .ok (q.1 :: r.1, r.2)
theorem pa_nilS : PA X [] (tFLS X nilS) := by
  refine ⟨fun pos pins s σ H Q I h => pa_nil.run pos pins s σ H Q I ?_⟩
  obtain ⟨Z, ρ, E, h⟩ := h
  exact h [] H ⟨[], E.weakZ fun a z => z.elim id fun z => absurd z (by simp), Stp.refl, List.nodup_nil, fun a z => absurd z (by simp), .nil⟩
theorem pa_consS {e : Expr} {es : List Expr} {f : FE} {g : FLS} (h1 : PE X e (tFE X f)) (h2 : PA X es (tFLS X g)) (hs : starEach (e :: es) X.env = (false, eval e X.env) :: starEach es X.env) : PA X (e :: es) (tFLS X (consS f g)) :=
  (pa_cons h1 h2 hs).imp fun σ H Q h => by
    obtain ⟨Z, ρ, E, h⟩ := h
    refine ⟨Z, ρ, E, (Ask.bind h).mono fun q _ h v H1 p => ?_⟩
    have h := Ask.bind h
    have r := p.rs
    obtain ⟨s, ρ1⟩ := q
    cases s with
    | un => exact r.elim
    | bor d => exact r.elim
    | val d =>
      refine ⟨Z, ρ1, p.er, h.mono' fun q h vs H2 p2 => h _ H2 ?_⟩
      obtain ⟨A, E2, t2, nd, fr, its⟩ := p2.ex
      refine ⟨A, E2, p.st.trans t2, nd, fun a ha => ⟨p.st.fresh (fr a ha).1, (fr a ha).2⟩, .val ?_ its⟩
      refine Rp.move (fun a o e n => t2.keep a o e fun z => n (.inr z)) (fun a e z => ?_) d v r
      rcases z with (z | z) | z
      · exact .inl z
      · exact absurd (fr a z).1 e
      · rcases t2.ob z with y | y
        · exact .inr y
        · exact absurd y e
    | own d =>
      obtain ⟨a, rfl, hn, nz, Ea, o⟩ := r
      refine ⟨fun b => Z b ∨ b = a, ρ1, Ea, h.mono' fun q h vs H2 p2 => h _ H2 ?_⟩
      obtain ⟨A, E2, t2, nd, fr, its⟩ := p2.ex
      have z1 : ∀ b, (Z b ∨ b ∈ a :: A) → ((Z b ∨ b = a) ∨ b ∈ A) := fun b z => by
        rcases z with z | z
        · exact .inl (.inl z)
        · rcases List.mem_cons.mp z with z | z
          · exact .inl (.inr z)
          · exact .inr z
      have y1 : ∀ b, YY (fun b => Z b ∨ b ∈ a :: A) q.2 σ b → YY (fun b => (Z b ∨ b = a) ∨ b ∈ A) q.2 σ b := fun b z => z.elim (fun z => .inl (z1 b z)) .inr
      have ka : ∀ ob, H1 a = some ob → H2 a = some ob := fun ob e => t2.keep a ob e (Ea.zo a (.inr rfl))
      refine ⟨a :: A, E2.weakZ z1, p.st.trans t2, List.nodup_cons.mpr ⟨fun z => (fr a z).2 (.inr rfl), nd⟩, fun b hb => ?_, .own ?_ (its.move (fun _ _ e _ => e) (fun _ _ _ e => e) fun b _ z => y1 b z)⟩
      · rcases List.mem_cons.mp hb with rfl | hb
        · exact ⟨hn, nz⟩
        · exact ⟨p.st.fresh (fr b hb).1, fun z => (fr b hb).2 (.inl z)⟩
      · refine o.move (fun b ob e n => t2.keep b ob e fun z => n (.inr z)) ka fun b e z => ?_
        rcases y1 b z with (z | z) | z
        · exact .inl z
        · exact absurd (fr b z).1 e
        · rcases t2.ob z with y | y
          · exact .inr y
          · exact absurd y e
def putE : En → List Nat → List S → En
  | ρ, i :: is, s :: ss => putE (ρ.set i s) is ss
  | ρ, _, _ => ρ
def putV : Sg → List Nat → List V → Sg
  | σ, i :: is, v :: vs => putV (σ.set i (some v)) is vs
  | σ, _, _ => σ
theorem put_all {ω : World} {K : PySem.W.Frag} {Z : As} {ρ0 : En} {σ0 : Sg} {H0 : Hp} : ∀ (is : List Nat) {ρ : En} {σ : Sg} {H : Hp} {vs : List V} {ss : List S} {A : List Addr} {Y : As}, ER ω K (fun a => Z a ∨ a ∈ A) ρ σ H → Stp ρ0 σ0 H0 ρ σ H → A.Nodup → (∀ a ∈ A, H0 a = none ∧ ¬ Z a) → Its ω K Y H vs ss A → (∀ b, YY (fun a => Z a ∨ a ∈ A) ρ σ b → Y b) →
    ER ω K Z (putE ρ is ss) (putV σ is vs) H ∧ Stp ρ0 σ0 H0 (putE ρ is ss) (putV σ is vs) H
  | [], ρ, σ, H, vs, ss, A, Y, E, t, nd, fr, its, hy => by
    have h1 : putE ρ [] ss = ρ := by cases ss <;> rfl
    have h2 : putV σ [] vs = σ := by cases vs <;> rfl
    rw [h1, h2]
    exact ⟨E.weakZ fun a z => .inl z, t⟩
  | i :: is, ρ, σ, H, vs, ss, A, Y, E, t, nd, fr, its, hy => by
    cases its with
    | nil => exact ⟨E.weakZ fun a z => .inl z, t⟩
    | @val v d vs ss A r its =>
      have r' : Rp K (YY (fun a => Z a ∨ a ∈ A) ρ σ) H v d := r.move (fun _ _ e _ => e) (fun a _ z => hy a z) d v
      refine put_all is (E.put r') (t.trans Stp.put) nd fr its fun a z => hy a ?_
      rcases z with z | ⟨j, s, d, e1, e2, e3⟩
      · exact .inl z
      · rcases set_get e1 with ⟨rfl, rfl, _⟩ | ⟨ne, e1⟩
        · cases e2
        · rw [List.getElem?_set_ne ne] at e3
          exact .inr ⟨j, s, d, e1, e2, e3⟩
    | @own a d vs ss A o its =>
      obtain ⟨na, nd⟩ := List.nodup_cons.mp nd
      have z1 : ∀ b, ((Z b ∨ b ∈ A) ∨ b = a) → (Z b ∨ b ∈ a :: A) := fun b z => by
        rcases z with (z | z) | z
        · exact .inl z
        · exact .inr (List.mem_cons_of_mem _ z)
        · exact .inr (by rw [z]; exact List.mem_cons_self)
      have E1 : ER ω K (fun b => (Z b ∨ b ∈ A) ∨ b = a) ρ σ H := E.weakZ z1
      have o1 : OwnAt ω K (YY (fun b => (Z b ∨ b ∈ A) ∨ b = a) ρ σ) H a d := o.move (fun _ _ e _ => e) (fun _ e => e) fun b _ z => hy b (z.elim (fun z => .inl (z1 b z)) .inr)
      have nz : ¬ (Z a ∨ a ∈ A) := fun z => z.elim (fr a (by simp)).2 na
      refine put_all is (E1.putOwn nz o1) (Stp.putOwn (fr a (by simp)).1 t) nd (fun b hb => fr b (List.mem_cons_of_mem _ hb)) its fun b z => hy b ?_
      rcases z with z | ⟨j, s, d', e1, e2, e3⟩
      · exact .inl (z1 b (.inl z))
      · rcases set_get e1 with ⟨rfl, rfl, hl⟩ | ⟨ne, e1⟩
        · rw [List.getElem?_set_self (by rw [← E.len]; exact hl)] at e3
          cases e3
          exact .inl (.inr (by simp))
        · rw [List.getElem?_set_ne ne] at e3
          exact .inr ⟨j, s, d', e1, e2, e3⟩
def parF (is : List Nat) (f : FLS) : FS := fun ρ => (f ρ).bind fun q => if decide (q.1.length = is.length) then .ok (.nx, putE q.2 is q.1) else .stuck
theorem ps_parF {i j : Nat} {x y : Str} {a b : Expr} {f : FLS} {px py pt : Pos} {kt k2 pt2} (hc : X.calm = true) (hN : X.N.Nodup) (hi : X.N[i]? = some x) (hj : X.N[j]? = some y) (hij : i ≠ j)
    (hx : X.env.scope.names.lookup x = some .local) (hy : X.env.scope.names.lookup y = some .local) (ha : PA X [a, b] (tFLS X f))
    (hw : swappedStores [.Tuple [.Name x px, .Name y py] kt pt] (.Tuple [a, b] k2 pt2) X.env = pure (some [x, y]))
    (hs : swapsWithSole [.Tuple [.Name x px, .Name y py] kt pt] (.Tuple [a, b] k2 pt2) pos.line X.env = pure false) :
    PS X (.Assign [.Tuple [.Name x px, .Name y py] kt pt] (.Tuple [a, b] k2 pt2) pos) (tFS X (parF [i, j] f)) :=
  (ps_par hc hN hi hj hij hx hy ha hw hs).imp fun D σ H h => by
    obtain ⟨Z, ρ, E, h⟩ := h
    refine ⟨Z, ρ, E, (Ask.bind h).mono fun q _ h vs H1 p => ?_⟩
    obtain ⟨hl, h⟩ := h.ite
    have hl := of_decide_eq_true hl
    obtain ⟨A, E1, t1, nd, fr, its⟩ := p.ex
    have lv := its.len
    obtain ⟨P1, P2⟩ := put_all [i, j] E1 t1 nd fr its (fun _ z => z)
    match vs, lv, hl with
    | [v, w], _, _ => exact ⟨v, w, rfl, h _ H1 ⟨P1, P2⟩⟩
    | [], lv, hl => rw [hl] at lv; cases lv
    | [_], lv, hl => rw [hl] at lv; cases lv
    | _ :: _ :: _ :: _, lv, hl => rw [hl] at lv; simp at lv
theorem ps_par3F {i j l : Nat} {x y z : Str} {a b c : Expr} {f : FLS} {px py pz pt : Pos} {kt k2 pt2} (hc : X.calm = true) (hN : X.N.Nodup) (hi : X.N[i]? = some x) (hj : X.N[j]? = some y) (hl : X.N[l]? = some z) (hij : i ≠ j) (hil : i ≠ l) (hjl : j ≠ l)
    (hx : X.env.scope.names.lookup x = some .local) (hy : X.env.scope.names.lookup y = some .local) (hz : X.env.scope.names.lookup z = some .local) (ha : PA X [a, b, c] (tFLS X f))
    (hw : swappedStores [.Tuple [.Name x px, .Name y py, .Name z pz] kt pt] (.Tuple [a, b, c] k2 pt2) X.env = pure (some [x, y, z]))
    (hs : swapsWithSole [.Tuple [.Name x px, .Name y py, .Name z pz] kt pt] (.Tuple [a, b, c] k2 pt2) pos.line X.env = pure false) :
    PS X (.Assign [.Tuple [.Name x px, .Name y py, .Name z pz] kt pt] (.Tuple [a, b, c] k2 pt2) pos) (tFS X (parF [i, j, l] f)) :=
  (ps_par3 hc hN hi hj hl hij hil hjl hx hy hz ha hw hs).imp fun D σ H h => by
    obtain ⟨Z, ρ, E, h⟩ := h
    refine ⟨Z, ρ, E, (Ask.bind h).mono fun q _ h vs H1 p => ?_⟩
    obtain ⟨hl, h⟩ := h.ite
    have hl := of_decide_eq_true hl
    obtain ⟨A, E1, t1, nd, fr, its⟩ := p.ex
    have lv := its.len
    obtain ⟨P1, P2⟩ := put_all [i, j, l] E1 t1 nd fr its (fun _ z => z)
    match vs, lv, hl with
    | [v, w, u], _, _ => exact ⟨v, w, u, rfl, h _ H1 ⟨P1, P2⟩⟩
    | [], lv, hl => rw [hl] at lv; cases lv
    | [_], lv, hl => rw [hl] at lv; cases lv
    | [_, _], lv, hl => rw [hl] at lv; cases lv
    | _ :: _ :: _ :: _ :: _, lv, hl => rw [hl] at lv; simp at lv

/-! ### objects written -/
theorem ER.mut {ω : World} {K : PySem.W.Frag} {Z : As} {ρ : En} {σ : Sg} {H : Hp} (E : ER ω K Z ρ σ H) {k : Nat} {s : S} {d d' : D} {a : Addr} {o : HO} (h : ρ[k]? = some s) (m : s.mine = some d) (ha : σ[k]? = some (some (.ref a)))
    (oa : OwnAt ω K (YY Z ρ σ) (upd H a o) a d') : ER ω K Z (ρ.set k (s.wid d')) σ (upd H a o) ∧ Stp ρ σ H (ρ.set k (s.wid d')) σ (upd H a o) := by
  have mw : ∀ e, (s.wid e).mine = some e := fun e => by rcases mine_cases m with rfl | rfl <;> rfl
  have obi : ∀ b, OB (ρ.set k (s.wid d')) σ b → OB ρ σ b := fun b ⟨j, t, e, e1, e2, e3⟩ => by
    rcases set_get e1 with ⟨rfl, rfl, hl⟩ | ⟨ne, e1⟩
    · exact ⟨k, s, d, h, m, e3⟩
    · exact ⟨j, t, e, e1, e2, e3⟩
  have oba : OB ρ σ a := ⟨k, s, d, h, m, ha⟩
  have dom : ∀ b, H b ≠ none → upd H a o b ≠ none := fun b e => by
    by_cases hb : b = a
    · subst hb; rw [upd_same]; exact fun z => nomatch z
    · rw [upd_ne hb]; exact e
  have kp : ∀ b ob, H b = some ob → ¬ YY Z ρ σ b → upd H a o b = some ob := fun b ob e n => by
    rw [upd_ne (fun z => n (by subst z; exact .inr oba))]; exact e
  have yy : ∀ b, YY Z (ρ.set k (s.wid d')) σ b → YY Z ρ σ b := fun b z => z.elim .inl fun z => .inr (obi b z)
  refine ⟨⟨by rw [List.length_set]; exact E.len, fun b z => dom b (E.zd b z), fun b z q => E.zo b z (obi b q), fun j e q => ?_, fun j t e q1 q2 => ?_, fun i j t u e e' b q1 q2 m1 m2 p1 p2 => ?_⟩, ⟨fun b ob e n => ?_, dom, fun j e b q1 q2 => ?_, fun j e q => ?_⟩⟩
  · rcases set_get q with ⟨rfl, q, hl⟩ | ⟨ne, q⟩
    · have := mw d'; rw [← q] at this; cases this
    · obtain ⟨v, w1, w2⟩ := E.val j e q
      exact ⟨v, w1, w2.move kp (fun b _ z => yy b z) e v⟩
  · rcases set_get q1 with ⟨rfl, q1, hl⟩ | ⟨ne, q1⟩
    · subst q1
      rw [mw d'] at q2
      cases q2
      exact ⟨a, ha, oa.move (fun _ _ e _ => e) (fun _ e => e) fun b _ z => yy b z⟩
    · obtain ⟨b, w1, w2⟩ := E.own j t e q1 q2
      refine ⟨b, w1, w2.move kp (fun ob e' => ?_) fun b _ z => yy b z⟩
      rw [upd_ne (fun z => ne (E.inj k j s t d e a h q1 m q2 ha (by rw [← z]; exact w1)))]
      exact e'
  · have un : ∀ {i : Nat} {t : S} {e : D}, (ρ.set k (s.wid d'))[i]? = some t → t.mine = some e → ∃ t' e', ρ[i]? = some t' ∧ t'.mine = some e' := fun {i t e} q m1 => by
      rcases set_get q with ⟨rfl, q, _⟩ | ⟨ne, q⟩
      · exact ⟨s, d, h, m⟩
      · exact ⟨t, e, q, m1⟩
    obtain ⟨t1, e1, a1, b1⟩ := un q1 m1
    obtain ⟨t2, e2, a2, b2⟩ := un q2 m2
    exact E.inj i j t1 t2 e1 e2 b a1 a2 b1 b2 p1 p2
  · rw [upd_ne (fun z => n (by subst z; exact oba))]; exact e
  · rcases set_get q1 with ⟨rfl, q1, hl⟩ | ⟨ne, q1⟩
    · rcases mine_cases m with rfl | rfl
      · exact .inl ⟨⟨d, h⟩, q2⟩
      · cases q1
    · exact .inl ⟨⟨e, q1⟩, q2⟩
  · rcases set_get q with ⟨rfl, q, hl⟩ | ⟨ne, q⟩
    · rcases mine_cases m with rfl | rfl
      · cases q
      · exact ⟨⟨d, h⟩, rfl⟩
    · exact ⟨⟨e, q⟩, rfl⟩
/-- the list of a slot that may be written -/
def myL (ρ : En) (k : Nat) : Option (S × List D) := (ρ[k]?).bind fun s => match s.mine with
  | some (.list ds) => some (s, ds)
  | _ => none
theorem myL_of {ρ : En} {k : Nat} {s : S} {ds : List D} (h : myL ρ k = some (s, ds)) : ρ[k]? = some s ∧ s.mine = some (.list ds) := by
  obtain ⟨t, ht, h⟩ := Option.bind_eq_some_iff.mp h
  split at h
  · rename_i m
    cases h
    exact ⟨ht, m⟩
  · cases h
theorem ER.mutL {ω : World} {K : PySem.W.Frag} {Z : As} {ρ : En} {σ : Sg} {H : Hp} (E : ER ω K Z ρ σ H) {k : Nat} {s : S} {ds : List D} (h : myL ρ k = some (s, ds)) :
    ∃ a xs, σ[k]? = some (some (.ref a)) ∧ H a = some (.lst xs) ∧ RpAll K (YY Z ρ σ) H xs ds ∧ ∀ ys es, RpAll K (YY Z ρ σ) H ys es → ER ω K Z (ρ.set k (s.wid (.list es))) σ (upd H a (.lst ys)) ∧ Stp ρ σ H (ρ.set k (s.wid (.list es))) σ (upd H a (.lst ys)) := by
  obtain ⟨h, m⟩ := myL_of h
  obtain ⟨a, ha, xs, hx, al⟩ := E.own k s _ h m
  refine ⟨a, xs, ha, hx, al, fun ys es r => E.mut h m ha ⟨ys, upd_same, r.move (fun b ob e n => ?_) (fun _ _ z => z) es ys⟩⟩
  rw [upd_ne (fun z => n (by subst z; exact .inr ⟨k, s, _, h, m, ha⟩))]
  exact e
/-- slot k .append(f) -/
def appF (k : Nat) (f : FE) : FE := fun ρ => (R.of (myL ρ k)).bind fun _ => (f ρ).bind fun q => (R.of q.1.shr).bind fun d => (R.of (myL q.2 k)).bind fun s => if decide (s.2.length < sizeLine) then .ok (.val .none, q.2.set k (s.1.wid (.list (s.2 ++ [d])))) else .stuck
abbrev FewArgs (X : Cx) (cpos : Pos) (es : List Expr) : Prop := ((backTo cpos (starEach es X.env)).all (fun x => !x.1) && (backToKw cpos (keywordEach [] X.env)).all (fun x => x.1.isSome)
      && decide (es.length + ([] : List Keyword).length + (if ([] : List Keyword).isEmpty then 0 else 1) < 30)) = true
theorem pe_appF {k : Nat} {x : Str} {p apos cpos : Pos} {e : Expr} {f : FE} (hN : X.N[k]? = some x) (hv : Vis X.env.scope x) (hd : (x == ("__debug__" : Str)) = false) (hcd : (x == ("__classdict__" : Str)) = false) (he : PE X e (tFE X f))
    (hs : starEach [e] X.env = (false, eval e X.env) :: starEach [] X.env) (hfew : FewArgs X cpos [e]) (hline : (apos.endLine == cpos.line) = true) :
    PE X (.Call (.Attribute (.Name x p) "append" apos) [e] [] cpos) (tFE X (appF k f)) :=
  (pe_bm PySem.F.plainAttrs_list PySem.F.slot_list_append PySem.F.type_list_append mt_append (pe_var hN hv hd hcd) (pa_cons he pa_nil hs) rfl hfew hline hs rfl).imp fun σ H Q h => by
    obtain ⟨Z, ρ, E, h⟩ := h
    obtain ⟨s0, h0, h⟩ := (Ask.bind h).of
    obtain ⟨a, xs0, ha, hx0, _⟩ := E.mutL h0
    refine ⟨.ref a, ha, .inl ⟨rfl, xs0, .inl (.inl hx0)⟩, Z, ρ, E, (Ask.bind h).mono fun q _ h v H1 p => ?_⟩
    obtain ⟨d, hd, h⟩ := (Ask.bind h).of
    obtain ⟨s1, h1, h⟩ := (Ask.bind h).of
    obtain ⟨hz, h⟩ := h.ite
    obtain ⟨b, xs, hb, hx, al, w⟩ := p.er.mutL h1
    rw [ha] at hb; cases hb
    obtain ⟨w1, w2⟩ := w (xs ++ [v]) (s1.2 ++ [d]) (al.append (.one (p.share hd)))
    exact ⟨a, xs, v, rfl, rfl, hx, by rw [al.length]; exact of_decide_eq_true hz, h .non _ ⟨w1, p.st.trans w2, .non⟩⟩
/-- slot k .extend(f) -/
def extF (k : Nat) (f : FE) : FE := fun ρ => (R.of (myL ρ k)).bind fun _ => (f ρ).bind fun q => match q.1 with
  | .own (.list es) => (R.of (myL q.2 k)).bind fun s => if decide (s.2.length + es.length ≤ sizeLine) then .ok (.val .none, q.2.set k (s.1.wid (.list (s.2 ++ es)))) else .stuck
  | _ => .stuck
theorem pe_extF {k : Nat} {x : Str} {p apos cpos : Pos} {e : Expr} {f : FE} (hN : X.N[k]? = some x) (hv : Vis X.env.scope x) (hd : (x == ("__debug__" : Str)) = false) (hcd : (x == ("__classdict__" : Str)) = false) (he : PE X e (tFE X f))
    (hs : starEach [e] X.env = (false, eval e X.env) :: starEach [] X.env) (hfew : FewArgs X cpos [e]) (hline : (apos.endLine == cpos.line) = true) :
    PE X (.Call (.Attribute (.Name x p) "extend" apos) [e] [] cpos) (tFE X (extF k f)) :=
  (pe_bm PySem.F.plainAttrs_list PySem.F.slot_list_extend PySem.F.type_list_extend mt_extend (pe_var hN hv hd hcd) (pa_cons he pa_nil hs) rfl hfew hline hs rfl).imp fun σ H Q h => by
    obtain ⟨Z, ρ, E, h⟩ := h
    obtain ⟨s0, h0, h⟩ := (Ask.bind h).of
    obtain ⟨a, xs0, ha, hx0, _⟩ := E.mutL h0
    refine ⟨.ref a, ha, .inl ⟨rfl, xs0, .inl (.inl hx0)⟩, Z, ρ, E, (Ask.bind h).mono fun q _ h v H1 p => ?_⟩
    obtain ⟨s, ρ1⟩ := q
    cases s with
    | un => exact h.elim
    | val d => exact h.elim
    | bor d => exact h.elim
    | own d =>
    cases d with
    | list es =>
      obtain ⟨s1, h1, h⟩ := (Ask.bind h).of
      obtain ⟨hz, h⟩ := h.ite
      obtain ⟨c, rfl, hn, nz, E2, zs, hc, alz⟩ := p.rs
      obtain ⟨b, xs, hb, hx, al, w⟩ := p.er.mutL h1
      rw [ha] at hb; cases hb
      have alz' : RpAll X.K (YY Z ρ1 σ) H1 zs es := alz.move (fun _ _ e _ => e) (fun b _ z => z.elim (fun z => .inl (.inl z)) .inr) es zs
      obtain ⟨w1, w2⟩ := w (xs ++ zs) (s1.2 ++ es) (al.append alz')
      exact ⟨a, c, xs, zs, rfl, rfl, hx, hc, by rw [al.length, alz.length]; exact of_decide_eq_true hz, h .non _ ⟨w1, p.st.trans w2, .non⟩⟩
    | _ => exact h.elim
/-- slot k .pop(), .pop(i) -/
def popF (k : Nat) : FE := fun ρ => (R.of (myL ρ k)).bind fun s => (R.of s.2[s.2.length - 1]?).bind fun d => .ok (.val d, ρ.set k (s.1.wid (.list s.2.dropLast)))
theorem RpAll.dropLast {K : PySem.W.Frag} {Y : As} {H : Hp} : ∀ {vs : List V} {ds : List D}, RpAll K Y H vs ds → RpAll K Y H vs.dropLast ds.dropLast
  | _, _, .nil => .nil
  | _, _, .cons _ .nil => .nil
  | _, _, .cons a (.cons b t) => .cons a (RpAll.dropLast (.cons b t))
theorem RpAll.eraseIdx {K : PySem.W.Frag} {Y : As} {H : Hp} : ∀ {vs : List V} {ds : List D} (i : Nat), RpAll K Y H vs ds → RpAll K Y H (vs.eraseIdx i) (ds.eraseIdx i)
  | _, _, _, .nil => .nil
  | _, _, 0, .cons _ t => t
  | _, _, i + 1, .cons a t => .cons a (RpAll.eraseIdx i t)
theorem rp_stays {K : PySem.W.Frag} {Z : As} {ρ ρ1 : En} {σ : Sg} {H H1 : Hp} {v : V} {d : D} (t : Stp ρ σ H ρ1 σ H1) (r : Rp K (YY Z ρ σ) H v d) : Rp K (YY Z ρ1 σ) H1 v d := t.rp r
theorem pe_popF {k : Nat} {x : Str} {p apos cpos : Pos} (hN : X.N[k]? = some x) (hv : Vis X.env.scope x) (hd : (x == ("__debug__" : Str)) = false) (hcd : (x == ("__classdict__" : Str)) = false) (hline : (apos.endLine == cpos.line) = true) :
    PE X (.Call (.Attribute (.Name x p) "pop" apos) [] [] cpos) (tFE X (popF k)) :=
  (pe_bm0 PySem.F.plainAttrs_list PySem.F.slot_list_pop PySem.F.type_list_pop mt_pop (pe_var hN hv hd hcd) rfl hline).imp fun σ H Q h => by
    obtain ⟨Z, ρ, E, h⟩ := h
    obtain ⟨s, h1, h⟩ := (Ask.bind h).of
    obtain ⟨d, hd, h⟩ := (Ask.bind h).of
    obtain ⟨a, xs, ha, hx, al, w⟩ := E.mutL h1
    obtain ⟨v, hv, rv⟩ := al.get hd
    obtain ⟨w1, w2⟩ := w _ _ al.dropLast
    exact ⟨.ref a, ha, .inl ⟨rfl, xs, .inl (.inl hx)⟩, a, xs, v, rfl, rfl, hx, by rw [al.length]; exact hv, h v _ ⟨w1, w2, w2.rp rv⟩⟩
def popAtF (k : Nat) (f : FP) : FE := fun ρ => (R.of (myL ρ k)).bind fun _ => (f ρ).bind fun q => (R.of (q.1.get q.2)).bind fun i => (R.of (myL q.2 k)).bind fun s => match i with
  | .int i => if decide (-1000000 ≤ i ∧ i ≤ 1000000) then (R.of (seqIndex? i s.2.length)).bind fun j => (R.of s.2[j]?).bind fun d => .ok (.val d, q.2.set k (s.1.wid (.list (s.2.eraseIdx j)))) else .stuck
  | _ => .stuck
theorem pe_popAtF {k : Nat} {x : Str} {p apos cpos : Pos} {e : Expr} {f : FP} (hN : X.N[k]? = some x) (hv : Vis X.env.scope x) (hd : (x == ("__debug__" : Str)) = false) (hcd : (x == ("__classdict__" : Str)) = false) (he : PE X e (tFP X f))
    (hs : starEach [e] X.env = (false, eval e X.env) :: starEach [] X.env) (hfew : FewArgs X cpos [e]) (hline : (apos.endLine == cpos.line) = true) :
    PE X (.Call (.Attribute (.Name x p) "pop" apos) [e] [] cpos) (tFE X (popAtF k f)) :=
  (pe_bm PySem.F.plainAttrs_list PySem.F.slot_list_pop PySem.F.type_list_pop mt_popAt (pe_var hN hv hd hcd) (pa_cons he pa_nil hs) rfl hfew hline hs rfl).imp fun σ H Q h => by
    obtain ⟨Z, ρ, E, h⟩ := h
    obtain ⟨s0, h0, h⟩ := (Ask.bind h).of
    obtain ⟨a, xs0, ha, hx0, _⟩ := E.mutL h0
    refine ⟨.ref a, ha, .inl ⟨rfl, xs0, .inl (.inl hx0)⟩, Z, ρ, E, (Ask.bind h).mono fun q _ h v H1 p => ?_⟩
    obtain ⟨i, hi, h⟩ := (Ask.bind h).of
    obtain ⟨s, h1, h⟩ := (Ask.bind h).of
    have pi := p.rp.get p.er hi
    split at h
    · rename_i j
      split at h
      · rename_i hz
        have hz := of_decide_eq_true hz
        obtain ⟨m, hm, h⟩ := (Ask.bind h).of
        obtain ⟨d, hd, h⟩ := (Ask.bind h).of
        cases pi.int_inv
        obtain ⟨b, xs, hb, hx, al, w⟩ := p.er.mutL h1
        rw [ha] at hb; cases hb
        obtain ⟨v, hv, rv⟩ := al.get hd
        obtain ⟨w1, w2⟩ := w _ _ (al.eraseIdx m)
        exact ⟨a, xs, _, m, v, rfl, rfl, hx, by omega, by omega, by rw [al.length]; exact hm, hv, h v _ ⟨w1, p.st.trans w2, w2.rp rv⟩⟩
      · exact h.elim
    · exact h.elim
/-- slot k [fi] = f -/
def setIxF (k : Nat) (fi : FP) (f : FE) : FS := fun ρ => (f ρ).bind fun q => (R.of q.1.shr).bind fun d => (R.of (myL q.2 k)).bind fun _ => (fi q.2).bind fun r => (R.of (r.1.get r.2)).bind fun i => (R.of (myL r.2 k)).bind fun s => match i with
  | .int i => (R.of (ixN s.2.length i)).bind fun j => .ok (.nx, r.2.set k (s.1.wid (.list (s.2.set j d))))
  | _ => .stuck
theorem ps_setIxF {k : Nat} {x : Str} {p tpos : Pos} {ei e : Expr} {fi : FP} {f : FE} (hN : X.N[k]? = some x) (hv : Vis X.env.scope x) (hd : (x == ("__debug__" : Str)) = false) (hcd : (x == ("__classdict__" : Str)) = false) (he : PE X e (tFE X f)) (hi : PE X ei (tFP X fi))
    (ha : ∀ v, assign (.Subscript (.Name x p) ei tpos) X.env v = (do
      let ov ← holding [v] (eval (.Name x p) X.env)
      let iv ← holding [v, ov] (eval ei X.env)
      standAt tpos
      holding [v, ov, iv] (setItem ov iv v)
      release [v, ov, iv] []))
    (hs : swapsWithSole [.Subscript (.Name x p) ei tpos] e pos.line X.env = pure false) (hw : swappedStores [.Subscript (.Name x p) ei tpos] e X.env = pure none) (h1 : (assignEach [.Subscript (.Name x p) ei tpos] X.env).map (·.2) = [assign (.Subscript (.Name x p) ei tpos) X.env]) :
    PS X (.Assign [.Subscript (.Name x p) ei tpos] e pos) (tFS X (setIxF k fi f)) :=
  (ps_asg he (pg_sub (pe_var hN hv hd hcd) hi set_list ha) hs hw h1).imp fun D σ H h => by
    obtain ⟨Z, ρ, E, h⟩ := h
    refine ⟨Z, ρ, E, (Ask.bind h).mono fun q _ h v H1 p => ?_⟩
    obtain ⟨d, hd, h⟩ := (Ask.bind h).of
    have rv := p.share hd
    obtain ⟨s0, h0, h⟩ := (Ask.bind h).of
    have h := Ask.bind h
    obtain ⟨a, xs0, ha, _⟩ := p.er.mutL h0
    refine ⟨.ref a, ha, Z, q.2, p.er, h.mono' fun r h u H2 p2 => ?_⟩
    obtain ⟨i, hi, h⟩ := (Ask.bind h).of
    obtain ⟨s, h1, h⟩ := (Ask.bind h).of
    have pi := p2.rp.get p2.er hi
    split at h
    · rename_i j
      obtain ⟨m, hm, h⟩ := (Ask.bind h).of
      cases pi.int_inv
      obtain ⟨b, xs, hb, hx, al, w⟩ := p2.er.mutL h1
      rw [ha] at hb; cases hb
      obtain ⟨w1, w2⟩ := w _ _ (al.set m (p2.st.rp rv))
      exact ⟨a, xs, _, m, rfl, rfl, hx, by rw [al.length]; exact hm, h _ _ ⟨w1, p.st.trans (p2.st.trans w2)⟩⟩
    · exact h.elim
end
end DL

namespace DL
open PySem PySem.Spec PyProof.Rows L2

/-! ### tuple(range(..)), list(range(..)) -/
def rlMk (t : Bool) (ds : List D) : S := if t then .val (.tuple ds) else .own (.list ds)
def rl1D (t : Bool) : D → Option S
  | .int j => if lim62 j then some (rlMk t (rngD 0 1 j.toNat)) else none
  | _ => none
def rl2D (t : Bool) : D → D → Option S
  | .int i, .int j => if lim62 i && lim62 j then some (rlMk t (rngD i 1 (j - i).toNat)) else none
  | _, _ => none
theorem rg_rp {K : PySem.W.Frag} {Y : As} {H : Hp} (a b : Int) : RpAll K Y H (rgV a b) (rngD a 1 (b - a).toNat) := by
  unfold rgV rngD
  have : ∀ l : List Nat, RpAll K Y H (l.map fun i => V.int (a + (i : Nat))) (l.map fun i => PyData.int (a + (i : Nat) * 1)) := fun l => by
    induction l with
    | nil => exact .nil
    | cons i l ih => exact .cons (by show Rp K Y H (V.int (a + (i : Nat))) (PyData.int (a + (i : Nat) * 1)); rw [Int.mul_one]; exact .int _) ih
  exact this _
theorem rgok_of {a b : Int} (h : lim62 a = true) (h' : lim62 b = true) : RgOk a b := by
  unfold lim62 at h h'
  simp only [Bool.and_eq_true, decide_eq_true_eq] at h h'
  exact ⟨by omega, by omega, by omega, by omega, by omega⟩
section
variable {X : Cx}
theorem rl_res (t : Bool) {Y : As} {H : Hp} {a b : Int} {Q : VK} (yd : ∀ a, Y a → H a ≠ none) (q : Res X.w X.K Y H (rlMk t (rngD a 1 (b - a).toNat)) Q) :
    ∀ p, H p = none → Q (.ref p) (upd H p (if t then .tup (rgV a b) else .lst (rgV a b))) := by
  cases t with
  | true => exact Res.tup yd (rg_rp a b) q
  | false => exact Res.lst (rg_rp a b) q
theorem pe_rl1 (t : Bool) (hc : X.calm = true) {e : Expr} {f : FP} {p p2 pos pos2 : Pos} {x : Str} (hx : x = if t then "tuple" else "list") (hg : Gl X x) (hm : X.mg x = none) (hg2 : Gl X "range") (hm2 : X.mg "range" = none) (ha : PE X e (tFP X f)) (na : starEach [e] X.env = (false, eval e X.env) :: starEach [] X.env) :
    PE X (.Call (.Name x p) [.Call (.Name "range" p2) [e] [] pos2] [] pos) (tFE X (un1F (rl1D t) f)) := by
  have h1 := prg_1 (p := p2) (pos := pos2) hg2 hm2 ha na
  have w : ∀ σ H Q, tFE X (un1F (rl1D t) f) σ H Q → tRg1 (tFP X f) σ H fun a b H1 => RgOk a b ∧ ∀ q, H1 q = none → Q (.ref q) (upd H1 q (if t then .tup (rgV a b) else .lst (rgV a b))) := fun σ H Q h => by
    obtain ⟨Z, ρ, E, h⟩ := un_wp h
    refine ⟨Z, ρ, E, Ask.mono h fun q _ h v H1 p => ?_⟩
    obtain ⟨Y, d, s, yd, pk, g, q⟩ := h v H1 p
    unfold rl1D at g
    split at g
    · split at g
      · rename_i hl
        cases g
        cases pk.int_inv
        refine ⟨_, rfl, rgok_of (by decide) hl, rl_res t yd (by rw [Int.sub_zero]; exact q)⟩
      · cases g
    · cases g
  subst hx
  cases t with
  | true => exact (pe_tupRg hc hg hm h1).imp fun σ H Q h => w σ H Q h
  | false => exact (pe_listRg hc hg hm h1).imp fun σ H Q h => w σ H Q h
theorem pe_rl2 (t : Bool) (hc : X.calm = true) {e1 e2 : Expr} {f g : FP} {p p2 pos pos2 : Pos} {x : Str} (hx : x = if t then "tuple" else "list") (hg : Gl X x) (hm : X.mg x = none) (hg2 : Gl X "range") (hm2 : X.mg "range" = none) (ha : PE X e1 (tFP X f)) (hb : PE X e2 (tFP X g))
    (n1 : starEach [e1, e2] X.env = (false, eval e1 X.env) :: starEach [e2] X.env) (n2 : starEach [e2] X.env = (false, eval e2 X.env) :: starEach [] X.env) (n3 : (backTo pos2 (starEach [e2] X.env)).any (·.1) = false) :
    PE X (.Call (.Name x p) [.Call (.Name "range" p2) [e1, e2] [] pos2] [] pos) (tFE X (op2F (rl2D t) f g)) := by
  have h1 := prg_2 (p := p2) (pos := pos2) hg2 hm2 ha hb n1 n2 n3
  have w : ∀ σ H Q, tFE X (op2F (rl2D t) f g) σ H Q → tRg2 (tFP X f) (tFP X g) σ H fun a b H1 => RgOk a b ∧ ∀ q, H1 q = none → Q (.ref q) (upd H1 q (if t then .tup (rgV a b) else .lst (rgV a b))) := fun σ H Q h => by
    obtain ⟨Z, ρ, E, h⟩ := op2_wp h
    refine ⟨Z, ρ, E, Ask.mono h fun q _ h v H1 p => ?_⟩
    obtain ⟨Z2, ρ2, E2, h⟩ := h v H1 p
    refine ⟨Z2, ρ2, E2, Ask.mono h fun r _ h u H2 p2 => ?_⟩
    obtain ⟨Y, d, e, s, yd, pk, pk', g, q⟩ := h u H2 p2
    unfold rl2D at g
    split at g
    · split at g
      · rename_i hl
        cases g
        cases pk.int_inv
        cases pk'.int_inv
        rw [Bool.and_eq_true] at hl
        exact ⟨_, _, rfl, rfl, rgok_of hl.1 hl.2, rl_res t yd q⟩
      · cases g
    · cases g
  subst hx
  cases t with
  | true => exact (pe_tupRg hc hg hm h1).imp fun σ H Q h => w σ H Q h
  | false => exact (pe_listRg hc hg hm h1).imp fun σ H Q h => w σ H Q h
end

/-! ### sorted(set(..)) -/
def rowsD : List D → Option (List (List Int))
  | [] => some []
  | .tuple t :: r => (intsOf t).bind fun k => (rowsD r).map (k :: ·)
  | _ :: _ => none
theorem rowsD_eq : ∀ {ds : List D} {rs : List (List Int)}, rowsD ds = some rs → ds = rs.map DLr.enT
  | [], rs, h => by cases h; rfl
  | .tuple t :: r, rs, h => by
    obtain ⟨k, hk, h⟩ := Option.bind_eq_some_iff.mp (show (intsOf t).bind (fun k => (rowsD r).map (k :: ·)) = some rs from h)
    obtain ⟨cs, hc, rfl⟩ := Option.map_eq_some_iff.mp h
    rw [rowsD_eq hc, intsOf_eq hk]; rfl
  | .none :: r, bs, h => by cases h
  | .bool _ :: r, bs, h => by cases h
  | .str _ :: r, bs, h => by cases h
  | .list _ :: r, bs, h => by cases h
  | .int _ :: r, bs, h => by cases h
  | .dict _ :: r, bs, h => by cases h
@[simp] theorem rowsD_map (rs : List (List Int)) : rowsD (rs.map DLr.enT) = some rs := by
  induction rs with
  | nil => rfl
  | cons k r ih =>
    show (intsOf (k.map .int)).bind (fun k => (rowsD (r.map DLr.enT)).map (k :: ·)) = _
    rw [ih, intsOf_map]; rfl
def ssetD : D → Option S
  | .tuple ds => (intsOf ds).bind fun ns => if ns.length ≤ 62 then some (.own (.list ((DLr.sortU DLr.ltI ns).map .int))) else none
  | .list ds => (rowsD ds).bind fun rs => if rs.length ≤ 62 then some (.own (.list ((DLr.sortU DLr.ltL rs).map DLr.enT))) else none
  | _ => none
/-- a set, of ints or of tuples of ints: what it holds -/
def rSetN (K : PySem.W.Frag) (P : Program) (w : World) : List V → Hp → VK → Prop := fun xs H Q =>
  (∃ (p : Addr) (ns : List Int), xs = [V.ref p] ∧ SqT K H p (ns.map V.int) ∧ ns.length ≤ 62 ∧ ∀ a c, H a = none → c ≤ ns.length → Q (.ref a) (upd H a (SetO w a (fun j => decide (j ∈ ns)) c))) ∨ rSetOfT K P w xs H Q
theorem scan62 {n : Nat} (h : n ≤ 62) : n + 1 < scanBound := by
  unfold scanBound
  omega
section
variable {X : Cx}
theorem cr_setN (hc : X.calm = true) (hu : X.A.units + 200 < cLine) : CallR X (.type "set") (rSetN X.K X.prog X.w) := by
  intro pins s σ H xs us Q I r h
  rcases h with ⟨p, ns, rfl, hs, hn, q⟩ | h
  · rw [Vals.ref1 r]
    obtain ⟨its, rv, pl, hz⟩ := I.tuple hs
    refine call_set_tupI ns (I.ok.hd hc) (by obtain ⟨o, e, c, n, d⟩ := pl; exact ⟨o, e, c, n, d⟩) (by simpa using ints_of_vals rv) (scan62 hn) fun h' tk c R hc' k => ?_
    exact ⟨.ref s.heap.objs.size, upd H s.heap.objs.size (SetO X.w s.heap.objs.size (fun j => decide (j ∈ ns)) c), I.laid (t' := tk) k (Nat.le_refl _) (setO_new R), rfl, q _ c (I.hok.fresh (Nat.le_refl _)) hc'⟩
  · exact cr_setOfT hc (by omega) pins s σ H xs us Q I r h
def rSortS (K : PySem.W.Frag) (P : Program) (w : World) : List V → Hp → VK → Prop := fun vs H Q => rSortedSet w vs H Q ∨
  (∃ (a : Addr) (L : List (Addr × List Int)), vs = [V.ref a] ∧ H a = some (SetTO P w a L) ∧ (∀ p ∈ L, SqT K H p.1 (p.2.map V.int)) ∧
    ∀ (L' : List (Addr × List Int)) (p : Addr), L'.Perm L → L'.Pairwise (fun q r => DLr.ltL q.2 r.2 = true) → H p = none → Q (.ref p) (upd H p (.lst (L'.map fun q => V.ref q.1))))
theorem cr_sortS (hc : X.calm = true) (hu : X.A.units + 200 < cLine) : CallR X (.builtin "sorted") (rSortS X.K X.prog X.w) := by
  intro pins s σ H vs us Q I r h
  rcases h with h | ⟨a, L, rfl, ha, hk, q⟩
  · exact cr_sortedSet hc pins s σ H vs us Q I r h
  · have R0 : SetT0 X.prog X.w s.heap a L := (I.hok a _ ha).1
    obtain ⟨es, ep, t, R⟩ := R0.full fun p hp => I.isT (hk p hp)
    rw [Vals.ref1 r]
    refine DLr.sorted_setD R (I.ok.hd hc) (by omega) fun s' p out c L' k g o hp hg hout pm pw => ?_
    have hfew : L'.length < 64 := by rw [pm.length_eq]; exact R.few
    have hlen : (L'.map fun q => V.ref q.1).length ≤ sizeLine := by rw [List.length_map, sizeLine_eq]; omega
    have hn : H p = none := I.hok.fresh hp
    have hv : Vals (L'.map fun q => V.ref q.1) out.toList := by rw [hout]; exact vals_of_refs L'
    have J : Inv X pins σ (upd H p (.lst (L'.map fun q => V.ref q.1))) { s with heap := s'.heap, gens := s'.gens, drawn := s'.drawn, toks := s'.toks } :=
      I.call (ch := []) (Un.laid k hp hn) (I.hok.laid k hp ⟨hlen, out.toList, c, hv, hg⟩) (by rw [g]; exact I.bare) (fun _ z => nomatch z)
    have e : s' = { s with heap := s'.heap, gens := s'.gens, drawn := s'.drawn, toks := s'.toks } := by
      cases s'
      cases s
      cases o
      rfl
    rw [e]
    exact ⟨.ref p, _, J, rfl, q L' p pm pw hn⟩
theorem rows_at {K : PySem.W.Frag} {Y : As} {H : Hp} : ∀ {xs : List V} {rs : List (List Int)}, RpAll K Y H xs (rs.map DLr.enT) → ∃ ks : List (Addr × List Int), xs = ks.map (fun p => V.ref p.1) ∧ ks.map (·.2) = rs ∧ (∀ p ∈ ks, SqT K H p.1 (p.2.map V.int)) ∧ ∀ p ∈ ks, Rp K Y H (.ref p.1) (DLr.enT p.2)
  | _, [], .nil => ⟨[], rfl, rfl, fun p h => by (cases h), fun p h => by (cases h)⟩
  | _, k :: rs, .cons h t => by
    obtain ⟨ks, rfl, h2, h3, h4⟩ := rows_at t
    have h' := h
    obtain ⟨b, ys, rfl, sb, rb⟩ := h'.tuple_inv
    cases rb.ints
    refine ⟨(b, k) :: ks, rfl, by simp [h2], fun p hp => ?_, fun p hp => ?_⟩
    · rcases List.mem_cons.mp hp with rfl | hp
      · exact sb
      · exact h3 p hp
    · rcases List.mem_cons.mp hp with rfl | hp
      · exact h
      · exact h4 p hp
theorem sqT_same {K : PySem.W.Frag} {H H1 : Hp} {a : Addr} {xs : List V} (h : Same H H1) (q : SqT K H a xs) : SqT K H1 a xs := by
  rcases q with (q | ⟨o, q⟩) | q
  · exact .inl (.inl (h _ _ q))
  · exact .inl (.inr ⟨o, h _ _ q⟩)
  · exact .inr q
theorem ints_rp {K : PySem.W.Frag} {Y : As} {H : Hp} : ∀ ns : List Int, RpAll K Y H (ns.map V.int) (ns.map .int)
  | [] => .nil
  | n :: r => .cons (.int n) (ints_rp r)
theorem rows_rp {K : PySem.W.Frag} {Y : As} {H : Hp} : ∀ {L : List (Addr × List Int)}, (∀ p ∈ L, Rp K Y H (.ref p.1) (DLr.enT p.2)) → RpAll K Y H (L.map fun q => V.ref q.1) ((L.map (·.2)).map DLr.enT)
  | [], _ => .nil
  | p :: L, h => .cons (h p (by simp)) (rows_rp fun q hq => h q (List.mem_cons_of_mem _ hq))
theorem ltI_pair {ns : List Int} (h : ns.Pairwise (· < ·)) : ns.Pairwise (fun a b => DLr.ltI a b = true) := h.imp fun {a b} q => decide_eq_true q
theorem pe_sset (hc : X.calm = true) (hu : X.A.units + 200 < cLine) {e : Expr} {f : FP} {p p2 pos pos2 : Pos} (hg : Gl X "sorted") (hm : X.mg "sorted" = none) (hg2 : Gl X "set") (hm2 : X.mg "set" = none) (ha : PE X e (tFP X f)) (na : starEach [e] X.env = (false, eval e X.env) :: starEach [] X.env) :
    PE X (.Call (.Name "sorted" p) [.Call (.Name "set" p2) [e] [] pos2] [] pos) (tFE X (un1F ssetD f)) := by
  have h1 := pe_callTy (p := p2) (pos := pos2) (cr_setN hc hu) hg2 hm2 (by decide +kernel) (pa_cons ha pa_nil na) (by decide +kernel) (by decide +kernel) na (by rfl)
  refine (pe_callB (p := p) (pos := pos) (cr_sortS hc hu) hg hm (by decide +kernel) (pa_cons h1 pa_nil (by rfl)) (by decide +kernel) (by decide +kernel) (by rfl) (by rfl)).imp fun σ H Q h => ?_
  obtain ⟨Z, ρ, E, h⟩ := un_wp h
  refine ⟨Z, ρ, E, Ask.mono h fun q _ h v H1 p => ?_⟩
  obtain ⟨Y, d, s, yd, pk, g, q⟩ := h v H1 p
  unfold ssetD at g
  split at g
  · obtain ⟨ns, hn, g2⟩ := Option.bind_eq_some_iff.mp g
    cases intsOf_eq hn
    split at g2
    · rename_i hl
      cases g2
      obtain ⟨a, ys, rfl, sa, ra⟩ := pk.tuple_inv
      cases ra.ints
      refine .inl ⟨a, ns, rfl, sa, hl, fun b c hb hcn => .inl ⟨b, _, c, rfl, upd_same, by omega, fun ms p' hpw hmem _ hp' => ?_⟩⟩
      have e : ms = DLr.sortU DLr.ltI ns := DLr.sortU_of DLr.strictI (ltI_pair hpw) fun x => by rw [hmem x, decide_eq_true_eq]
      rw [← e] at q
      have hne : p' ≠ b := fun z => by rw [z, upd_same] at hp'; cases hp'
      have hp0 : H1 p' = none := by rw [upd_ne hne] at hp'; exact hp'
      refine q p' _ hp0 ((same_upd hb).trans (same_upd hp')) ⟨ms.map V.int, upd_same, ints_rp ms⟩
    · cases g2
  · obtain ⟨rs, hr, g2⟩ := Option.bind_eq_some_iff.mp g
    cases rowsD_eq hr
    split at g2
    · rename_i hl
      cases g2
      obtain ⟨a, ys, rfl, sa, ra⟩ := pk.list_inv
      obtain ⟨ks, rfl, rfl, k3, k4⟩ := rows_at ra
      rw [List.length_map] at hl
      refine .inr ⟨a, ks, rfl, sa, k3, by omega, fun b L hb l1 l2 => .inr ⟨b, L, rfl, upd_same, fun p hp => sqT_same (same_upd hb) (k3 p (l1 p hp)), fun L' p' pm pw hp' => ?_⟩⟩
      have e : L'.map (·.2) = DLr.sortU DLr.ltL (ks.map (·.2)) := DLr.sortU_of DLr.strictL (List.pairwise_map.mpr pw) fun x => by
        rw [(pm.map (·.2)).mem_iff]
        constructor
        · intro z
          obtain ⟨y, hy, rfl⟩ := List.mem_map.mp z
          exact List.mem_map.mpr ⟨y, l1 y hy, rfl⟩
        · intro z
          obtain ⟨y, hy, rfl⟩ := List.mem_map.mp z
          exact l2 y hy
      rw [← e] at q
      have hne : p' ≠ b := fun z => by rw [z, upd_same] at hp'; cases hp'
      have hp0 : H1 p' = none := by rw [upd_ne hne] at hp'; exact hp'
      have hs : Same H1 (upd (upd H1 b (SetTO X.prog X.w b L)) p' (.lst (L'.map fun q => V.ref q.1))) := (same_upd hb).trans (same_upd hp')
      refine q p' _ hp0 hs ⟨_, upd_same, rows_rp fun y hy => ?_⟩
      exact (k4 y (l1 y (pm.mem_iff.mp hy))).move (fun a o e _ => hs a o e) (fun a e z => z.elim id fun z => absurd hp0 (by rw [← z]; exact e)) _ _
    · cases g2
  · cases g
end
end DL

/-! dict(x), x a list or a tuple of pairs (tuple key, value) -/
namespace DLr
open PySem PyProof.Rows L2
abbrev KRow := NestedKey × Addr × Value
def putsH (acc : List KRow) (xs : List KRow) : List KRow := xs.foldl (fun acc x => storedH acc x.1 x.2.1 x.2.2) acc
theorem storedH_len (acc : List KRow) (k : NestedKey) (a : Addr) (v : Value) : (storedH acc k a v).length ≤ acc.length + 1 := by
  unfold storedH
  split <;> simp
section
variable {prog : Program} {w : World} {A : Around} {R : Result → Shared → Prop} {I : Addr} {fp wr : List Addr} {n : Nat} {P : Nat → Value → Prop} {St : Nat → Heap → Prop}
/-- a pair of a key and a value lies at b -/
def PairAt (h : Heap) (b : Addr) (x : KRow) : Prop := IsTup h b #[.ref x.2.1, x.2.2] ∧ NestedIs h x.1 (.ref x.2.1) ∧ x.1.depth ≤ 8
theorem PairAt.keep {h h' : Heap} {b : Addr} {x : KRow} (p : PairAt h b x) (k : ∀ c o, h.get? c = some o → h'.get? c = some o) : PairAt h' b x :=
  ⟨p.1.keeps k, p.2.1.at (fun a o vs n e _ => k a o e) _ _, p.2.2⟩
/-- a dict's own object -/
def RawD (w : World) (h : Heap) (d : Addr) (xs : List KRow) : Prop := ∃ o es ep, h.get? d = some o ∧ o.ExactDict ∧ o.data = .dict es ep ∧ es.toList = xs.map (fun x => (⟨x.1.hash w, .ref x.2.1, x.2.2⟩ : DictEntry)) ∧ (xs.map (·.1)).Nodup
theorem RawD.at {h h' : Heap} {d : Addr} {xs : List KRow} (r : RawD w h d xs) (k : ∀ o, h.get? d = some o → h'.get? d = some o) : RawD w h' d xs :=
  let ⟨o, es, ep, q1, q⟩ := r; ⟨o, es, ep, k o q1, q⟩
theorem RawD.full {h : Heap} {d : Addr} {xs : List KRow} (r : RawD w h d xs) (kf : ∀ x ∈ xs, NestedIs h x.1 (.ref x.2.1) ∧ x.1.depth ≤ 8) : h.DictOfH (nestedKind prog w) d xs :=
  let ⟨o, es, ep, q1, q2, q3, q4, q5⟩ := r; ⟨o, es, ep, q1, q2, q3, q4, kf, q5⟩
theorem RawD.of {h : Heap} {d : Addr} {xs : List KRow} (r : h.DictOfH (nestedKind prog w) d xs) : RawD w h d xs :=
  let ⟨o, es, ep, q1, q2, q3, q4, _, q5⟩ := r; ⟨o, es, ep, q1, q2, q3, q4, q5⟩
theorem stored_keys {acc : List KRow} {k : NestedKey} {a : Addr} {v : Value} {p : NestedKey × Addr → Prop} (h : ∀ x ∈ acc, p (x.1, x.2.1)) (hk : p (k, a)) : ∀ x ∈ storedH acc k a v, p (x.1, x.2.1) := fun x hx => by
  unfold storedH at hx
  split at hx
  · obtain ⟨y, hy, rfl⟩ := List.mem_map.mp hx
    unfold putAt
    split
    · exact h y hy
    · exact h y hy
  · rcases List.mem_append.mp hx with hx | hx
    · exact h x hx
    · rw [List.mem_singleton.mp hx]; exact hk
theorem dict_loop (W : Walks prog w A.in1 I fp wr n P St) (h0 : Heap) (S : Addr) (res : Value) (xs : List KRow) (hn : n = xs.length) (hSf : S ∉ fp) (hS0 : h0.get? S = none) (hw0 : ∀ b ∈ wr, h0.get? b = none) (hu : A.units + 20 < cLine)
    (hP : ∀ i v, P i v → ∃ b x, v = .ref b ∧ xs[i]? = some x ∧ PairAt h0 b x) :
    ∀ (k i : Nat) (s : Shared) (acc : List KRow) (ix : Int) (t : Tok), n - i = k → i ≤ n → St i s.heap → RawD w s.heap S acc → (∀ x ∈ acc, NestedIs h0 x.1 (.ref x.2.1) ∧ x.1.depth ≤ 8) → acc.length + k ≤ sizeLine →
    (∀ b o, h0.get? b = some o → s.heap.get? b = some o) →
    (∀ h' tk, RawD w h' S (putsH acc (xs.drop i)) → (∀ b o, b ∉ wr → b ≠ S → s.heap.get? b = some o → h'.get? b = some o) → R (.ok (.ret res)) { s with heap := h', toks := tk }) →
    codeAny (model prog w) A (.builtin "dict.update.loop" ⟨[.ref S, .ref I, .int ix t, res], []⟩) R s := by
  have hSw : S ∉ wr := fun z => hSf (W.sub _ z)
  have nw : ∀ b o, h0.get? b = some o → b ∉ wr := fun b o e z => by rw [hw0 b z] at e; cases e
  have nS : ∀ b o, h0.get? b = some o → b ≠ S := fun b o e z => by rw [z, hS0] at e; cases e
  intro k
  induction k with
  | zero =>
    intro i s acc ix t hk hi hst hD hkf hz hold hR
    have hin : i = n := by omega
    subst hin
    refine codeAny_builtin ud_entry ?_
    rw [Around.under_plainId ud_plain _]
    show wpAny _ A.in1 (pyNext (.ref I) >>= _) _ _ s
    refine wpAny_bind (W.done s _ _ hst fun h' tk hk' => ?_)
    show wpAny _ A.in1 (Builtin.Dict.addKeywords S [] >>= _) _ _ _
    refine wpAny_bind (wpAny_pure (wpAny_pure ?_))
    refine hR h' tk ?_ fun b o hb _ e => hk' b o hb e
    rw [hn, List.drop_length]
    exact hD.at fun o e => hk' _ _ hSw e
  | succ k ih =>
    intro i s acc ix t hk hi hst hD hkf hz hold hR
    have hlt : i < n := by omega
    refine codeAny_builtin ud_entry ?_
    rw [Around.under_plainId ud_plain _]
    show wpAny _ A.in1 (pyNext (.ref I) >>= _) _ _ s
    refine wpAny_bind (W.item i s _ _ hlt hst fun v h' tk hPv hst' hk' => ?_)
    obtain ⟨b, x, rfl, hx, hp⟩ := hP i v hPv
    have hold' : ∀ b o, h0.get? b = some o → h'.get? b = some o := fun b o e => hk' b o (nw b o e) (hold b o e)
    obtain ⟨⟨o, ho, hc, m, hd⟩, hkey, hdep⟩ := hp.keep hold'
    have hD' : RawD w h' S acc := hD.at fun o e => hk' _ _ hSw e
    have full : h'.DictOfH (nestedKind prog w) S acc := hD'.full fun y hy => ⟨(hkf y hy).1.at (fun a o vs n e _ => hold' a o e) _ _, (hkf y hy).2⟩
    show wpAny _ A.in1 (holding [Value.ref b] _ >>= _) _ _ _
    refine wpAny_bind (wpAny_holding ?_)
    refine wpAny_bind (wpAny_tryCatch ?_)
    unfold Builtin.Dict.pairItems
    refine wpAny_bind (wpAny_typeOf (T := "tuple") ⟨o, ho, hc⟩ ?_)
    rw [if_pos (by first | decide | rfl | simp)]
    refine wpAny_bind (wpAny_seqItems ho hd (wpAny_pure ?_))
    show wpAny _ A.in1 (holding [.ref x.2.1, x.2.2] (dictSet S (.ref x.2.1) x.2.2)) _ _ _
    refine wpAny_holding (wpAny_dictSet_heap (knd := nestedKind prog w) (k := x.1) (s := { s with heap := h', toks := tk }) (by show A.in1.units + 8 < cLine; simp only [Around.in1_units]; omega) ⟨hkey, hdep⟩ full (fun h2 hm2 hs2 => ?_) (by omega))
    have sl := storedH_len acc x.1 x.2.1 x.2.2
    have kx : NestedIs h0 x.1 (.ref x.2.1) ∧ x.1.depth ≤ 8 := ⟨hp.2.1, hp.2.2⟩
    refine wpAny_pure ⟨plainId_quiet ud_plain _, ih (i + 1) _ (storedH acc x.1 x.2.1 x.2.2) (ix + 1) 0 (by omega) hlt (W.frame _ _ _ hst' fun c hcf oc e => ?_) (RawD.of hm2) (stored_keys (p := fun q => NestedIs h0 q.1 (.ref q.2) ∧ q.1.depth ≤ 8) hkf kx) (by omega) (fun c oc e => ?_) fun h3 tk3 r3 k3 => ?_⟩
    · exact (hs2.2 c fun z => hSf (by rw [← z]; exact hcf)).trans e
    · exact (hs2.2 c (nS c oc e)).trans (hold' c oc e)
    · have e1 : putsH acc (xs.drop i) = putsH (storedH acc x.1 x.2.1 x.2.2) (xs.drop (i + 1)) := by
        have : xs.drop i = x :: xs.drop (i + 1) := by
          rw [List.drop_eq_getElem_cons (by omega)]
          rw [List.getElem?_eq_getElem (by omega)] at hx
          rw [Option.some.inj hx]
        rw [this]; rfl
      rw [← e1] at r3
      exact hR h3 tk3 r3 fun c oc h1 h2' e => k3 c oc h1 h2' ((hs2.2 c h2').trans (hk' c oc h1 e))
end
theorem tup_keys_none : typeLookup (.type "tuple") "keys" = pure none := am_miss_of_fast (by first | decide +kernel | rfl)
section
variable {prog : Program} {w : World} {A : Around} {E : Value → Shared → Prop} {s : Shared}
/-- a tuple has no attribute 'keys' -/
theorem miss_tup {a : Addr} {xs : Array Value} {k : Nat} {sl : Array (Option Value)} {Q : Option Value → Shared → Prop} (hx : s.heap.get? a = some { cls := .type "tuple", dict := none, data := .seq xs k, slots := sl }) (hA : A.handled = none)
    (h : ∀ h' tk, (∀ b ob, s.heap.get? b = some ob → h'.get? b = some ob) → Q none { s with heap := h', toks := tk }) : wpAny (model prog w) A (getAttr? (.ref a) "keys") Q E s := by
  obtain ⟨hp, g, d, tk, os⟩ := s
  have hT : ∀ tk', (⟨hp, g, d, tk', os⟩ : Shared).TypeIs (.ref a) "tuple" := fun _ => ⟨_, hx, rfl⟩
  have m1 := tup_keys_none
  have m2 : (["__module__", "__name__", "__qualname__", "__doc__", "__annotations__"] : List Str).contains "keys" = false := by decide +kernel
  have m3 : ("keys" : Str).length + 100 ≤ sizeLine := by first | size_fits | decide +kernel
  have f1 := sub_AttributeError
  have f3 := PySem.F.slot_tuple_getattribute.lookup
  have f4 := PySem.F.slot_tuple_getattribute.bind (.ref a)
  have f5 := am_tuple_getattr_none
  unfold getAttr? getAttrBy? getAttrBy
  repeat (any_goals (first | assumption | exact hT _ | ((with_reducible show wpAny _ _ (call (Value.builtin "tuple.__getattribute__") _ _) _ _ _); refine call_meets PySem.F.slot_tuple_getattribute (hT _) am_entry_tuple_getattribute (PySem.F.args_tuple_getattribute_2 _ _) (meets_getattribute_miss_tuple a xs k sl "keys" _ m1 m2 m3) ⟨hx, hA, fun h' tk' e hx' => ?_⟩) | wp_step))
  obtain ⟨t', u', he⟩ := hx'.there
  show wpAny _ _ (getattributeRaised _ _ _ _ _ _ _) _ _ _
  unfold getattributeRaised
  repeat (any_goals (first | assumption | wp_step))
  all_goals first | exact h _ _ hx'.keeps | (dsimp only; repeat (any_goals (first | assumption | exact h _ _ hx'.keeps | wp_step)))
/-- dict(x), x a list (t = false) or a tuple without a dict of its own -/
theorem call_dict_prs (t : Bool) {l : Addr} {items : Array Value} {m : Nat} {sl : Array (Option Value)} {prs : List KRow} {Q : Value → Shared → Prop} (hh : A.handled = none) (hu : A.units + 30 < cLine)
    (hl : s.heap.get? l = some { cls := .type (if t then "tuple" else "list"), dict := none, data := .seq items m, slots := sl }) (hsz : items.size = prs.length) (hln : prs.length ≤ sizeLine)
    (ht : ∀ (j : Nat) (v : Value), items[j]? = some v → ∃ b x, v = .ref b ∧ prs[j]? = some x ∧ PairAt s.heap b x)
    (h : ∀ h' tk, RawD w h' s.heap.objs.size (putsH [] prs) → (∀ b o, s.heap.get? b = some o → h'.get? b = some o) → Q (.ref s.heap.objs.size) { s with heap := h', toks := tk }) :
    wpAny (model prog w) A (call (.type "dict") [.ref l]) Q E s := by
  refine callType_codes (Q₁ := fun obj s₁ => obj = .ref s.heap.objs.size ∧ s₁ = { s with heap := s.heap.push { cls := .type "dict", data := .dict #[] } }) PySem.F.kt_called_dict (PySem.F.kt_typeCall_dict_1 _) PySem.F.entry_dict_init (kt_code_dict_new _ ⟨rfl, rfl⟩) ?_
  rintro obj s₁ ⟨rfl, rfl⟩
  have dnew : (s.heap.push { cls := .type "dict", data := .dict #[] }).DictOfH (nestedKind prog w) s.heap.objs.size [] := Heap.DictOfH.new s.heap
  have k0 : ∀ b o, s.heap.get? b = some o → (s.heap.push { cls := .type "dict", data := .dict #[] }).get? b = some o := fun b o e => Heap.get?_push_of_some _ e
  refine ⟨dnew.typeIs, PySem.F.args_dict_init_2 _ _, ?_⟩
  unfold Builtin.«dict.__init__»
  refine wpAny_bind ?_
  unfold Builtin.Dict.selfAndRest
  refine wpAny_bind (wpAny_notOrdered_dict dnew.typeIs ?_)
  show wpAny _ _ (pure (s.heap.objs.size, [Value.ref l])) _ _ _
  refine wpAny_pure ?_
  show wpAny _ _ (Builtin.Dict.updateFrom "dict.__init__" s.heap.objs.size (.ref l) [] .none) _ _ _
  unfold Builtin.Dict.updateFrom
  have nl : ∀ b o, s.heap.get? b = some o → b < s.heap.objs.size := fun b o e => Heap.lt_size e
  have none_at : ∀ b, s.heap.objs.size ≤ b → s.heap.get? b = none := fun b hb => by
    cases e : s.heap.get? b with
    | none => rfl
    | some o => exact absurd (nl b o e) (Nat.not_lt.mpr hb)
  cases t with
  | false =>
    refine wpAny_bind (wpAny_typeOf (T := "list") ⟨_, k0 _ _ hl, rfl⟩ ?_)
    rw [if_pos (by first | decide | rfl | simp)]
    refine wpAny_bind (miss_list (k0 _ _ hl) rfl rfl rfl hh fun h1 tk1 hk1 => ?_)
    rw [if_pos (show (none : Option Value).isNone = true from rfl)]
    refine wpAny_bind (wpAny_rule ?_)
    have hl1 : h1.IsList l items := ⟨_, hk1 _ _ (k0 _ _ hl), rfl, _, rfl⟩
    refine wpAny_bind (wpAny_pyIter_list hl1 ?_)
    have hS1 : s.heap.objs.size < h1.objs.size := Heap.lt_size (hk1 _ _ (Heap.get?_push_size (o := { cls := .type "dict", data := .dict #[] }) s.heap rfl))
    have k2 : ∀ (ob : Obj) b o, h1.get? b = some o → (h1.push ob).get? b = some o := fun ob b o e => Heap.get?_push_of_some _ e
    have hlt : l < s.heap.objs.size := Heap.lt_size hl
    have hne : l ≠ h1.objs.size := Nat.ne_of_lt (Nat.lt_trans hlt hS1)
    have hSf : s.heap.objs.size ∉ [h1.objs.size, l] := fun z => by
      rcases List.mem_cons.mp z with z | z
      · exact absurd hS1 (by rw [z]; exact Nat.lt_irrefl _)
      · exact absurd hlt (by rw [List.mem_singleton.mp z]; exact Nat.lt_irrefl _)
    have key := dict_loop (R := wants (fun r s₂ => r = .none ∧ Q (.ref s.heap.objs.size) s₂) E) (Walks.list (prog := prog) (w := w) (A := A.in1.in1) hh h1.objs.size l hne items) s.heap s.heap.objs.size .none prs hsz hSf (none_at _ (Nat.le_refl _)) (fun b hb => none_at b (by rw [List.mem_singleton.mp hb]; exact Nat.le_of_lt hS1))
      (by simp only [Around.in1_units]; omega) (fun i v hv => ht i v hv) (items.size - 0) 0 { s with heap := h1.push { cls := .type "list_iterator", data := .fields #[.ref l, .int 0 0] }, toks := tk1 } [] 0 0 rfl (Nat.zero_le _)
      ⟨⟨_, Heap.get?_push_size _ rfl, rfl, rfl⟩, hl1.at fun o e => k2 _ _ _ e⟩ ((RawD.of dnew).at fun o e => k2 _ _ _ (hk1 _ _ e)) (fun x hx => by cases hx) (by rw [hsz, Nat.sub_zero, List.length_nil, Nat.zero_add]; exact hln) (fun b o e => k2 _ _ _ (hk1 _ _ (k0 _ _ e)))
      (fun h' tk r k => ⟨rfl, h h' tk r fun b o e => k b o (fun z => absurd (nl b o e) (by rw [List.mem_singleton.mp z]; exact Nat.not_lt.mpr (Nat.le_of_lt hS1))) (Nat.ne_of_lt (nl b o e)) (k2 _ _ _ (hk1 _ _ (k0 _ _ e)))⟩)
    first
      | exact wpAny_pure ⟨plainId_quiet ud_plain _, key⟩
      | exact wpAny_bind (wpAny_pure (wpAny_pure ⟨plainId_quiet ud_plain _, key⟩))
  | true =>
    refine wpAny_bind (wpAny_typeOf (T := "tuple") ⟨_, k0 _ _ hl, rfl⟩ ?_)
    rw [if_pos (by first | decide | rfl | simp)]
    refine wpAny_bind (miss_tup (k0 _ _ hl) hh fun h1 tk1 hk1 => ?_)
    rw [if_pos (show (none : Option Value).isNone = true from rfl)]
    refine wpAny_bind (wpAny_rule ?_)
    have hl1 : h1.IsTuple l items := ⟨_, hk1 _ _ (k0 _ _ hl), rfl, _, rfl⟩
    refine wpAny_bind (wpAny_pyIter_tuple hl1 ?_)
    have hS1 : s.heap.objs.size < h1.objs.size := Heap.lt_size (hk1 _ _ (Heap.get?_push_size (o := { cls := .type "dict", data := .dict #[] }) s.heap rfl))
    have k2 : ∀ (ob : Obj) b o, h1.get? b = some o → (h1.push ob).get? b = some o := fun ob b o e => Heap.get?_push_of_some _ e
    have hlt : l < s.heap.objs.size := Heap.lt_size hl
    have hne : l ≠ h1.objs.size := Nat.ne_of_lt (Nat.lt_trans hlt hS1)
    have hSf : s.heap.objs.size ∉ [h1.objs.size, l] := fun z => by
      rcases List.mem_cons.mp z with z | z
      · exact absurd hS1 (by rw [z]; exact Nat.lt_irrefl _)
      · exact absurd hlt (by rw [List.mem_singleton.mp z]; exact Nat.lt_irrefl _)
    have key := dict_loop (R := wants (fun r s₂ => r = .none ∧ Q (.ref s.heap.objs.size) s₂) E) (Walks.tuple (prog := prog) (w := w) (A := A.in1.in1) hh h1.objs.size l hne items) s.heap s.heap.objs.size .none prs hsz hSf (none_at _ (Nat.le_refl _)) (fun b hb => none_at b (by rw [List.mem_singleton.mp hb]; exact Nat.le_of_lt hS1))
      (by simp only [Around.in1_units]; omega) (fun i v hv => ht i v hv) (items.size - 0) 0 { s with heap := h1.push { cls := .type "tuple_iterator", data := .fields #[.ref l, .int 0 0] }, toks := tk1 } [] 0 0 rfl (Nat.zero_le _)
      ⟨⟨_, Heap.get?_push_size _ rfl, rfl, rfl⟩, hl1.at fun o e => k2 _ _ _ e⟩ ((RawD.of dnew).at fun o e => k2 _ _ _ (hk1 _ _ e)) (fun x hx => by cases hx) (by rw [hsz, Nat.sub_zero, List.length_nil, Nat.zero_add]; exact hln) (fun b o e => k2 _ _ _ (hk1 _ _ (k0 _ _ e)))
      (fun h' tk r k => ⟨rfl, h h' tk r fun b o e => k b o (fun z => absurd (nl b o e) (by rw [List.mem_singleton.mp z]; exact Nat.not_lt.mpr (Nat.le_of_lt hS1))) (Nat.ne_of_lt (nl b o e)) (k2 _ _ _ (hk1 _ _ (k0 _ _ e)))⟩)
    first
      | exact wpAny_pure ⟨plainId_quiet ud_plain _, key⟩
      | exact wpAny_bind (wpAny_pure (wpAny_pure ⟨plainId_quiet ud_plain _, key⟩))
end
end DLr

namespace DL
open PySem PySem.Spec PyProof.Rows L2

/-! ### dicts with tuple keys -/
def lookD (kvs : List (D × D)) (d : D) : Option D := (kvs.find? fun kv => decide (nkey kv.1 = nkey d)).map (·.2)
def putD (kvs : List (D × D)) (d e : D) : List (D × D) := if kvs.any (fun kv => decide (nkey kv.1 = nkey d)) = true then kvs.map (fun kv => if nkey kv.1 = nkey d then (kv.1, e) else kv) else kvs ++ [(d, e)]
def keyOk (d : D) : Bool := isTupD d && (match nkey d with | some k => decide (k.depth ≤ 8) | none => false)
def pairsD : List D → Option (List (D × D))
  | [] => some []
  | .tuple [d, e] :: r => if keyOk d = true then (pairsD r).map ((d, e) :: ·) else none
  | _ :: _ => none
def mkDict (ps : List (D × D)) : List (D × D) := ps.foldl (fun acc kv => putD acc kv.1 kv.2) []
theorem keyOk_of {d : D} (h : keyOk d = true) : ∃ ts k, d = .tuple ts ∧ nkey d = some k ∧ k.depth ≤ 8 := by
  unfold keyOk at h
  rw [Bool.and_eq_true] at h
  obtain ⟨h1, h2⟩ := h
  cases d with
  | tuple ts =>
    cases e : nkey (.tuple ts) with
    | some k => rw [e] at h2; exact ⟨ts, k, rfl, rfl, of_decide_eq_true h2⟩
    | none => rw [e] at h2; cases h2
  | _ => cases h1
/-- the rows' own put -/
def stV (rows : List DRow) (k : NestedKey) (a : Addr) (v : V) : List DRow := if rows.any (fun r => decide (r.1 = k)) = true then rows.map (fun r => if r.1 = k then (r.1, r.2.1, v) else r) else rows ++ [(k, a, v)]
abbrev P1 (r : DRow) (x : DLr.KRow) : Prop := r.1 = x.1 ∧ r.2.1 = x.2.1 ∧ RelV r.2.2 x.2.2
theorem any_at (xs : List DLr.KRow) (k : NestedKey) : (atKey xs k).isSome = xs.any fun x => decide (x.1 = k) := by
  unfold atKey
  induction xs with
  | nil => rfl
  | cons x r ih =>
    rw [List.find?_cons, List.any_cons]
    cases e : decide (x.1 = k) with
    | true => rfl
    | false => simpa using ih
theorem Paired.any_eq {α β : Type} {R : α → β → Prop} {f : α → Bool} {g : β → Bool} {xs : List α} {ys : List β} (h : Paired R xs ys) (w : ∀ a b, R a b → f a = g b) : xs.any f = ys.any g := by
  induction h with
  | nil => rfl
  | cons r _ ih => rw [List.any_cons, List.any_cons, w _ _ r, ih]
theorem Paired.map2 {α β : Type} {R : α → β → Prop} {f : α → α} {g : β → β} {xs : List α} {ys : List β} (h : Paired R xs ys) (w : ∀ a b, R a b → R (f a) (g b)) : Paired R (xs.map f) (ys.map g) := by
  induction h with
  | nil => exact .nil
  | cons r _ ih => exact .cons (w _ _ r) ih
theorem Paired.snoc {α β : Type} {R : α → β → Prop} {xs : List α} {ys : List β} (h : Paired R xs ys) {a : α} {b : β} (r : R a b) : Paired R (xs ++ [a]) (ys ++ [b]) := by
  induction h with
  | nil => exact .cons r .nil
  | cons q _ ih => exact .cons q ih
theorem st_raw {rows : List DRow} {xs : List DLr.KRow} (h : Paired P1 rows xs) {k : NestedKey} {a : Addr} {v : V} {u : Value} (r : RelV v u) : Paired P1 (stV rows k a v) (storedH xs k a u) := by
  unfold stV storedH
  rw [any_at, Paired.any_eq h (f := fun r => decide (r.1 = k)) (g := fun x => decide (x.1 = k)) fun p q h => by rw [h.1]]
  split
  · refine Paired.map2 h fun p q h => ?_
    unfold putAt
    by_cases e1 : q.1 = k
    · rw [if_pos e1, if_pos (h.1.trans e1)]
      exact ⟨h.1, h.2.1, r⟩
    · rw [if_neg e1, if_neg (fun z => e1 (h.1.symm.trans z))]
      exact h
  · exact Paired.snoc h ⟨rfl, rfl, r⟩
theorem st_data {K : PySem.W.Frag} {Y : As} {H : Hp} {rows : List DRow} {kvs : List (D × D)} (h : DRows K Y H rows kvs) {k : NestedKey} {a : Addr} {v : V} {d e : D} (hk : nkey d = some k) (ht : ∃ ts, d = .tuple ts) (hd : k.depth ≤ 8) (ra : Rp K Y H (.ref a) d) (rv : Rp K Y H v e) : DRows K Y H (stV rows k a v) (putD kvs d e) := by
  unfold DRows at h ⊢
  unfold stV putD
  rw [Paired.any_eq h (f := fun r => decide (r.1 = k)) (g := fun kv => decide (nkey kv.1 = nkey d)) fun p q h => by rw [h.1, hk]; exact decide_eq_decide.mpr (by simp)]
  split
  · refine Paired.map2 h fun p q h => ?_
    by_cases e1 : p.1 = k
    · rw [if_pos e1, if_pos (by rw [h.1, hk, e1])]
      exact ⟨h.1, h.2.1, h.2.2.1, h.2.2.2.1, rv⟩
    · rw [if_neg e1, if_neg (by rw [h.1, hk]; simpa using e1)]
      exact h
  · exact Paired.snoc h ⟨hk, ht, hd, ra, rv⟩
section
variable {X : Cx}
mutual
theorem key_is {pins : List (Addr × Obj)} {σ : L2.St} {H : Hp} {s : Shared} {Y : As} (I : Inv X pins σ H s) : ∀ (d : D) (v : V) (u : Value) (k : NestedKey), Rp X.K Y H v d → RelV v u → nkey d = some k → NestedIs s.heap k u
  | .none, v, u, k, r, ru, hk => by cases r; cases hk; cases ru; exact .none
  | .bool b, v, u, k, r, ru, hk => by cases r; cases hk; cases ru; exact .bool rfl
  | .int i, v, u, k, r, ru, hk => by cases r; cases hk; obtain ⟨t, rfl⟩ := ru; exact .int _ _
  | .str x, v, u, k, r, ru, hk => by cases r; cases hk; obtain ⟨t, rfl⟩ := ru; exact .text _ _
  | .list _, v, u, k, r, ru, hk => by cases hk
  | .dict _, v, u, k, r, ru, hk => by cases hk
  | .tuple ds, v, u, k, r, ru, hk => by
    obtain ⟨ks, hks, rfl⟩ := Option.map_eq_some_iff.mp (show (nkeys ds).map .tup = some k from hk)
    obtain ⟨a, xs, rfl, sa, ra⟩ := r.tuple_inv
    cases ru
    obtain ⟨its, rv, ⟨o, ho, hc, n, hd⟩, _⟩ := I.tuple sa
    exact .tup ho hc hd (keys_are I ds xs its ks ra rv hks)
theorem keys_are {pins : List (Addr × Obj)} {σ : L2.St} {H : Hp} {s : Shared} {Y : As} (I : Inv X pins σ H s) : ∀ (ds : List D) (xs : List V) (us : List Value) (ks : List NestedKey), RpAll X.K Y H xs ds → Vals xs us → nkeys ds = some ks → NestedAll s.heap ks us
  | [], xs, us, ks, r, ru, hk => by cases r; cases ru; cases hk; exact .nil
  | d :: ds, xs, us, ks, r, ru, hk => by
    cases r with
    | cons r1 r2 =>
      cases ru with
      | cons u1 u2 =>
        obtain ⟨k, h1, h2⟩ := Option.bind_eq_some_iff.mp (show (nkey d).bind (fun k => (nkeys ds).map (k :: ·)) = some ks from hk)
        obtain ⟨ks', h3, rfl⟩ := Option.map_eq_some_iff.mp h2
        exact .cons (key_is I d _ _ k r1 u1 h1) (keys_are I ds _ _ ks' r2 u2 h3)
end
theorem Vals.two {x y : V} {us : List Value} (h : Vals [x, y] us) : ∃ u v, us = [u, v] ∧ RelV x u ∧ RelV y v := by
  cases h with
  | cons a t =>
    cases t with
    | cons b t => cases t; exact ⟨_, _, rfl, a, b⟩
/-- the pairs of a row -/
theorem prs_at {pins : List (Addr × Obj)} {σ : L2.St} {H : Hp} {s : Shared} {Y : As} (I : Inv X pins σ H s) : ∀ (ds : List D) (ps : List V) (us : List Value) (kvs : List (D × D)), RpAll X.K Y H ps ds → Vals ps us → pairsD ds = some kvs →
    ∃ (rs : List DRow) (prs : List DLr.KRow), Paired P1 rs prs ∧ Paired (fun (r : DRow) (kv : D × D) => nkey kv.1 = some r.1 ∧ (∃ ts, kv.1 = .tuple ts) ∧ r.1.depth ≤ 8 ∧ Rp X.K Y H (.ref r.2.1) kv.1 ∧ Rp X.K Y H r.2.2 kv.2) rs kvs ∧ prs.length = us.length ∧
      ∀ (j : Nat) (v : Value), us[j]? = some v → ∃ b x, v = .ref b ∧ prs[j]? = some x ∧ DLr.PairAt s.heap b x
  | [], ps, us, kvs, r, ru, hk => by cases r; cases ru; cases hk; exact ⟨[], [], .nil, .nil, rfl, fun j v e => by simp at e⟩
  | d :: ds, ps, us, kvs, r, ru, hk => by
    cases r with
    | cons r1 r2 =>
      cases ru with
      | cons u1 u2 =>
        unfold pairsD at hk
        split at hk
        · cases ‹_ :: _ = []›
        · rename_i kd vd rest heq
          cases heq
          split at hk
          · rename_i hok
            obtain ⟨kvs', h1, rfl⟩ := Option.map_eq_some_iff.mp hk
            obtain ⟨ts, k, rfl, hkk, hdp⟩ := keyOk_of hok
            obtain ⟨rs, prs, p1, p2, p3, p4⟩ := prs_at I _ _ _ kvs' r2 u2 h1
            obtain ⟨b, xs, rfl, sb, rb⟩ := r1.tuple_inv
            cases u1
            cases rb with
            | cons q1 q2 =>
              cases q2 with
              | cons q2 q3 =>
                cases q3
                obtain ⟨its, rv, pt, _⟩ := I.tuple sb
                obtain ⟨u, v, rfl, ru1, rv1⟩ := Vals.two rv
                have q1' := q1
                obtain ⟨ka, kxs, rfl, _, _⟩ := q1'.tuple_inv
                have hke := key_is I _ _ _ k q1 ru1 hkk
                cases ru1
                refine ⟨(k, ka, _) :: rs, (k, ka, v) :: prs, .cons ⟨rfl, rfl, rv1⟩ p1, .cons ⟨hkk, ⟨_, rfl⟩, hdp, q1, q2⟩ p2, by simp [p3], fun j w e => ?_⟩
                cases j with
                | zero => simp at e; subst e; exact ⟨b, _, rfl, rfl, pt, hke, hdp⟩
                | succ j => exact p4 j w (by simpa using e)
          · cases hk
        · cases hk
theorem puts_all {K : PySem.W.Frag} {Y : As} {H : Hp} : ∀ (rs : List DRow) (prs : List DLr.KRow) (kvs : List (D × D)) (rows : List DRow) (acc : List DLr.KRow) (kacc : List (D × D)), Paired P1 rs prs → DRows K Y H rs kvs → Paired P1 rows acc → DRows K Y H rows kacc →
    Paired P1 (rs.foldl (fun acc r => stV acc r.1 r.2.1 r.2.2) rows) (DLr.putsH acc prs) ∧ DRows K Y H (rs.foldl (fun acc r => stV acc r.1 r.2.1 r.2.2) rows) (kvs.foldl (fun acc kv => putD acc kv.1 kv.2) kacc)
  | [], [], [], rows, acc, kacc, .nil, .nil, h1, h2 => ⟨h1, h2⟩
  | r :: rs, x :: prs, kv :: kvs, rows, acc, kacc, .cons p t, .cons q u, h1, h2 => by
    have s1 := st_raw h1 (k := r.1) (a := r.2.1) p.2.2
    have e : storedH acc r.1 r.2.1 x.2.2 = storedH acc x.1 x.2.1 x.2.2 := by rw [p.1, p.2.1]
    rw [e] at s1
    exact puts_all rs prs kvs _ _ _ t u s1 (st_data h2 q.1 q.2.1 q.2.2.1 q.2.2.2.1 q.2.2.2.2)
theorem puts_len : ∀ (prs acc : List DLr.KRow), (DLr.putsH acc prs).length ≤ acc.length + prs.length
  | [], acc => Nat.le_refl _
  | x :: prs, acc => by
    have h1 := puts_len prs (storedH acc x.1 x.2.1 x.2.2)
    have h2 := DLr.storedH_len acc x.1 x.2.1 x.2.2
    show (DLr.putsH (storedH acc x.1 x.2.1 x.2.2) prs).length ≤ _
    rw [List.length_cons]
    omega
theorem dcO_new {H : Hp} {h : Heap} {a : Addr} {rows : List DRow} (R : DcR X.w a rows h) : ObjOk X.prog X.w H h a (DcO X.w a rows) := by
  refine ⟨R, ?_, fun h1 h2 r k => ?_⟩
  · obtain ⟨_, _, xs, _, o, es, ep, ho, _⟩ := R
    exact ⟨o, ho⟩
  · obtain ⟨r1, r2, xs, r3, o, es, ep, ho, r4⟩ := r
    exact ⟨r1, r2, xs, r3, o, es, ep, k o ho, r4⟩
/-- dict(x) -/
def rDct (ω : World) (K : PySem.W.Frag) : List V → Hp → VK → Prop := fun vs H Q => ∃ (Y : As) (a : Addr) (ps : List V) (ds : List D) (kvs : List (D × D)), vs = [V.ref a] ∧ (∀ a, Y a → H a ≠ none) ∧ (SqL K H a ps ∨ ∃ o, H a = some (.frz o (.tup ps)) ∧ o.dict = none) ∧ RpAll K Y H ps ds ∧ pairsD ds = some kvs ∧
  Res ω K Y H (.own (.dict (mkDict kvs))) Q
theorem cr_dct (hc : X.calm = true) (hu : X.A.units + 200 < cLine) : CallR X (.type "dict") (rDct X.w X.K) := by
  intro pins s σ H xs us Q I r h
  obtain ⟨Y, a, ps, ds, kvs, rfl, yd, hs, ra, hp, q⟩ := h
  rw [Vals.ref1 r]
  have key : ∃ (t : Bool) (its : List Value) (m : Nat) (sl : Array (Option Value)), s.heap.get? a = some { cls := .type (if t then "tuple" else "list"), dict := none, data := .seq its.toArray m, slots := sl } ∧ Vals ps its ∧ ps.length ≤ sizeLine := by
    rcases hs with hs | ⟨o, hs, hd⟩
    · obtain ⟨its, rv, ⟨⟨c, dd, dat, sl⟩, n, ho, h1, h2, h3⟩, hz⟩ := I.list hs
      simp only at h1 h2 h3
      subst h1 h2 h3
      exact ⟨false, its, n, sl, ho, rv, hz⟩
    · obtain ⟨ho, hz, its, rv, o', ho', hc', n, hd'⟩ := (show ObjOk X.prog X.w H s.heap a (.frz o (.tup ps)) from I.hok a _ hs)
      rw [ho] at ho'
      cases ho'
      obtain ⟨c, dd, dat, sl⟩ := o
      simp only at hd hc' hd'
      subst hd hc' hd'
      exact ⟨true, its, n, sl, ho, rv, hz⟩
  obtain ⟨t, its, m, sl, ho, rv, hz⟩ := key
  obtain ⟨rs, prs, p1, p2, p3, p4⟩ := prs_at I ds ps its kvs ra rv hp
  have hlen : prs.length ≤ sizeLine := by rw [p3, ← rv.length]; exact hz
  refine DLr.call_dict_prs t (prs := prs) (I.ok.hd hc) (by omega) ho (by simpa using p3.symm) hlen (fun j v e => p4 j v (by simpa using e)) fun h' tk R k => ?_
  obtain ⟨f1, f2⟩ := puts_all rs prs kvs [] [] [] p1 p2 .nil .nil
  have hl2 : (rs.foldl (fun acc r => stV acc r.1 r.2.1 r.2.2) []).length ≤ sizeLine := by
    rw [Paired.length f1]
    have := puts_len prs []
    rw [List.length_nil, Nat.zero_add] at this
    exact Nat.le_trans this hlen
  obtain ⟨o, es, ep, o1, o2, o3, o4, o5⟩ := R
  have hn : H s.heap.objs.size = none := I.hok.fresh (Nat.le_refl _)
  refine ⟨.ref s.heap.objs.size, upd H s.heap.objs.size (DcO X.w s.heap.objs.size (rs.foldl (fun acc r => stV acc r.1 r.2.1 r.2.2) [])), I.laid (t' := tk) k (Nat.le_refl _) (dcO_new ⟨hl2, beq_eq_false_iff_ne.mpr (Nat.ne_of_gt I.big), _, f1, o, es, ep, o1, o2, o3, o4, o5⟩), rfl, ?_⟩
  refine q _ _ hn (same_upd hn) ⟨_, upd_same, f2.move (fun a o e _ => same_upd hn a o e) (fun a e z => z.elim id fun z => absurd hn (by rw [← z]; exact e))⟩
end

def dctLD : D → Option S
  | .list ds => (pairsD ds).map fun kvs => .own (.dict (mkDict kvs))
  | _ => none
/-- dict(t), t an own tuple -/
def dctTF (k : Nat) : FE := fun ρ => match (ρ[k]?).bind S.mine with
  | some (.tuple ds) => (R.of (pairsD ds)).bind fun kvs => .ok (.own (.dict (mkDict kvs)), ρ)
  | _ => .stuck
/-- d.get(x, y) -/
def dgetF (k : Nat) (f g : FP) : FE := fun ρ => (R.of (((ρ[k]?).bind S.mine).bind fun d => if isDict d = true then some d else none)).bind fun _ => (f ρ).bind fun p => (g p.2).bind fun q => (R.of (p.1.get q.2)).bind fun kd => (R.of (q.1.get q.2)).bind fun dd => match (q.2[k]?).bind S.mine with
  | some (.dict kvs) => if keyOk kd = true then (match q.1 with
    | .dv _ => .ok (.val ((lookD kvs kd).getD dd), q.2)
    | _ => .stuck) else .stuck
  | _ => .stuck
section
variable {X : Cx}
theorem pe_dctL (hc : X.calm = true) (hu : X.A.units + 200 < cLine) {e : Expr} {f : FP} {p pos : Pos} (hg : Gl X "dict") (hm : X.mg "dict" = none) (ha : PE X e (tFP X f)) (na : starEach [e] X.env = (false, eval e X.env) :: starEach [] X.env) :
    PE X (.Call (.Name "dict" p) [e] [] pos) (tFE X (un1F dctLD f)) := by
  refine (pe_callTy (p := p) (pos := pos) (cr_dct hc hu) hg hm (by decide +kernel) (pa_cons ha pa_nil na) (by decide +kernel) (by decide +kernel) na (by rfl)).imp fun σ H Q h => ?_
  obtain ⟨Z, ρ, E, h⟩ := un_wp h
  refine ⟨Z, ρ, E, Ask.mono h fun q _ h v H1 p => ?_⟩
  obtain ⟨Y, d, s, yd, pk, g, q⟩ := h v H1 p
  unfold dctLD at g
  split at g
  · obtain ⟨kvs, hk, rfl⟩ := Option.map_eq_some_iff.mp g
    obtain ⟨a, ys, rfl, sa, ra⟩ := pk.list_inv
    exact ⟨Y, a, ys, _, kvs, rfl, yd, .inl sa, ra, hk, q⟩
  · cases g
theorem pe_dctT (hc : X.calm = true) (hu : X.A.units + 200 < cLine) {k : Nat} {x : Str} {px p pos : Pos} (hN : X.N[k]? = some x) (hv : Vis X.env.scope x) (hd : (x == ("__debug__" : Str)) = false) (hcd : (x == ("__classdict__" : Str)) = false) (hg : Gl X "dict") (hm : X.mg "dict" = none) :
    PE X (.Call (.Name "dict" p) [.Name x px] [] pos) (tFE X (dctTF k)) := by
  refine (pe_callTy (p := p) (pos := pos) (cr_dct hc hu) hg hm (by decide +kernel) (pa_cons (pe_var hN hv hd hcd) pa_nil (by rfl)) (by decide +kernel) (by decide +kernel) (by rfl) (by rfl)).imp fun σ H Q h => ?_
  obtain ⟨Z, ρ, E, h⟩ := h
  unfold dctTF at h
  split at h
  · rename_i ds hs
    obtain ⟨s, h1, h2⟩ := Option.bind_eq_some_iff.mp hs
    obtain ⟨kvs, hk, h⟩ := (Ask.bind h).of
    obtain ⟨a, e1, o, xs, e2, e3, ra⟩ := E.own k s _ h1 h2
    exact ⟨.ref a, e1, YY Z ρ σ, a, xs, ds, kvs, rfl, E.yd, .inr ⟨o, e2, e3⟩, ra, hk, Res.post E Stp.refl rfl h⟩
  · exact h.elim
/-- a dict's raw object -/
theorem dc_raw {pins : List (Addr × Obj)} {σ : L2.St} {H : Hp} {s : Shared} {Y : As} {a : Addr} {rows : List DRow} {kvs : List (D × D)} (I : Inv X pins σ H s) (ha : H a = some (DcO X.w a rows)) (hr : DRows X.K Y H rows kvs) :
    ∃ xs : List DLr.KRow, Paired P1 rows xs ∧ s.heap.DictOfH (nestedKind X.prog X.w) a xs ∧ (a == sysModules) = false ∧ rows.length ≤ sizeLine := by
  obtain ⟨h1, h2, xs, h3, o, es, ep, o1, o2, o3, o4, o5⟩ := (show ObjOk X.prog X.w H s.heap a (DcO X.w a rows) from I.hok a _ ha).1
  refine ⟨xs, h3, ⟨o, es, ep, o1, o2, o3, o4, fun x hx => ?_, o5⟩, h2, h1⟩
  have : ∀ {rows : List DRow} {xs : List DLr.KRow} {kvs : List (D × D)}, Paired P1 rows xs → DRows X.K Y H rows kvs → ∀ x ∈ xs, NestedIs s.heap x.1 (.ref x.2.1) ∧ x.1.depth ≤ 8 := fun {rows xs kvs} p => by
    induction p generalizing kvs with
    | nil => intro _ x hx; cases hx
    | cons r _ ih =>
      intro q x hx
      cases q with
      | cons q1 q2 =>
        rcases List.mem_cons.mp hx with rfl | hx
        · refine ⟨?_, by rw [← r.1]; exact q1.2.2.1⟩
          rw [← r.2.1]
          exact key_is I _ _ _ _ q1.2.2.2.1 rfl (by rw [← r.1]; exact q1.1)
        · exact ih q2 x hx
  exact this h3 hr x hx
theorem look_at {K : PySem.W.Frag} {Y : As} {H : Hp} {d : D} {k : NestedKey} (hk : nkey d = some k) : ∀ {rows : List DRow} {xs : List DLr.KRow} {kvs : List (D × D)}, Paired P1 rows xs → DRows K Y H rows kvs →
    (lookD kvs d = none ∧ (atKey xs k).map (·.2) = none) ∨ ∃ e v u, lookD kvs d = some e ∧ (atKey xs k).map (·.2) = some u ∧ RelV v u ∧ Rp K Y H v e
  | [], _, _, .nil, .nil => .inl ⟨rfl, rfl⟩
  | r :: rows, x :: xs, kv :: kvs, .cons p t, .cons q u => by
    by_cases e : x.1 = k
    · refine .inr ⟨kv.2, r.2.2, x.2.2, ?_, ?_, p.2.2, q.2.2.2.2⟩
      · unfold lookD
        rw [List.find?_cons_of_pos (by rw [q.1, hk, p.1, e]; simp)]
        rfl
      · unfold atKey
        rw [List.find?_cons_of_pos (by simpa using e)]
        rfl
    · have e1 : lookD (kv :: kvs) d = lookD kvs d := by
        unfold lookD
        rw [List.find?_cons_of_neg (by rw [q.1, hk, p.1]; simpa using e)]
      have e2 : atKey (x :: xs) k = atKey xs k := by
        unfold atKey
        rw [List.find?_cons_of_neg (by simpa using e)]
      rw [e1, e2]
      exact look_at hk t u
theorem pe_dgetF (hu : X.A.units + 200 < cLine) {k : Nat} {x : Str} {e1 e2 : Expr} {f g : FP} {p apos cpos : Pos} (hN : X.N[k]? = some x) (hv : Vis X.env.scope x) (hd : (x == ("__debug__" : Str)) = false) (hcd : (x == ("__classdict__" : Str)) = false) (ha : PE X e1 (tFP X f)) (hb : PE X e2 (tFP X g)) (m : M2 X (.Name x p) "get" apos e1 e2 cpos) :
    PE X (.Call (.Attribute (.Name x p) "get" apos) [e1, e2] [] cpos) (tFE X (dgetF k f g)) := by
  refine ⟨fun pins s σ H Q I h => ?_⟩
  obtain ⟨Z, ρ, E, h⟩ := h
  obtain ⟨d0, h0, h⟩ := (Ask.bind h).of
  obtain ⟨d1, h0, hd0⟩ := Option.bind_eq_some_iff.mp h0
  obtain ⟨s0, hs0, hm0⟩ := Option.bind_eq_some_iff.mp h0
  obtain ⟨a, ea, oa⟩ := E.own k s0 d1 hs0 hm0
  split at hd0
  case isFalse => cases hd0
  rename_i hdd
  cases hd0
  cases d0 with
  | dict kvs0 =>
    obtain ⟨rows, r1, r2⟩ := oa
    refine wpAny_Call_method m.base m.few m.line PySem.F.plainAttrs_dict PySem.F.slot_dict_get PySem.F.type_dict_get (thn ((pe_var hN hv hd hcd).run pins s σ H (fun x H1 => x = V.ref a ∧ H1 = H) I ⟨.ref a, ea, rfl, rfl⟩) fun u s1 ⟨y, H1, I1, ry, ey, eH⟩ => ?_)
    subst ey eH
    cases ry
    obtain ⟨xs, _, dof, _, _⟩ := dc_raw I1 r1 r2
    refine ⟨dof.typeIs, fun b q => ?_, ?_⟩
    · cases q
      obtain ⟨ob, _, _, o1, o2, _⟩ := dof
      exact ⟨ob, o1, o2.2.1⟩
    rw [m.trees]
    have h1 : tFP X f σ H1 fun y H2 => tFP X g σ H2 fun z H3 => ∃ kd kvs rows Y, Rp X.K Y H3 y kd ∧ keyOk kd = true ∧ H3 a = some (DcO X.w a rows) ∧ DRows X.K Y H3 rows kvs ∧ ∃ dd, Rp X.K Y H3 z dd ∧ ∀ v, Rp X.K Y H3 v ((lookD kvs kd).getD dd) → Q v H3 := by
      refine ⟨Z, ρ, E, (Ask.bind h).mono fun p _ h v H2 pp => ⟨Z, p.2, pp.er, (Ask.bind h).mono fun q _ h w H3 qq => ?_⟩⟩
      obtain ⟨kd, hkd, h⟩ := (Ask.bind h).of
      obtain ⟨dd, hdd, h⟩ := (Ask.bind h).of
      split at h
      · rename_i kvs hk
        split at h
        · rename_i hok
          obtain ⟨s2, hs2, hm2⟩ := Option.bind_eq_some_iff.mp hk
          obtain ⟨a2, ea2, rows2, r1', r2'⟩ := qq.er.own k s2 _ hs2 hm2
          rw [ea] at ea2
          cases ea2
          have pk := (pp.rp.step qq.st).get qq.er hkd
          obtain ⟨ts, kk, rfl, _, _⟩ := keyOk_of hok
          have rp := qq.rp
          obtain ⟨q1, q2⟩ := q
          cases q1 with
          | dv dd' =>
            cases hdd
            exact ⟨_, kvs, rows2, YY Z q2 σ, pk.tuple_sh, hok, r1', r2', _, rp, fun v hv => h v H3 ⟨qq.er, pp.st.trans qq.st, hv⟩⟩
          | «at» i => exact h.elim
        · exact h.elim
      · exact h.elim
    refine Calls.callWith_builtin rfl (Calls.evalArgs_plain (Calls.spliced_cons (thn (ha.run pins s1 σ H1 _ I1 h1) fun iv s2 ⟨y, H2, I2, ry, q2⟩ =>
      Calls.spliced_cons (thn (hb.run pins s2 σ H2 _ I2 q2) fun fv s3 ⟨z, H3, I3, rz, kd, kvs, rows3, Y, t1, t2, t3, t4, dd, t5, q3⟩ => Calls.spliced_nil ?_))))
    obtain ⟨xs3, p1, dof3, sm, _⟩ := dc_raw I3 t3 t4
    obtain ⟨ts, kk, rfl, hkk, hdp⟩ := keyOk_of t2
    have t1' := t1
    obtain ⟨ka, kxs, rfl, _, _⟩ := t1'.tuple_inv
    have hki := key_is I3 _ _ _ kk t1 ry hkk
    cases ry
    refine call_meetsIn PySem.F.slot_dict_get dof3.typeIs PySem.F.entry_dict_get (PySem.F.args_dict_get_3 _ _ _) (meetsH_dict_get_default (nestedKind X.prog X.w) a ka sm fv) ⟨by show X.A.in1.units + 8 < cLine; simp only [Around.in1_units]; omega, kk, xs3, ⟨hki, hdp⟩, dof3, ?_⟩
    rcases look_at hkk p1 t4 with ⟨l1, l2⟩ | ⟨e, v, u, l1, l2, l3, l4⟩
    · rw [l1] at q3
      rw [l2]
      exact ⟨z, H3, I3.tok _, rz, q3 z t5⟩
    · rw [l1] at q3
      rw [l2]
      exact ⟨v, H3, I3.tok _, l3, q3 v l4⟩
  | _ => cases hdd
end
end DL

namespace DL
open PySem PySem.Spec PyProof.Rows L2
section
variable {X : Cx}
/-- a, b = e, f where a name is a cell: by way of a tuple -/
theorem ps_tupF {i j : Nat} {x y : Str} {a b : Expr} {f : FLS} {px py pt pos : Pos} {kt k2 pt2} (hc : X.calm = true) (hN : X.N.Nodup) (hi : X.N[i]? = some x) (hj : X.N[j]? = some y)
    (hx : L2.Loc X.env.scope x) (hy : L2.Loc X.env.scope y) (hfx : X.fn x = true ∨ X.env.scope.names.lookup x = some .local) (hfy : X.fn y = true ∨ X.env.scope.names.lookup y = some .local) (ha : PA X [a, b] (tFLS X f))
    (hw : swappedStores [.Tuple [.Name x px, .Name y py] kt pt] (.Tuple [a, b] k2 pt2) X.env = pure none)
    (hs : swapsWithSole [.Tuple [.Name x px, .Name y py] kt pt] (.Tuple [a, b] k2 pt2) pos.line X.env = pure false) :
    PS X (.Assign [.Tuple [.Name x px, .Name y py] kt pt] (.Tuple [a, b] k2 pt2) pos) (tFS X (parF [i, j] f)) :=
  (ps_asg (pe_tup ha) (pg_tup hc (pgs_cons (pg_name hN hi hx hfx) (pgs_cons (pg_name hN hj hy hfy) pgs_nil))) hs hw).imp fun D σ H h => by
    obtain ⟨Z, ρ, E, h⟩ := h
    refine ⟨Z, ρ, E, (Ask.bind h).mono fun q _ h vs H1 p => ?_⟩
    obtain ⟨hl, h⟩ := h.ite
    have hl := of_decide_eq_true hl
    obtain ⟨A, E1, t1, nd, fr, its⟩ := p.ex
    have lv := its.len
    rw [hl] at lv
    refine ⟨by rw [lv, sizeLine_eq]; show 2 ≤ _; omega, fun p hp => ⟨p, vs, rfl, .inl (.inl upd_same), lv, ?_⟩⟩
    have sm : Same H1 (upd H1 p (.tup vs)) := same_upd hp
    obtain ⟨P1, P2⟩ := put_all [i, j] (E1.same sm) (t1.trans (Stp.same sm)) nd fr (its.move (fun a o e _ => sm a o e) (fun a _ o e => sm a o e) fun _ _ z => z) (fun _ z => z)
    match vs, lv with
    | [v, w], _ => exact ⟨v, [w], rfl, w, [], rfl, rfl, h _ _ ⟨P1, P2⟩⟩
end
end DL

/-! set | set: a table laid anew always has room (masks 7, 15, 31, 63, 127) -/
namespace DLr
open PySem PyProof.Rows L2
def Mk (m : Nat) : Prop := m = 7 ∨ m = 15 ∨ m = 31 ∨ m = 63 ∨ m = 127
def mkTest (n : Nat) : Bool := (lcgN n (n + 1) == 0) && (List.range (n + 1)).all fun j => (List.range (n + 1)).any fun b => lcgN n b == j
theorem mk_test {m : Nat} (h : Mk m) : mkTest m = true := by
  rcases h with h | h | h | h | h <;> subst h <;> decide +kernel
theorem mk_zero {m : Nat} (h : Mk m) : lcgN m (m + 1) = 0 := by
  have := mk_test h
  unfold mkTest at this
  rw [Bool.and_eq_true] at this
  exact beq_iff_eq.mp this.1
theorem mk_some {m : Nat} (h : Mk m) {j : Nat} (hj : j ≤ m) : ∃ b, b ≤ m ∧ lcgN m b = j := by
  have := mk_test h
  unfold mkTest at this
  rw [Bool.and_eq_true] at this
  obtain ⟨b, hb, e⟩ := List.any_eq_true.mp (List.all_eq_true.mp this.2 j (List.mem_range.mpr (by omega)))
  exact ⟨b, by have := List.mem_range.mp hb; omega, beq_iff_eq.mp e⟩
theorem mk_turn {m : Nat} (h : Mk m) : ∀ k, lcgN m (m + 1 + k) = lcgN m k := fun k => by
  induction k with
  | zero => exact mk_zero h
  | succ k ih =>
    show (lcgN m (m + 1 + k) * 5 + 1) % (m + 1) = (lcgN m k * 5 + 1) % (m + 1)
    rw [ih]
theorem mk_meet {m : Nat} (h : Mk m) {i j : Nat} (hi : i ≤ m) (hj : j ≤ m) : ∃ k, k ≤ m ∧ lcgI m i k = j := by
  obtain ⟨a, a1, rfl⟩ := mk_some h hi
  obtain ⟨b, b1, b2⟩ := mk_some h hj
  by_cases c : a ≤ b
  · exact ⟨b - a, by omega, by rw [lcgN_add, show a + (b - a) = b by omega]; exact b2⟩
  · exact ⟨b + (m + 1) - a, by omega, by rw [lcgN_add, show a + (b + (m + 1) - a) = m + 1 + b by omega, mk_turn h]; exact b2⟩
theorem mk_run {m : Nat} (h : Mk m) (x : Int) {j : Nat} (hj : j ≤ m) : ∃ n, n ≤ m + 12 ∧ runI m (SetTable.bits x) n = j := by
  obtain ⟨k, k1, k2⟩ := mk_meet h (runI_le m (SetTable.bits x) 12) hj
  exact ⟨12 + k, by omega, by rw [runI_tail (bits_lt x)]; exact k2⟩
/-- a free slot is found when some run begins at one -/
theorem free_some (m : Nat) (owner : Array (Option Nat)) : ∀ (f n i b : Nat), n < f → (oAt owner (itL m i b n).1).isNone = true → ∃ j, SetTable.layClean.free m owner f i b = some j ∧ (oAt owner j).isNone = true
  | 0, n, i, b, h, _ => absurd h (Nat.not_lt_zero _)
  | f + 1, n, i, b, h, hn => by
    rw [free_succ]
    cases q : (List.range (SetTable.runEnd m i + 1 - i)).find? fun k => (oAt owner (i + k)).isNone with
    | some k => exact ⟨i + k, rfl, List.find?_some (p := fun k => (oAt owner (i + k)).isNone) q⟩
    | none =>
      cases n with
      | zero =>
        have hge := runEnd_ge m i
        have := List.find?_eq_none.mp q 0 (List.mem_range.mpr (by omega))
        exact absurd hn this
      | succ n => exact free_some m owner f n _ _ (by omega) hn
/-- who sits where -/
structure Oc (m n : Nat) (owner : Array (Option Nat)) : Prop where
  sz : owner.size = m + 1
  all : ∀ k, k < n → ∃ j, j ≤ m ∧ oAt owner j = some k
  ps : ∃ ps : List Nat, ps.length = n ∧ ∀ j, j ≤ m → oAt owner j ≠ none → j ∈ ps
theorem Oc.le {m n j : Nat} {owner : Array (Option Nat)} (W : Oc m n owner) (h : (oAt owner j).isNone = true) : j < owner.size := by
  by_cases c : j < owner.size
  · exact c
  · have : oAt owner j = some 0 := by
      show owner.getD j (some 0) = some 0
      rw [Array.getD_eq_getD_getElem?, Array.getElem?_eq_none (by omega)]
      rfl
    rw [this] at h
    cases h
theorem Oc.put {m n : Nat} (hm : Mk m) {owner : Array (Option Nat)} (W : Oc m n owner) (hl : n ≤ m) (x : Int) :
    ∃ j, SetTable.layClean.free m owner (SetTable.turns m) (SetTable.bits x % (m + 1)) (SetTable.bits x) = some j ∧ Oc m (n + 1) (owner.setIfInBounds j (some n)) := by
  obtain ⟨ps, p1, p2⟩ := W.ps
  obtain ⟨j0, h0, hn0⟩ := st_missing ps (m + 1) (by omega)
  have f0 : (oAt owner j0).isNone = true := by
    cases z : oAt owner j0 with
    | none => rfl
    | some k => exact absurd (p2 j0 (by omega) (by rw [z]; exact fun e => nomatch e)) hn0
  obtain ⟨r, r1, r2⟩ := mk_run hm x (show j0 ≤ m by omega)
  obtain ⟨j, j1, j2⟩ := free_some m owner (SetTable.turns m) r _ _ (by unfold SetTable.turns; omega) (show (oAt owner (itL m (SetTable.bits x % (m + 1)) (SetTable.bits x) r).1).isNone = true by rw [itL_run]; show (oAt owner (runI m (SetTable.bits x) r)).isNone = true; rw [r2]; exact f0)
  have jl := W.le j2
  have jm : j ≤ m := by have := W.sz; omega
  have jn : oAt owner j = none := by simpa using j2
  refine ⟨j, j1, by rw [Array.size_setIfInBounds]; exact W.sz, fun k hk => ?_, j :: ps, by simp [p1], fun i hi e => ?_⟩
  · by_cases c : k < n
    · obtain ⟨i, i1, i2⟩ := W.all k c
      exact ⟨i, i1, by rw [oAt_set_ne _ (fun z => by rw [z, jn] at i2; cases i2)]; exact i2⟩
    · exact ⟨j, jm, by rw [oAt_set_self _ jl, show k = n by omega]⟩
  · by_cases c : i = j
    · simp [c]
    · rw [oAt_set_ne _ c] at e
      exact List.mem_cons_of_mem _ (p2 i hi e)
theorem oc_fold {m : Nat} (hm : Mk m) : ∀ (l : List Int) (n : Nat) (owner : Array (Option Nat)), Oc m n owner → n + l.length ≤ m → ∃ o2, l.foldl (stepF m) (some (owner, n)) = some (o2, n + l.length) ∧ Oc m (n + l.length) o2
  | [], n, owner, W, _ => ⟨owner, rfl, W⟩
  | x :: l, n, owner, W, h => by
    rw [List.length_cons] at h
    obtain ⟨j, j1, j2⟩ := W.put hm (by omega) x
    obtain ⟨o2, q1, q2⟩ := oc_fold hm l (n + 1) _ j2 (by omega)
    refine ⟨o2, ?_, ?_⟩
    · rw [List.foldl_cons, stepF_some j1, q1, List.length_cons, show n + 1 + l.length = n + (l.length + 1) by omega]
    · rw [List.length_cons, show n + (l.length + 1) = n + 1 + l.length by omega]
      exact q2
theorem oc_zero (m : Nat) : Oc m 0 (Array.replicate (m + 1) none) :=
  ⟨by simp, fun k h => absurd h (Nat.not_lt_zero _), [], rfl, fun j hj e => absurd (oAt_init hj) e⟩
theorem clean_ok {m : Nat} (hm : Mk m) {hs : Array Int} (h : hs.size ≤ m) : ∃ o, SetTable.layClean m hs = some o ∧ Oc m hs.size o := by
  obtain ⟨o, q1, q2⟩ := oc_fold hm hs.toList 0 _ (oc_zero m) (by rw [Array.length_toList]; omega)
  rw [Nat.zero_add, Array.length_toList] at q2
  exact ⟨o, by rw [layClean_eq, q1]; rfl, q2⟩
/-- a table laid: as many places, in order; the elements' order a rearrangement -/
theorem laid_ok {m fi mv : Nat} {led pl : Bool} (hm : Mk m) {hs : Array Int} (h : hs.size ≤ m) :
    ∃ place order, SetTable.laid m fi mv led pl hs = some (⟨m, place, #[], fi, led, mv, pl⟩, order) ∧ order.toList.Perm (List.range hs.size) ∧ Ris place.toList ∧ place.size = hs.size := by
  obtain ⟨o, q1, W⟩ := clean_ok hm h
  have e : SetTable.laid m fi mv led pl hs = some (⟨m, ((liveOf m o).map (·.1)).toArray, #[], fi, led, mv, pl⟩, ((liveOf m o).map (·.2)).toArray) := by
    unfold SetTable.laid
    rw [q1]
    rfl
  have ris := ris_live (fun j => o.getD j none) (List.range (m + 1)) (by
    unfold Ris
    first | exact List.pairwise_lt_range | exact List.pairwise_lt_range _)
  have r1 : Ris ((liveOf m o).map (·.1)) := ris.1
  have nd : ((liveOf m o).map (·.1)).Nodup := List.Pairwise.imp (fun h => Nat.ne_of_lt h) r1
  have in2 : ∀ k, k < hs.size → k ∈ (liveOf m o).map (·.2) := fun k hk => by
    obtain ⟨j, b1, b2⟩ := W.all k hk
    exact List.mem_map.mpr ⟨(j, k), (mem_live W.sz).2 ⟨b1, b2⟩, rfl⟩
  have hlen : (liveOf m o).length = hs.size := by
    obtain ⟨ps, p1, p2⟩ := W.ps
    have u := nat_nodup_len ((liveOf m o).map (·.1)) ps nd fun x hx => by
      obtain ⟨⟨y, k⟩, hq, rfl⟩ := List.mem_map.mp hx
      obtain ⟨b1, b2⟩ := (mem_live W.sz).1 hq
      exact p2 y b1 (by rw [b2]; exact fun z => nomatch z)
    have v := nat_nodup_len (List.range hs.size) ((liveOf m o).map (·.2)) List.nodup_range fun k hk => in2 k (List.mem_range.mp hk)
    rw [List.length_map, p1] at u
    rw [List.length_map, List.length_range] at v
    omega
  exact ⟨_, _, e, perm_range _ _ (by show ((liveOf m o).map (·.2)).length = _; rw [List.length_map]; exact hlen) in2, r1, by rw [List.size_toArray, List.length_map]; exact hlen⟩
theorem above_mk : ∀ w, w ≤ 126 → Mk (SetTable.sizeAbove w - 1) ∧ w ≤ SetTable.sizeAbove w - 1 ∧ SetTable.sizeAbove w ≤ 128 := by
  have : ((List.range 127).all fun w => (SetTable.sizeAbove w - 1 == 7 || SetTable.sizeAbove w - 1 == 15 || SetTable.sizeAbove w - 1 == 31 || SetTable.sizeAbove w - 1 == 63 || SetTable.sizeAbove w - 1 == 127) && decide (w ≤ SetTable.sizeAbove w - 1) && decide (SetTable.sizeAbove w ≤ 128)) = true := by decide +kernel
  intro w hw
  have q := List.all_eq_true.mp this w (List.mem_range.mpr (by omega))
  simp only [Bool.and_eq_true, Bool.or_eq_true, beq_iff_eq, decide_eq_true_eq] at q
  obtain ⟨⟨q1, q2⟩, q3⟩ := q
  exact ⟨by unfold Mk; omega, q2, q3⟩

/-- a set of ints at a, its table t -/
def RSt (w : World) (h : Heap) (a : Addr) (S : Int → Bool) (n : Nat) (t : SetTable) : Prop :=
  ∃ o es ep, h.get? a = some o ∧ o.ExactSet ∧ o.data = .set es ep t ∧ (∀ e ∈ es.toList, GoodE e) ∧ (es.toList.map keyOf).Nodup ∧ (∀ k, S k = true ↔ k ∈ es.toList.map keyOf) ∧
    es.size < scanBound ∧ t.fits es.size = true ∧ es.size = n ∧ Ris t.place.toList ∧ (w.params.followText "set-order" = true ∨ t.led = true)
theorem RSt.setR {w : World} {h : Heap} {a : Addr} {S : Int → Bool} {n : Nat} {t : SetTable} (R : RSt w h a S n t) : SetR w h a S n := by
  obtain ⟨o, es, ep, h1, h2, h3, h4⟩ := R
  exact ⟨o, es, ep, t, h1, h2, h3, h4⟩
theorem RSt.of {w : World} {h : Heap} {a : Addr} {S : Int → Bool} {n : Nat} (R : SetR w h a S n) : ∃ t, RSt w h a S n t := by
  obtain ⟨o, es, ep, t, h1, h2, h3, h4⟩ := R
  exact ⟨t, o, es, ep, h1, h2, h3, h4⟩
theorem order_perm {α : Type} (es : Array α) (order : Array Nat) (hp : order.toList.Perm (List.range es.size)) : (order.filterMap (es[·]?)).toList.Perm es.toList := by
  have e : (order.filterMap (es[·]?)).toList = order.toList.filterMap (es[·]?) := by first | exact Array.toList_filterMap .. | simp
  rw [e]
  refine (hp.filterMap _).trans (List.Perm.of_eq ?_)
  have key : ∀ n, n ≤ es.size → (List.range n).filterMap (fun i => es[i]?) = es.toList.take n := fun n => by
    induction n with
    | zero => intro _; rfl
    | succ n ih =>
      intro h
      have hl : n < es.toList.length := by rw [Array.length_toList]; omega
      rw [List.range_succ, List.filterMap_append, ih (by omega), List.take_succ, List.getElem?_eq_getElem hl, List.filterMap_cons_some (b := es.toList[n]) (by rw [← Array.getElem?_toList, List.getElem?_eq_getElem hl])]
      rfl
  have k2 := key es.size (Nat.le_refl _)
  rw [← Array.length_toList, List.take_length] at k2
  exact k2
section
variable {P : Program} {w : World} {A : Around} {E : Value → Shared → Prop} {s : Shared} {a : Addr} {S : Int → Bool} {n : Nat} {t : SetTable}
theorem relay_ok (R : RSt w s.heap a S n t) {wanted : Nat} (hw : wanted ≤ 126) (hn : n ≤ SetTable.sizeAbove wanted - 1) {Q : Unit → Shared → Prop}
    (hQ : ∀ h' t', Heap.SameBut a s.heap h' → RSt w h' a S n t' → Mk t'.mask → t'.mask = SetTable.sizeAbove wanted - 1 → t'.dummies = #[] → t'.place.size = n → Q () { s with heap := h' }) : wpAny (model P w) A (setRelay a wanted) Q E s := by
  obtain ⟨o, es, ep, ho, hx, hd, g, nd, hm, hb, hf, rfl, hr, hl⟩ := R
  obtain ⟨m1, m2, m3⟩ := above_mk wanted hw
  obtain ⟨place, order, e, hp, r, ps⟩ := laid_ok (m := SetTable.sizeAbove wanted - 1) (fi := t.finger) (mv := t.movedTo (SetTable.sizeAbove wanted - 1)) (led := t.led) (pl := t.plain) m1 (hs := es.map (·.1)) (by rw [Array.size_map]; exact hn)
  rw [Array.size_map] at hp ps
  have e' : t.relaid (es.map (·.1)) wanted = some (⟨SetTable.sizeAbove wanted - 1, place, #[], t.finger, t.led, t.movedTo (SetTable.sizeAbove wanted - 1), t.plain⟩, order) := e
  have pm := order_perm es order hp
  have sz : (order.filterMap (es[·]?)).size = es.size := by
    have := pm.length_eq
    rwa [Array.length_toList, Array.length_toList] at this
  rw [setRelay_eq]
  refine wpAny_bind (wpAny_setState_of ho hd hf ?_)
  dsimp only
  refine wp_if_neg (by rw [sizeLine_eq]; omega) ?_
  try refine wpAny_bind (wpAny_pure ?_)
  rw [e']
  dsimp only
  refine wpAny_bind ?_
  refine wp_if_neg (by rw [sz]; simp) ?_
  try refine wpAny_bind (wpAny_pure ?_)
  refine wpAny_pure ?_
  dsimp only
  refine wpAny_storeSet_of ho hd ?_ (by rw [sz]; exact fits_of_scanBound hb)
  refine hQ _ _ (Heap.SameBut.update s.heap a _) ⟨_, _, _, store_at ho hd, ⟨hx.1, hx.2.1, hx.2.2⟩, rfl, fun e he => g e (pm.mem_iff.mp he), (pm.map keyOf).nodup_iff.mpr nd, fun k => (hm k).trans (pm.map keyOf).mem_iff.symm, by rw [sz]; exact hb, ?_, sz, r, hl⟩ m1 rfl rfl ps
  unfold SetTable.fits SetTable.fill
  rw [Bool.and_eq_true, beq_iff_eq, decide_eq_true_eq]
  exact ⟨by show place.size = _; rw [sz, ps], by show place.size + 0 ≤ _; rw [ps, Nat.add_zero]; exact hn⟩
theorem RSt.fill {h : Heap} (R : RSt w h a S n t) (hd : t.dummies = #[]) : t.fill = n ∧ t.place.size = n := by
  obtain ⟨o, es, ep, _, _, _, _, _, _, _, hf, rfl, _⟩ := R
  unfold SetTable.fits at hf
  rw [Bool.and_eq_true, beq_iff_eq] at hf
  refine ⟨?_, hf.1⟩
  unfold SetTable.fill
  rw [hd, hf.1]
  rfl
theorem room_ok (R : RSt w s.heap a S n t) (hd : t.dummies = #[]) (hk : Mk t.mask) {m : Nat} (hnm : n + m ≤ 63) {Q : Unit → Shared → Prop}
    (hQ : ∀ h' t', Heap.SameBut a s.heap h' → RSt w h' a S n t' → Mk t'.mask → t'.dummies = #[] → n + m ≤ t'.mask → Q () { s with heap := h' }) : wpAny (model P w) A (setRoomFor a m) Q E s := by
  obtain ⟨f1, f2⟩ := R.fill hd
  have R' := R
  obtain ⟨o, es, ep, ho, hx, hdt, g, nd, hm, hb, hf, hn, hr, hl⟩ := R
  unfold setRoomFor
  refine wpAny_bind (wpAny_setState_of ho hdt hf ?_)
  dsimp only
  unfold SetTable.roomFor
  rw [f1, f2]
  by_cases c : (n + m) * 5 ≥ t.mask * 3
  · rw [if_pos c]
    dsimp only
    obtain ⟨m1, m2, m3⟩ := above_mk ((n + m) * 2) (by omega)
    exact relay_ok R' (by omega) (by omega) fun h' t' q1 q2 q3 q4 q5 q6 => hQ h' t' q1 q2 q3 q5 (by rw [q4]; omega)
  · rw [if_neg c]
    exact wpAny_pure (hQ s.heap t (Heap.SameBut.refl a s.heap) R' hk hd (by omega))
theorem setMerge_eq (a b : Addr) (each : Sem Unit) : setMerge a b each = (do
    if a == b then return
    let (eo, epoch, to) ← setState b
    if eo.isEmpty then return
    setRoomFor a eo.size
    let (_, _, ts) ← setState a
    match ts.road to with
    | .slotForSlot => storeSet a eo { to with finger := ts.finger, led := ts.led && to.led, moves := ts.moves, plain := ts.plain && to.plain }
    | .clean =>
      let (es, t) ← (do
        let some (t, order) := SetTable.laid ts.mask ts.finger ts.moves (ts.led && to.led) (ts.plain && to.plain) (eo.map (·.1)) | unsupported "internal:set-table-without-room"
        let es' := order.filterMap (eo[·]?)
        if es'.size != eo.size then unsupported "internal:set-table-lost-an-element"
        pure (es', t) : Sem (Array (Int × Value) × SetTable))
      storeSet a es t
    | .oneByOne =>
      for (h, x) in ← setWalkUnseen b [a] (some a) do
        let _ ← holding [x] (setAddHashed a x h)
        each
        if (← setState b).2.1 != epoch then unsupported "set.changed-during-merge") := by rfl
/-- what a merge leaves at a -/
def Mg (w : World) (h : Heap) (a : Addr) (S T : Int → Bool) (n m : Nat) : Prop := ∃ c t, RSt w h a (fun k => S k || T k) c t ∧ c ≤ n + m ∧ (n = 0 → t.dummies = #[] ∧ Mk t.mask)
theorem merge_ok {b : Addr} {T : Int → Bool} {m : Nat} {each : Sem Unit} (R : RSt w s.heap a S n t) (hd : t.dummies = #[]) (hk : Mk t.mask) (R2 : SetR w s.heap b T m) (hne : a ≠ b) (hnm : n + m ≤ 63)
    (one : ∀ (h' : Heap) (t' : SetTable) (es2 : Array (Int × Value)) (ep2 : Nat) (t2 : SetTable) (o2 : Obj) (Q' : Unit → Shared → Prop), RSt w h' a S n t' → h'.get? b = some o2 → o2.data = .set es2 ep2 t2 → Heap.SameBut a s.heap h' → n ≠ 0 →
      (∀ s', (∀ c o, c ≠ a → h'.get? c = some o → s'.heap.get? c = some o) → s'.gens = s.gens → s'.os = s.os → Mg w s'.heap a S T n m → Q' () s') → wpAny (model P w) A (do
        for (h, x) in ← setWalkUnseen b [a] (some a) do
          let _ ← holding [x] (setAddHashed a x h)
          each
          if (← setState b).2.1 != ep2 then unsupported "set.changed-during-merge") Q' E { s with heap := h' }) {Q : Unit → Shared → Prop}
    (hQ : ∀ s', (∀ c o, c ≠ a → s.heap.get? c = some o → s'.heap.get? c = some o) → s'.gens = s.gens → s'.os = s.os → Mg w s'.heap a S T n m → Q () s') : wpAny (model P w) A (setMerge a b each) Q E s := by
  have R2' := R2
  obtain ⟨o2, es2, ep2, t2, ho2, hx2, hd2, g2, nd2, hm2, hb2, hf2, hn2, hr2, hl2⟩ := R2
  rw [setMerge_eq]
  refine wp_if_neg (by simpa using hne) ?_
  try refine wpAny_bind (wpAny_pure ?_)
  refine wpAny_bind (wpAny_setState_of ho2 hd2 hf2 ?_)
  dsimp only
  by_cases he : es2.isEmpty = true
  · rw [if_pos he]
    have e0 : es2.toList = [] := by simpa using he
    have e1 : (fun k => S k || T k) = S := funext fun k => by
      have : T k = false := by
        cases q : T k with
        | false => rfl
        | true => have := (hm2 k).1 q; rw [e0] at this; cases this
      rw [this, Bool.or_false]
    refine wpAny_pure (hQ s (fun _ _ _ e => e) rfl rfl ⟨n, t, by rw [e1]; exact R, by omega, fun _ => ⟨hd, hk⟩⟩)
  · rw [if_neg he]
    try refine wpAny_bind (wpAny_pure ?_)
    refine wpAny_bind (room_ok R hd hk (m := es2.size) (by omega) fun h' t' sb R' mk' d' room => ?_)
    have R'' := R'
    obtain ⟨o', es', ep', ho', hx', hdt', g', nd', hm', hb', hf', hn', hr', hl'⟩ := R'
    refine wpAny_bind (wpAny_setState_of (s := { s with heap := h' }) ho' hdt' hf' ?_)
    dsimp only
    obtain ⟨f1, f2⟩ := R''.fill d'
    have keep : ∀ (es3 : Array (Int × Value)) (t3 : SetTable) c o, c ≠ a → s.heap.get? c = some o → (h'.update a (Obj.putSet es3 t3)).get? c = some o := fun es3 t3 c o hc e =>
      ((Heap.SameBut.update h' a _).2 c hc).trans ((sb.2 c hc).trans e)
    have led3 : w.params.followText "set-order" = true ∨ (t'.led && t2.led) = true := by
      rcases hl' with z | z
      · exact .inl z
      · rcases hl2 with y | y
        · exact .inl y
        · exact .inr (by rw [z, y]; rfl)
    have empt : n = 0 → (fun k => S k || T k) = T := fun h0 => funext fun k => by
      have : S k = false := by
        cases q : S k with
        | false => rfl
        | true =>
          have := (hm' k).1 q
          have e0 : es'.toList = [] := List.eq_nil_of_length_eq_zero (by rw [Array.length_toList, hn', h0])
          rw [e0] at this; cases this
      rw [this, Bool.false_or]
    cases hroad : t'.road t2 with
    | slotForSlot =>
      dsimp only
      unfold SetTable.road at hroad
      split at hroad
      · cases hroad
      · rename_i hz
        split at hroad
        · rename_i hq
          have h0 : n = 0 := by rw [f1] at hz; simpa using hz
          rw [Bool.and_eq_true, beq_iff_eq] at hq
          have dm : t2.dummies = #[] := by simpa using hq.2
          refine wpAny_storeSet_of (s := { s with heap := h' }) ho' hdt' ?_ (fits_of_scanBound hb2)
          refine hQ _ (keep _ _) rfl rfl ⟨m, { t2 with finger := t'.finger, led := t'.led && t2.led, moves := t'.moves, plain := t'.plain && t2.plain }, ?_, by omega, fun _ => ⟨dm, by show Mk t2.mask; rw [← hq.1]; exact mk'⟩⟩
          rw [empt h0]
          exact ⟨_, _, _, store_at ho' hdt', ⟨hx'.1, hx'.2.1, hx'.2.2⟩, rfl, g2, nd2, hm2, hb2, hf2, hn2, hr2, led3⟩
        · cases hroad
    | clean =>
      dsimp only
      unfold SetTable.road at hroad
      split at hroad
      · cases hroad
      · rename_i hz
        have h0 : n = 0 := by rw [f1] at hz; simpa using hz
        obtain ⟨place, order, e, hp, r, ps⟩ := laid_ok (fi := t'.finger) (mv := t'.moves) (led := t'.led && t2.led) (pl := t'.plain && t2.plain) mk' (hs := es2.map (·.1)) (by rw [Array.size_map]; omega)
        rw [Array.size_map] at hp ps
        have pm := order_perm es2 order hp
        have sz : (order.filterMap (es2[·]?)).size = es2.size := by
          have := pm.length_eq
          rwa [Array.length_toList, Array.length_toList] at this
        rw [e]
        dsimp only
        refine wpAny_bind ?_
        refine wp_if_neg (by rw [sz]; simp) ?_
        try refine wpAny_bind (wpAny_pure ?_)
        refine wpAny_pure ?_
        dsimp only
        refine wpAny_storeSet_of (s := { s with heap := h' }) ho' hdt' ?_ (by rw [sz]; exact fits_of_scanBound hb2)
        refine hQ _ (keep _ _) rfl rfl ⟨m, ⟨t'.mask, place, #[], t'.finger, t'.led && t2.led, t'.moves, t'.plain && t2.plain⟩, ?_, by omega, fun _ => ⟨rfl, mk'⟩⟩
        rw [empt h0]
        refine ⟨_, _, _, store_at ho' hdt', ⟨hx'.1, hx'.2.1, hx'.2.2⟩, rfl, fun e he => g2 e (pm.mem_iff.mp he), (pm.map keyOf).nodup_iff.mpr nd2, fun k => (hm2 k).trans (pm.map keyOf).mem_iff.symm, by rw [sz]; exact hb2, ?_, by rw [sz]; exact hn2, r, led3⟩
        unfold SetTable.fits SetTable.fill
        rw [Bool.and_eq_true, beq_iff_eq, decide_eq_true_eq]
        exact ⟨by show place.size = _; rw [sz, ps], by show place.size + 0 ≤ t'.mask; rw [ps]; omega⟩
    | oneByOne =>
      dsimp only
      have hn0 : n ≠ 0 := fun z => by
        unfold SetTable.road at hroad
        rw [f1, z] at hroad
        simp only [bne_self_eq_false, Bool.false_eq_true, if_false] at hroad
        split at hroad <;> cases hroad
      exact one h' t' es2 ep2 t2 o2 Q R'' ((sb.2 b (Ne.symm hne)).trans ho2) hd2 sb hn0 fun s' k1 k2 k3 k4 => hQ s' (fun c o hc e => k1 c o hc ((sb.2 c hc).trans e)) k2 k3 k4
end
end DLr

namespace DLr
open PySem PyProof.Rows L2
theorem setWalk_eq (a : Addr) : setWalk a = (do
    let (es, epoch, t) ← setState a
    if ← setsByText then return pickOrder ((← ask).params.setOrder a epoch) es
    if !t.plain && es.size > 1 then return (← drawOrder es.size es.toList).toArray
    (do if !t.led && es.size > 1 then unsupported "set:maker-not-led" : Sem Unit)
    return es) := by rfl
section
variable {P : Program} {w : World} {A : Around} {E : Value → Shared → Prop} {s : Shared} {b : Addr} {T : Int → Bool} {m : Nat} {t : SetTable}
theorem walk_any {o : Obj} {es : Array (Int × Value)} {ep : Nat} (ho : s.heap.get? b = some o) (hd : o.data = .set es ep t) (hf : t.fits es.size = true) (hl : w.params.followText "set-order" = true ∨ t.led = true) {Q : Array (Int × Value) → Shared → Prop}
    (hQ : ∀ out d, out.toList.Perm es.toList → Q out { s with drawn := d }) : wpAny (model P w) A (setWalk b) Q E s := by
  rw [setWalk_eq]
  refine wpAny_bind (wpAny_setState_of ho hd hf ?_)
  dsimp only
  refine wpAny_bind (wpAny_byText ?_)
  cases hb : w.params.followText "set-order" with
  | true =>
    refine wp_if_pos rfl ?_
    exact wpAny_bind (wpAny_askSetting (wpAny_pure (hQ _ s.drawn (pick_perm _ _))))
  | false =>
    refine wp_if_neg (by simp) ?_
    try refine wpAny_bind (wpAny_pure ?_)
    by_cases hp : (!t.plain && decide (es.size > 1)) = true
    · refine wp_if_pos hp ?_
      refine wpAny_bind (drawOrder_at _ _ _ _ (by simp) fun ys d pm => wpAny_pure ?_)
      exact hQ _ d (by simpa using pm)
    · refine wp_if_neg hp ?_
      try refine wpAny_bind (wpAny_pure ?_)
      rw [hb] at hl
      have hl : t.led = true := by simpa using hl
      refine wpAny_bind (wpAny_of_eq (a := ()) (by rw [hl]; rfl) (wpAny_pure ?_))
      exact hQ es s.drawn (List.Perm.refl _)
/-- sets of ints are asked quietly -/
theorem quiet_ints : ∀ (l : List Addr) {Q : Bool → Shared → Prop}, (∀ c ∈ l, ∃ S n, SetR w s.heap c S n) → Q true s → wpAny (model P w) A (setsQuiet l) Q E s := fun l {Q} h hq => by
  unfold setsQuiet
  refine wpAny_bind ?_
  refine wpAny_forIn_list _ (fun rest r s' => r.1 = none ∧ s' = s ∧ ∀ c ∈ rest, ∃ S n, SetR w s.heap c S n) _ ?_ ?_ _ _ ⟨rfl, rfl, h⟩
  · rintro c rest r s' ⟨hr, rfl, hall⟩
    obtain ⟨S, n, o, es, ep, t, ho, hx, hd, g, nd, hm, hb, hf, hn, hri, hl⟩ := hall c List.mem_cons_self
    refine wpAny_bind ?_
    unfold setEntries
    refine wpAny_bind (wpAny_setState_of ho hd hf (wpAny_pure ?_))
    refine wpAny_bind ?_
    rw [← Array.forIn_toList]
    refine wpAny_forIn_list _ (fun rest r s'' => r.1 = none ∧ s'' = s' ∧ ∀ e ∈ rest, GoodE e) _ ?_ ?_ _ _ ⟨rfl, rfl, g⟩
    · rintro ⟨hh, x⟩ rest2 r2 s'' ⟨hr2, rfl, hg⟩
      obtain ⟨k, tk, e, _⟩ := hg _ List.mem_cons_self
      have e : x = Value.int k tk := e
      subst e
      exact wpAny_pure ⟨rfl, rfl, fun e he => hg e (List.mem_cons_of_mem _ he)⟩
    · rintro ⟨r1, r2⟩ s'' ⟨hr2, rfl, _⟩
      simp only at hr2
      subst hr2
      exact wpAny_pure ⟨rfl, rfl, fun c hc => hall c (List.mem_cons_of_mem _ hc)⟩
  · rintro ⟨r1, r2⟩ s' ⟨hr, rfl, _⟩
    simp only at hr
    subst hr
    exact wpAny_pure hq
theorem unseen_eq (b a : Addr) : setWalkUnseen b [a] (some a) = (do
    let (es, _, t) ← setState b
    let byText ← setsByText
    if byText || (t.led && t.plain) || es.size ≤ 1 then return ← setWalk b
    if !(← setsQuiet [b, a]) then return ← setWalk b
    rule "set.walk.of-a-marked-set-that-nobody-sees"
    let (ef, _, tf) ← setState a
    if (tf.led && !t.led) || (tf.plain && !t.plain) then storeSet a ef { tf with led := tf.led && t.led, plain := tf.plain && t.plain }
    return es) := by rfl
theorem unseen_ok {a : Addr} {S : Int → Bool} {n : Nat} {ta : SetTable} {o : Obj} {es : Array (Int × Value)} {ep : Nat} (R : RSt w s.heap a S n ta) (R2 : SetR w s.heap b T m) (ho : s.heap.get? b = some o) (hd : o.data = .set es ep t) {Q : Array (Int × Value) → Shared → Prop}
    (hQ : ∀ out s', out.toList.Perm es.toList → Heap.SameBut a s.heap s'.heap → s'.gens = s.gens → s'.os = s.os → SetR w s'.heap a S n → Q out s') : wpAny (model P w) A (setWalkUnseen b [a] (some a)) Q E s := by
  have R2' := R2
  have R' := R
  obtain ⟨o2, es2, ep2, t2, ho2, hx2, hd2, g2, nd2, hm2, hb2, hf2, hn2, hr2, hl2⟩ := R2
  rw [ho] at ho2
  cases ho2
  rw [hd] at hd2
  injection hd2 with d1 d2 d3
  subst d1 d2 d3
  have w0 : ∀ {Q' : Array (Int × Value) → Shared → Prop}, (∀ out d, out.toList.Perm es.toList → Q' out { s with drawn := d }) → wpAny (model P w) A (setWalk b) Q' E s := fun h => walk_any ho hd hf2 hl2 h
  have q0 : ∀ (out : Array (Int × Value)) (d : Drawn), out.toList.Perm es.toList → Q out { s with drawn := d } := fun out d p => hQ out _ p (Heap.SameBut.refl a _) rfl rfl R'.setR
  obtain ⟨oa, ea, epa, ha1, ha2, ha3, ha4, ha5, ha6, ha7, ha8, ha9, ha10, ha11⟩ := R
  rw [unseen_eq]
  refine wpAny_bind (wpAny_setState_of ho hd hf2 ?_)
  dsimp only
  refine wpAny_bind (wpAny_byText ?_)
  by_cases c : (w.params.followText "set-order" || (t.led && t.plain) || decide (es.size ≤ 1)) = true
  · exact wp_if_pos c (w0 fun out d p => q0 out d p)
  · refine wp_if_neg c ?_
    try refine wpAny_bind (wpAny_pure ?_)
    refine wpAny_bind (quiet_ints _ (fun x hx => ?_) ?_)
    · rcases List.mem_cons.mp hx with rfl | hx
      · exact ⟨T, m, R2'⟩
      · rw [List.mem_singleton.mp hx]
        exact ⟨S, n, R'.setR⟩
    · refine wp_if_neg (by simp) ?_
      try refine wpAny_bind (wpAny_pure ?_)
      refine wpAny_bind (wpAny_rule ?_)
      refine wpAny_bind (wpAny_setState_of ha1 ha3 ha8 ?_)
      dsimp only
      by_cases c2 : ((ta.led && !t.led) || (ta.plain && !t.plain)) = true
      · refine wp_if_pos c2 (wpAny_bind (wpAny_storeSet_of ha1 ha3 (wpAny_pure ?_) (fits_of_scanBound ha7)))
        refine hQ es _ (List.Perm.refl _) (Heap.SameBut.update _ a _) rfl rfl ⟨_, _, _, { ta with led := ta.led && t.led, plain := ta.plain && t.plain }, store_at ha1 ha3, ⟨ha2.1, ha2.2.1, ha2.2.2⟩, rfl, ha4, ha5, ha6, ha7, ha8, ha9, ha10, ?_⟩
        rcases ha11 with z | z
        · exact .inl z
        · rcases hl2 with y | y
          · exact .inl y
          · exact .inr (by show (ta.led && t.led) = true; rw [z, y]; rfl)
      · refine wp_if_neg c2 (wpAny_pure ?_)
        exact hQ es s (List.Perm.refl _) (Heap.SameBut.refl a _) rfl rfl R'.setR
/-- the one-by-one road -/
theorem one_ok {a : Addr} {S : Int → Bool} {n : Nat} {ta : SetTable} {o : Obj} {es : Array (Int × Value)} {ep : Nat} {each : Sem Unit} (R : RSt w s.heap a S n ta) (R2 : SetR w s.heap b T m) (hne : a ≠ b) (hnm : n + m ≤ 63) (ho : s.heap.get? b = some o) (hd : o.data = .set es ep t)
    (heach : ∀ (s1 : Shared) (Q' : Unit → Shared → Prop), s1.heap.get? b = some o → Q' () s1 → wpAny (model P w) A each Q' E s1) {Q : Unit → Shared → Prop}
    (hQ : ∀ s' c, (∀ c o, c ≠ a → s.heap.get? c = some o → s'.heap.get? c = some o) → s'.gens = s.gens → s'.os = s.os → SetR w s'.heap a (fun k => S k || T k) c → c ≤ n + m → Q () s') : wpAny (model P w) A (do
        for (h, x) in ← setWalkUnseen b [a] (some a) do
          let _ ← holding [x] (setAddHashed a x h)
          each
          if (← setState b).2.1 != ep then unsupported "set.changed-during-merge") Q E s := by
  have R2' := R2
  obtain ⟨o2, es2, ep2, t2, ho2, hx2, hd2, g2, nd2, hm2, hb2, hf2, hn2, hr2, hl2⟩ := R2
  rw [ho] at ho2
  cases ho2
  rw [hd] at hd2
  injection hd2 with d1 d2 d3
  subst d1 d2 d3
  refine wpAny_bind (unseen_ok R R2' ho hd fun out s1 pm sb g1 q1 Ra => ?_)
  refine wpAny_bind ?_
  rw [← Array.forIn_toList]
  have hb1 : s1.heap.get? b = some o := (sb.2 b (Ne.symm hne)).trans ho
  refine wpAny_forIn_list _ (fun rest r s' => (∀ e ∈ rest, GoodE e) ∧ (∀ c o, c ≠ a → s.heap.get? c = some o → s'.heap.get? c = some o) ∧ s'.gens = s.gens ∧ s'.os = s.os ∧ ∃ S' c, SetR w s'.heap a S' c ∧ c + rest.length ≤ n + m ∧ ∀ k, (S k || T k) = true ↔ (S' k = true ∨ k ∈ rest.map keyOf)) _ ?_ ?_ _ _ ⟨fun e he => g2 e (pm.mem_iff.mp he), fun c o hc e => (sb.2 c hc).trans e, g1, q1, S, n, Ra, ?_, fun k => ?_⟩
  · rintro ⟨hh, x⟩ rest r s' ⟨hg, k1, k2, k3, S', c, R3, hc, hk⟩
    obtain ⟨k, tk, e, e2⟩ := hg _ List.mem_cons_self
    have e : x = Value.int k tk := e
    have e2 : hh = hashInt k := e2
    subst e e2
    rw [List.length_cons] at hc
    refine wpAny_bind (wpAny_holding (setR_add_hashed R3 (by unfold scanBound; omega) fun h' sb3 R4 => ?_))
    have hb3 : h'.get? b = some o := (sb3.2 b (Ne.symm hne)).trans (k1 b o (Ne.symm hne) ho)
    refine wpAny_bind (heach _ _ hb3 ?_)
    refine wpAny_bind (wpAny_setState_of (s := { s' with heap := h' }) hb3 hd hf2 ?_)
    refine wp_if_neg (by simp) (wpAny_pure ?_)
    refine ⟨fun e he => hg e (List.mem_cons_of_mem _ he), fun c o hc e => (sb3.2 c hc).trans (k1 c o hc e), k2, k3, _, _, R4, ?_, fun j => ?_⟩
    · split <;> omega
    · rw [hk j, List.map_cons, List.mem_cons, Bool.or_eq_true, decide_eq_true_eq]
      constructor
      · rintro (z | z | z)
        · exact .inl (.inl z)
        · exact .inl (.inr z)
        · exact .inr z
      · rintro ((z | z) | z)
        · exact .inl z
        · exact .inr (.inl z)
        · exact .inr (.inr z)
  · rintro r s' ⟨_, k1, k2, k3, S', c, R3, hc, hk⟩
    refine wpAny_pure (hQ s' c k1 k2 k3 (R3.congr fun j => ?_) (by simpa using hc))
    have := hk j
    cases q : S' j with
    | true => rw [q] at this; exact this.2 (.inl rfl)
    | false =>
      rw [q] at this
      cases z : (S j || T j) with
      | false => rfl
      | true => exact absurd (this.1 z) (by simp)
  · have := pm.length_eq
    rw [this, Array.length_toList, hn2]
    exact Nat.le_refl _
  · rw [Bool.or_eq_true, (pm.map keyOf).mem_iff, hm2 k]
theorem merge2 {a : Addr} {S : Int → Bool} {n : Nat} {ta : SetTable} {each : Sem Unit} (R : RSt w s.heap a S n ta) (hd : ta.dummies = #[]) (hk : Mk ta.mask) (R2 : SetR w s.heap b T m) (hne : a ≠ b) (hnm : n + m ≤ 63)
    (heach : ∀ (o : Obj) (s1 : Shared) (Q' : Unit → Shared → Prop), s.heap.get? b = some o → s1.heap.get? b = some o → Q' () s1 → wpAny (model P w) A each Q' E s1) {Q : Unit → Shared → Prop}
    (hQ : ∀ s', (∀ c o, c ≠ a → s.heap.get? c = some o → s'.heap.get? c = some o) → s'.gens = s.gens → s'.os = s.os → Mg w s'.heap a S T n m → Q () s') : wpAny (model P w) A (setMerge a b each) Q E s :=
  merge_ok R hd hk R2 hne hnm (fun h' t' es2 ep2 t2 o2 Q' R' e1 e2 sb hn0 hq => one_ok (s := { s with heap := h' }) R' (R2.at fun o e => (sb.2 b (Ne.symm hne)).trans e) hne hnm e1 e2 (fun s1 Q'' e3 q => heach o2 s1 Q'' (by rw [← sb.2 b (Ne.symm hne)]; exact e1) e3 q)
    fun s' c k1 k2 k3 R3 hc => by
      obtain ⟨t3, R4⟩ := RSt.of R3
      exact hq s' k1 k2 k3 ⟨c, t3, R4, hc, fun z => absurd z hn0⟩) hQ
theorem entry_set_or : entryFor table "set.__or__" = some Builtin.«frozenset.__or__» := entryFor_alias (id' := "frozenset.__or__") (by kernel_rfl) rfl (by decide +kernel) (by kernel_rfl)
end
end DLr

namespace DLr
open PySem PyProof.Rows L2
section
variable {P : Program} {w : World} {A : Around} {E : Value → Shared → Prop} {s : Shared} {a b : Addr} {S T : Int → Bool} {n m : Nat}
theorem any_ok {Q : Bool → Shared → Prop} (h : s.TypeIs (.ref a) "set") (hQ : Q true s) : wpAny (model P w) A (Builtin.Frozenset.isAnySet (.ref a)) Q E s := by
  unfold Builtin.Frozenset.isAnySet
  exact wpAny_bind (wpAny_isInstance (b := true) h sub_set_self (wpAny_pure hQ))
def frT (w : World) : SetTable := .fresh 0 0 (!w.params.followText "set-order")
theorem fresh_ok (w : World) (h : Heap) : RSt w (h.push { cls := .type "set", dict := none, data := .set #[] 0 (frT w) }) h.objs.size (fun _ => false) 0 (frT w) := by
  refine ⟨_, #[], 0, Heap.get?_push_size _ rfl, ⟨rfl, rfl, rfl⟩, rfl, fun e he => by simp at he, by simp, fun k => by simp, by decide, by rfl, rfl, List.Pairwise.nil, ?_⟩
  show _ ∨ (!w.params.followText "set-order") = true
  cases w.params.followText "set-order"
  · exact .inr rfl
  · exact .inl rfl
theorem copy_ok (R : SetR w s.heap a S n) (hn : n ≤ 63) {Q : Value → Shared → Prop}
    (hQ : ∀ s' c t, (∀ c o, s.heap.get? c = some o → s'.heap.get? c = some o) → s'.gens = s.gens → s'.os = s.os → s.heap.objs.size < s'.heap.objs.size → RSt w s'.heap s.heap.objs.size S c t → c ≤ n → t.dummies = #[] → Mk t.mask → Q (.ref s.heap.objs.size) s') :
    wpAny (model P w) A (Builtin.Frozenset.copyOf a) Q E s := by
  have ta : s.TypeIs (.ref a) "set" := (R.setOf (P := P)).typeIs
  have hlt : a < s.heap.objs.size := R.lt
  unfold Builtin.Frozenset.copyOf Builtin.Frozenset.baseOf newSet
  refine wpAny_bind (wpAny_bind (wpAny_isInstance (b := true) ta sub_set_self ?_))
  simp only [if_true]
  refine wpAny_pure (wpAny_bind (wpAny_bind (wpAny_byText ?_)))
  dsimp only
  refine wpAny_newObj_type ?_
  refine wpAny_bind (wpAny_pure ?_)
  have F0 := fresh_ok w s.heap
  have hk : Mk (frT w).mask := .inl rfl
  have kp : ∀ c o, s.heap.get? c = some o → (s.heap.push { cls := .type "set", dict := none, data := .set #[] 0 (frT w) }).get? c = some o := fun c o e => Heap.get?_push_of_some _ e
  refine wpAny_bind (merge2 (s := { s with heap := s.heap.push { cls := .type "set", dict := none, data := .set #[] 0 (frT w) } }) F0 rfl hk (R.at fun o e => kp a o e) (Nat.ne_of_gt hlt) (by omega) (fun o s1 Q' _ _ q => wpAny_pure q) fun s' k1 k2 k3 ⟨c, t, R3, hc, h0⟩ => wpAny_pure ?_)
  have e : (fun k => (false || S k)) = S := funext fun k => Bool.false_or _
  rw [e] at R3
  refine hQ s' c t (fun c o e => k1 c o (Nat.ne_of_lt (Heap.lt_size e)) (kp c o e)) k2 k3 ?_ R3 (by omega) (h0 rfl).1 (h0 rfl).2
  obtain ⟨o, _, _, ho, _⟩ := R3
  exact Heap.lt_size ho
theorem or_sets (R : SetR w s.heap a S n) (R2 : SetR w s.heap b T m) (hab : a ≠ b) (hnm : n + m ≤ 63) {Q : Value → Shared → Prop}
    (hQ : ∀ s' p c, (∀ c o, s.heap.get? c = some o → s'.heap.get? c = some o) → s'.gens = s.gens → s'.os = s.os → s.heap.objs.size ≤ p → SetR w s'.heap p (fun k => S k || T k) c → c ≤ n + m → Q (.ref p) s') :
    wpAny (model P w) A (binaryOp .BitOr (.ref a) (.ref b)) Q E s := by
  have ta : s.TypeIs (.ref a) "set" := (R.setOf (P := P)).typeIs
  have tb : s.TypeIs (.ref b) "set" := (R2.setOf (P := P)).typeIs
  refine wpAny_binaryOp_same ta tb F.fills_set_or F.slot_set_or (wpAny_call_entry F.slot_set_or ta entry_set_or ?_ (F.args_set_or_2 _ _))
  show wpAny _ _ (Builtin.Frozenset.slot1 "__or__" _ >>= _) _ _ s
  refine wpAny_bind (wpAny_of_eq (a := (Value.ref a, Value.ref b)) (by rfl) ?_)
  dsimp only
  simp only [Bool.false_eq_true, if_false]
  refine wpAny_bind (wpAny_bind (any_ok ta (any_ok tb ?_)))
  simp only [Bool.not_true, Bool.false_eq_true, if_false]
  refine wpAny_bind (m := Builtin.Frozenset.addrOf (.ref a)) (wpAny_pure ?_)
  refine wpAny_bind ?_
  show wpAny _ _ (Builtin.Frozenset.copyOf a >>= _) _ _ s
  refine wpAny_bind (copy_ok R (by omega) fun s1 c t k1 g1 q1 z1 R3 hc hd hk => ?_)
  have tb1 : s1.TypeIs (.ref b) "set" := by
    obtain ⟨o, e, q⟩ := tb
    exact ⟨o, k1 _ _ e, q⟩
  have R2' : SetR w s1.heap b T m := R2.at fun o e => k1 b o e
  have hpb : s.heap.objs.size ≠ b := Nat.ne_of_gt R2.lt
  dsimp only
  refine wp_if_pos (by simpa using fun z => hab z.symm) ?_
  refine wpAny_bind (m := Builtin.Frozenset.addrOf (.ref s.heap.objs.size)) (wpAny_pure ?_)
  refine wpAny_bind (wpAny_holding ?_)
  unfold Builtin.Frozenset.updateFrom
  refine wpAny_bind (any_ok tb1 ?_)
  simp only [if_true]
  refine wpAny_bind (m := Builtin.Frozenset.addrOf (.ref b)) (wpAny_pure ?_)
  unfold Builtin.Frozenset.merge
  have R2'' := R2'
  obtain ⟨o2, es2, ep2, t2, ho2, hx2, hd2, g2, nd2, hm2, hb2, hf2, hn2, hr2, hl2⟩ := R2''
  refine wpAny_bind (wpAny_setEpoch_of ho2 hd2 hf2 ?_)
  refine merge2 R3 hd hk R2' hpb (by omega) (fun o s3 Q' e0 e1 q => ?_) fun s' j1 j2 j3 ⟨c2, t3, R4, hc2, _⟩ => ?_
  · rw [ho2] at e0
    cases e0
    unfold Builtin.Frozenset.unchanged
    refine wpAny_bind (wpAny_setEpoch_of e1 hd2 hf2 ?_)
    exact wp_if_neg (by simp) (wpAny_pure q)
  · refine wpAny_pure (wpAny_pure ⟨_, rfl, ⟨(fun z => nomatch z), ?_⟩⟩)
    exact hQ s' _ c2 (fun x o e => j1 x o (Nat.ne_of_lt (Heap.lt_size e)) (k1 x o e)) (j2.trans g1) (j3.trans q1) (Nat.le_refl _) R4.setR (by omega)
end
end DLr

namespace DL
open PySem PySem.Spec PyProof.Rows L2
def rSetOr (w : World) : R2 := fun x y H Q => ∃ (a b : Addr) (S T : Int → Bool) (n m : Nat), x = V.ref a ∧ y = V.ref b ∧ a ≠ b ∧ n + m ≤ 62 ∧ H a = some (SetO w a S n) ∧ H b = some (SetO w b T m) ∧
  ∀ p c, H p = none → c ≤ n + m → Q (.ref p) (upd H p (SetO w p (fun k => S k || T k) c))
section
variable {X : Cx}
theorem op_setOr : OpR X (binaryOp .BitOr) (rSetOr X.w) := by
  intro pins s σ H x y v u Q I rx ry h
  obtain ⟨a, b, S, T, n, m, rfl, rfl, hab, hnm, ha, hb, q⟩ := h
  cases rx; cases ry
  refine DLr.or_sets (setO_get I ha) (setO_get I hb) hab (by omega) fun s' p c k g o hp R hc => ?_
  have hn : H p = none := I.hok.fresh hp
  have J : Inv X pins σ (upd H p (SetO X.w p (fun k => S k || T k) c)) { s with heap := s'.heap, gens := s'.gens, drawn := s'.drawn, toks := s'.toks } :=
    I.call (ch := []) (Un.laid k hp hn) (I.hok.laid k hp (setO_new R)) (by rw [g]; exact I.bare) (fun _ z => nomatch z)
  have e : s' = { s with heap := s'.heap, gens := s'.gens, drawn := s'.drawn, toks := s'.toks } := by
    cases s'
    cases s
    cases o
    rfl
  rw [e]
  exact ⟨.ref p, _, J, rfl, q p c hn hc⟩
def tupI : D → Option (List Int)
  | .tuple ds => intsOf ds
  | _ => none
/-- sorted(set(a) | set(b)) -/
def sunF (f g : FP) : FE := fun ρ => (f ρ).bind fun p => (R.of ((p.1.get p.2).bind tupI)).bind fun ns => if decide (ns.length ≤ 30) then ((g p.2).bind fun q => (R.of ((q.1.get q.2).bind tupI)).bind fun ms => if decide (ms.length ≤ 30) then .ok (.own (.list ((DLr.sortU DLr.ltI (ns ++ ms)).map .int)), q.2) else .stuck) else .stuck
theorem tupI_eq {d : D} {ns : List Int} (h : tupI d = some ns) : d = .tuple (ns.map .int) := by
  cases d with
  | tuple ds => rw [intsOf_eq (show intsOf ds = some ns from h)]
  | _ => cases h
theorem pe_sun (hc : X.calm = true) (hu : X.A.units + 200 < cLine) {e1 e2 : Expr} {f g : FP} {p p1 p2 pos pos1 pos2 bp : Pos} (hg : Gl X "sorted") (hm : X.mg "sorted" = none) (hg2 : Gl X "set") (hm2 : X.mg "set" = none) (ha : PE X e1 (tFP X f)) (hb : PE X e2 (tFP X g))
    (n1 : starEach [e1] X.env = (false, eval e1 X.env) :: starEach [] X.env) (n2 : starEach [e2] X.env = (false, eval e2 X.env) :: starEach [] X.env) :
    PE X (.Call (.Name "sorted" p) [.BinOp (.Call (.Name "set" p1) [e1] [] pos1) .BitOr (.Call (.Name "set" p2) [e2] [] pos2) bp] [] pos) (tFE X (sunF f g)) := by
  have h1 := pe_callTy (p := p1) (pos := pos1) (cr_setN hc hu) hg2 hm2 (by decide +kernel) (pa_cons ha pa_nil n1) (by decide +kernel) (by decide +kernel) n1 (by rfl)
  have h2 := pe_callTy (p := p2) (pos := pos2) (cr_setN hc hu) hg2 hm2 (by decide +kernel) (pa_cons hb pa_nil n2) (by decide +kernel) (by decide +kernel) n2 (by rfl)
  refine (pe_callB (p := p) (pos := pos) (cr_sortS hc hu) hg hm (by decide +kernel) (pa_cons (pe_op op_setOr h1 h2) pa_nil (by rfl)) (by decide +kernel) (by decide +kernel) (by rfl) (by rfl)).imp fun σ H Q h => ?_
  obtain ⟨Z, ρ, E, h⟩ := h
  refine ⟨Z, ρ, E, (Ask.bind h).mono fun p _ h v H1 pp => ?_⟩
  obtain ⟨ns, hns, h⟩ := (Ask.bind h).of
  obtain ⟨d, hd, hi⟩ := Option.bind_eq_some_iff.mp hns
  cases tupI_eq hi
  by_cases l1 : ns.length ≤ 30
  · rw [decide_eq_true l1] at h
    simp only [if_true] at h
    obtain ⟨a, ys, rfl, sa, ra⟩ := (pp.rp.get pp.er hd).tuple_inv
    cases ra.ints
    refine .inl ⟨a, ns, rfl, sa, by omega, fun b c hb hcn => ?_⟩
    have sm : Same H1 (upd H1 b (SetO X.w b (fun j => decide (j ∈ ns)) c)) := same_upd hb
    refine ⟨Z, p.2, pp.er.same sm, (Ask.bind h).mono fun q _ h u H2 qq => ?_⟩
    obtain ⟨ms, hms, h⟩ := (Ask.bind h).of
    obtain ⟨e, he, hj⟩ := Option.bind_eq_some_iff.mp hms
    cases tupI_eq hj
    obtain ⟨l2, h⟩ := h.ite
    have l2 := of_decide_eq_true l2
    obtain ⟨a2, ys2, rfl, sa2, ra2⟩ := (qq.rp.get qq.er he).tuple_inv
    cases ra2.ints
    have hkb : H2 b = some (SetO X.w b (fun j => decide (j ∈ ns)) c) := qq.st.keep b _ upd_same fun z => pp.er.yd b (.inr z) hb
    refine .inl ⟨a2, ms, rfl, sa2, by omega, fun b2 c2 hb2 hc2 => ?_⟩
    have ne : b ≠ b2 := fun z => by rw [z, hb2] at hkb; cases hkb
    refine ⟨b, b2, _, _, c, c2, rfl, rfl, ne, by omega, (upd_ne ne).trans hkb, upd_same, fun p3 c3 h3 hc3 => .inl ⟨p3, _, c3, rfl, upd_same, by omega, fun l p4 hpw hmem _ h4 => ?_⟩⟩
    have el : l = DLr.sortU DLr.ltI (ns ++ ms) := DLr.sortU_of DLr.strictI (ltI_pair hpw) fun x => by rw [hmem x, List.mem_append, Bool.or_eq_true, decide_eq_true_eq, decide_eq_true_eq]
    have s3 : Same H2 _ := (same_upd (o := SetO X.w b2 (fun j => decide (j ∈ ms)) c2) hb2).trans (same_upd (o := SetO X.w p3 (fun k => decide (k ∈ ns) || decide (k ∈ ms)) c3) h3)
    have n4 : H2 p4 = none := by
      cases z : H2 p4 with
      | none => rfl
      | some o => rw [s3 p4 o z] at h4; cases h4
    have q := Res.post qq.er (pp.st.trans ((Stp.same sm).trans qq.st)) rfl h
    rw [← el] at q
    exact q p4 _ n4 (s3.trans (same_upd h4)) ⟨l.map V.int, upd_same, ints_rp l⟩
  · rw [decide_eq_false l1] at h
    exact h.elim
end
end DL

namespace DL
open PySem PySem.Spec PyProof.Rows L2

/-! ### calls of defs -/
abbrev Fn := List S → R (S × List S)
def argOk : S → Bool
  | .val _ => true
  | .bor _ => true
  | _ => false
def lentOk : List S → En → Bool
  | [], _ => true
  | .bor _ :: ss, .bor _ :: ρ => lentOk ss ρ
  | .bor _ :: _, _ => false
  | _ :: ss, _ :: ρ => lentOk ss ρ
  | _ :: ss, [] => lentOk ss []
theorem lentOk_get : ∀ {ss : List S} {ρ : En} {k : Nat} {d : D}, lentOk ss ρ = true → ss[k]? = some (.bor d) → ∃ d', ρ[k]? = some (.bor d')
  | [], _, k, d, _, e => by simp at e
  | .bor x :: ss, .bor y :: ρ, 0, d, h, e => ⟨y, rfl⟩
  | .bor x :: ss, .bor y :: ρ, k + 1, d, h, e => by
    have h : lentOk ss ρ = true := h
    simpa using lentOk_get (k := k) h (by simpa using e)
  | .bor x :: ss, .un :: ρ, k, d, h, e => by cases h
  | .bor x :: ss, .val _ :: ρ, k, d, h, e => by cases h
  | .bor x :: ss, .own _ :: ρ, k, d, h, e => by cases h
  | .bor x :: ss, [], k, d, h, e => by cases h
  | .un :: ss, _, 0, d, h, e => by simp at e
  | .val _ :: ss, _, 0, d, h, e => by simp at e
  | .own _ :: ss, _, 0, d, h, e => by simp at e
  | .un :: ss, [], k + 1, d, h, e => by
    obtain ⟨d', q⟩ := lentOk_get (ss := ss) (ρ := []) (k := k) h (by simpa using e)
    simp at q
  | .val _ :: ss, [], k + 1, d, h, e => by
    obtain ⟨d', q⟩ := lentOk_get (ss := ss) (ρ := []) (k := k) h (by simpa using e)
    simp at q
  | .own _ :: ss, [], k + 1, d, h, e => by
    obtain ⟨d', q⟩ := lentOk_get (ss := ss) (ρ := []) (k := k) h (by simpa using e)
    simp at q
  | .un :: ss, t :: ρ, k + 1, d, h, e => by
    have h : lentOk ss ρ = true := by cases t <;> exact h
    simpa using lentOk_get (k := k) h (by simpa using e)
  | .val _ :: ss, t :: ρ, k + 1, d, h, e => by
    have h : lentOk ss ρ = true := by cases t <;> exact h
    simpa using lentOk_get (k := k) h (by simpa using e)
  | .own _ :: ss, t :: ρ, k + 1, d, h, e => by
    have h : lentOk ss ρ = true := by cases t <;> exact h
    simpa using lentOk_get (k := k) h (by simpa using e)
structure PostC (ω : World) (K : PySem.W.Frag) (Z : As) (ss : List S) (vs : List V) (H : Hp) (s : S) (outs : List S) (v : V) (H1 : Hp) : Prop where
  ex : ∃ ρ1 σ1, ER ω K Z ρ1 σ1 H1 ∧ Stp ss (vs.map some) H ρ1 σ1 H1 ∧ (∀ (k : Nat) (d : D), ss[k]? = some (.bor d) → ∃ d', ρ1[k]? = some (S.bor d') ∧ outs[k]? = some (S.bor d')) ∧ RS ω K Z ρ1 σ1 H H1 v s
/-- what a def with n parameters promises -/
def spD (ω : World) (K : PySem.W.Frag) (n : Nat) (f : Fn) : Sp := fun vs H Q _ => vs.length = n ∧ ∃ Z ss, ER ω K Z ss (vs.map some) H ∧ ss.all argOk = true ∧ match f ss with
  | .ok r => ∀ v H1, PostC ω K Z ss vs H r.1 r.2 v H1 → Q v H1
  | _ => False

/-- a def's meaning by its body's -/
def fnF (nslots : Nat) (body : FS) : Fn := fun ss => (body (ss ++ List.replicate (nslots - ss.length) .un)).bind fun q => if lentOk ss q.2 then match q.1 with
  | .rt s => .ok (s, q.2.take ss.length)
  | .nx => .ok (.val .none, q.2.take ss.length)
  | _ => .stuck
  else .stuck
section
variable {ω : World} {K : PySem.W.Frag} {Z : As} {H H1 : Hp}
theorem pad_get {ss : List S} {m i : Nat} {s : S} (h : (ss ++ List.replicate m S.un)[i]? = some s) : ss[i]? = some s ∨ s = .un := by
  by_cases hi : i < ss.length
  · rw [List.getElem?_append_left hi] at h; exact .inl h
  · rw [List.getElem?_append_right (by omega), List.getElem?_replicate] at h
    split at h
    · cases h; exact .inr rfl
    · cases h
theorem padV_get {vs : List V} {m i : Nat} {v : V} (h : (vs.map some)[i]? = some (some v)) : (vs.map some ++ List.replicate m none)[i]? = some (some v) := by
  rw [List.getElem?_append_left (by
    have := (List.getElem?_eq_some_iff.mp h).1
    exact this)]
  exact h
theorem ER.pad {ss : List S} {vs : List V} (E : ER ω K Z ss (vs.map some) H) (m : Nat) : ER ω K Z (ss ++ List.replicate m .un) (vs.map some ++ List.replicate m none) H ∧ Stp ss (vs.map some) H (ss ++ List.replicate m .un) (vs.map some ++ List.replicate m none) H := by
  have hl := E.len
  have back : ∀ {i : Nat} {s : S} {d : D}, (ss ++ List.replicate m S.un)[i]? = some s → s.mine = some d → ss[i]? = some s := fun h m' => by
    rcases pad_get h with h | rfl
    · exact h
    · cases m'
  have sg : ∀ {i : Nat} {s : S}, ss[i]? = some s → (vs.map some ++ List.replicate m none)[i]? = (vs.map some)[i]? := fun h => by
    have := (List.getElem?_eq_some_iff.mp h).1
    rw [List.getElem?_append_left (by omega)]
  have ob : ∀ a, OB (ss ++ List.replicate m .un) (vs.map some ++ List.replicate m none) a → OB ss (vs.map some) a := fun a ⟨i, s, d, e1, e2, e3⟩ => by
    have e1 := back e1 e2
    rw [sg e1] at e3
    exact ⟨i, s, d, e1, e2, e3⟩
  have yy : ∀ a, YY Z (ss ++ List.replicate m .un) (vs.map some ++ List.replicate m none) a → YY Z ss (vs.map some) a := fun a z => z.elim .inl fun z => .inr (ob a z)
  refine ⟨⟨by rw [List.length_append, List.length_append, hl]; simp, E.zd, fun a z q => E.zo a z (ob a q), fun i d h => ?_, fun i s d h e => ?_, fun i j s t d e a h1 h2 m1 m2 e1 e2 => ?_⟩, ⟨fun _ _ e _ => e, fun _ e => e, fun i d a h e => ?_, fun i d h => ?_⟩⟩
  · rcases pad_get h with h | h
    · obtain ⟨v, e1, e2⟩ := E.val i d h
      exact ⟨v, padV_get e1, e2.move (fun _ _ e _ => e) (fun a _ z => yy a z) d v⟩
    · cases h
  · obtain ⟨a, e1, e2⟩ := E.own i s d (back h e) e
    exact ⟨a, padV_get e1, e2.move (fun _ _ e _ => e) (fun _ e => e) fun a _ z => yy a z⟩
  · have h1 := back h1 m1
    have h2 := back h2 m2
    rw [sg h1] at e1
    rw [sg h2] at e2
    exact E.inj i j s t d e a h1 h2 m1 m2 e1 e2
  · have h := back h rfl
    rw [sg h] at e
    exact .inl ⟨⟨d, h⟩, e⟩
  · have h := back h rfl
    exact ⟨⟨d, h⟩, sg h⟩
end
/-- a body that keeps its meaning keeps the def's promise -/
theorem body_ok {X : Cx} {nslots n : Nat} {body : FS} {vs : List V} {H : Hp} {Q : VK} {E : XK} (hn : X.N.length = nslots) (h : spD X.w X.K n (fnF nslots body) vs H Q E) :
    tFS X body { nx := fun _ H' => Q .non H', rt := Q } (L2.start X.N vs) H := by
  obtain ⟨hl, Z, ss, E0, ao, h⟩ := h
  have hlen := E0.len
  rw [List.length_map] at hlen
  obtain ⟨E1, t1⟩ := E0.pad (nslots - ss.length)
  have est : L2.start X.N vs = vs.map some ++ List.replicate (nslots - ss.length) none := by
    unfold L2.start
    rw [hn, hlen]
  rw [est]
  refine ⟨Z, _, E1, ?_⟩
  unfold fnF at h
  cases hb : body (ss ++ List.replicate (nslots - ss.length) .un) with
  | stuck => rw [hb] at h; exact h.elim
  | exc c d => rw [hb] at h; exact h.elim
  | ok q =>
    rw [hb] at h
    obtain ⟨fl, ρ1⟩ := q
    have h : match (if lentOk ss ρ1 then match fl with
      | .rt s => R.ok (s, ρ1.take ss.length)
      | .nx => .ok (.val .none, ρ1.take ss.length)
      | _ => .stuck
      else .stuck) with
      | .ok r => ∀ v H1, PostC X.w X.K Z ss vs H r.1 r.2 v H1 → Q v H1
      | _ => False := h
    cases hk : lentOk ss ρ1 with
    | false => rw [hk] at h; exact h.elim
    | true =>
      rw [hk, if_pos rfl] at h
      have lent : ∀ (k : Nat) (d : D), ss[k]? = some (.bor d) → ∃ d', ρ1[k]? = some (S.bor d') ∧ (ρ1.take ss.length)[k]? = some (S.bor d') := fun k d e => by
        obtain ⟨d', q⟩ := lentOk_get hk e
        refine ⟨d', q, ?_⟩
        rw [List.getElem?_take_of_lt (List.getElem?_eq_some_iff.mp e).1]
        exact q
      cases fl with
      | bk => exact h.elim
      | ct => exact h.elim
      | nx =>
        intro σ1 H1 p
        exact h _ _ ⟨ρ1, σ1, p.er, t1.trans p.st, lent, .non⟩
      | rt s =>
        intro v H1 p
        obtain ⟨σ1, e1, t2, rr⟩ := p.ex
        refine h _ _ ⟨ρ1, σ1, e1, t1.trans t2, lent, ?_⟩
        cases s with
        | un => exact rr
        | val d => exact rr
        | bor d => exact rr
        | own d =>
          obtain ⟨a, e, w, r⟩ := rr
          refine ⟨a, e, ?_, r⟩
          rcases w with ⟨i, d0, h1, _⟩ | w
          · rcases pad_get h1 with h1 | h1
            · have := List.all_eq_true.mp ao _ (List.mem_of_getElem? h1)
              cases this
            · cases h1
          · exact w

/-! ### the caller -/
def argS (ρ : En) : P → Option S
  | .dv d => some (.val d)
  | .at i => match ρ[i]? with
    | some (.val d) => some (.val d)
    | some (.own d) => some (.bor d)
    | some (.bor d) => some (.bor d)
    | _ => none
def argsS (ρ : En) : List P → Option (List S)
  | [] => some []
  | p :: ps => (argS ρ p).bind fun s => (argsS ρ ps).map (s :: ·)
def atIx : P → Option Nat
  | .at i => some i
  | .dv _ => none
def outFor (i : Nat) : List P → List S → Option S
  | .at j :: ps, s :: ss => if i = j then some s else outFor i ps ss
  | .dv _ :: ps, _ :: ss => outFor i ps ss
  | _, _ => none
def backS1 (ps : List P) (outs : List S) (i : Nat) (s : S) : S := match s.mine, outFor i ps outs with
  | some _, some (.bor d) => s.wid d
  | _, _ => s
def backS (ps : List P) (outs : List S) : Nat → En → En
  | _, [] => []
  | i, s :: ρ => backS1 ps outs i s :: backS ps outs (i + 1) ρ
theorem backS_len (ps : List P) (outs : List S) : ∀ (i : Nat) (ρ : En), (backS ps outs i ρ).length = ρ.length
  | _, [] => rfl
  | i, s :: ρ => by rw [backS, List.length_cons, List.length_cons, backS_len]
theorem backS_get (ps : List P) (outs : List S) : ∀ (i : Nat) (ρ : En) (k : Nat) (s' : S), (backS ps outs i ρ)[k]? = some s' → ∃ s, ρ[k]? = some s ∧ s' = backS1 ps outs (i + k) s
  | _, [], k, s', h => by simp [backS] at h
  | i, s :: ρ, 0, s', h => by
    simp [backS] at h
    exact ⟨s, rfl, h.symm⟩
  | i, s :: ρ, k + 1, s', h => by
    rw [backS, List.getElem?_cons_succ] at h
    obtain ⟨t, h1, h2⟩ := backS_get ps outs (i + 1) ρ k s' h
    exact ⟨t, by simpa using h1, by rw [h2, show i + 1 + k = i + (k + 1) by omega]⟩
theorem backS_get' (ps : List P) (outs : List S) : ∀ (i : Nat) (ρ : En) (k : Nat) (s : S), ρ[k]? = some s → (backS ps outs i ρ)[k]? = some (backS1 ps outs (i + k) s)
  | _, [], k, s, h => by simp at h
  | i, s :: ρ, 0, t, h => by
    simp at h
    subst h
    simp [backS]
  | i, s :: ρ, k + 1, t, h => by
    rw [backS, List.getElem?_cons_succ, backS_get' ps outs (i + 1) ρ k t (by simpa using h), show i + 1 + k = i + (k + 1) by omega]
theorem outFor_get : ∀ {ps : List P} {outs : List S} {i : Nat} {s : S}, outFor i ps outs = some s → ∃ k : Nat, ps[k]? = some (.at i) ∧ outs[k]? = some s
  | .at j :: ps, t :: ss, i, s, h => by
    rw [outFor] at h
    split at h
    · rename_i e
      subst e
      cases h
      exact ⟨0, rfl, rfl⟩
    · obtain ⟨k, h1, h2⟩ := outFor_get h
      exact ⟨k + 1, by simpa using h1, by simpa using h2⟩
  | .dv d :: ps, t :: ss, i, s, h => by
    obtain ⟨k, h1, h2⟩ := outFor_get (ps := ps) (outs := ss) (i := i) (s := s) h
    exact ⟨k + 1, by simpa using h1, by simpa using h2⟩
  | [], _, i, s, h => by simp [outFor] at h
  | .at _ :: _, [], i, s, h => by simp [outFor] at h
  | .dv _ :: _, [], i, s, h => by simp [outFor] at h
theorem outFor_nd : ∀ {ps : List P} {outs : List S} {i k : Nat} {s : S}, (ps.filterMap atIx).Nodup → ps[k]? = some (.at i) → outs[k]? = some s → outFor i ps outs = some s
  | [], _, i, k, s, _, h, _ => by simp at h
  | p :: ps, [], i, k, s, _, _, h => by simp at h
  | .at j :: ps, t :: ss, i, 0, s, nd, h1, h2 => by
    simp at h1 h2
    subst h1 h2
    simp [outFor]
  | .at j :: ps, t :: ss, i, k + 1, s, nd, h1, h2 => by
    have h1 : ps[k]? = some (.at i) := by simpa using h1
    have nd' : (j :: ps.filterMap atIx).Nodup := nd
    obtain ⟨nj, nd'⟩ := List.nodup_cons.mp nd'
    have ne : i ≠ j := fun e => nj (List.mem_filterMap.mpr ⟨_, List.mem_of_getElem? h1, by rw [e]; rfl⟩)
    rw [outFor, if_neg ne]
    exact outFor_nd nd' h1 (by simpa using h2)
  | .dv d :: ps, t :: ss, i, 0, s, nd, h1, h2 => by simp at h1
  | .dv d :: ps, t :: ss, i, k + 1, s, nd, h1, h2 => by
    have nd' : (ps.filterMap atIx).Nodup := nd
    exact outFor_nd (ps := ps) (outs := ss) nd' (by simpa using h1) (by simpa using h2)
theorem ix_nd : ∀ {ps : List P} {i k l : Nat}, (ps.filterMap atIx).Nodup → ps[k]? = some (.at i) → ps[l]? = some (.at i) → k = l
  | [], i, k, l, _, h, _ => by simp at h
  | p :: ps, i, 0, 0, nd, h1, h2 => rfl
  | p :: ps, i, k + 1, l + 1, nd, h1, h2 => by
    have nd' : (ps.filterMap atIx).Nodup := by
      cases p with
      | «at» j => exact (List.nodup_cons.mp (show (j :: ps.filterMap atIx).Nodup from nd)).2
      | dv d => exact nd
    rw [ix_nd nd' (show ps[k]? = some (.at i) by simpa using h1) (by simpa using h2)]
  | p :: ps, i, 0, l + 1, nd, h1, h2 => by
    simp at h1
    subst h1
    have h2 : ps[l]? = some (.at i) := by simpa using h2
    exact absurd (List.mem_filterMap.mpr ⟨P.at i, List.mem_of_getElem? h2, show atIx (.at i) = some i from rfl⟩) (List.nodup_cons.mp (show (i :: ps.filterMap atIx).Nodup from nd)).1
  | p :: ps, i, k + 1, 0, nd, h1, h2 => by
    simp at h2
    subst h2
    have h1 : ps[k]? = some (.at i) := by simpa using h1
    exact absurd (List.mem_filterMap.mpr ⟨P.at i, List.mem_of_getElem? h1, show atIx (.at i) = some i from rfl⟩) (List.nodup_cons.mp (show (i :: ps.filterMap atIx).Nodup from nd)).1
/-- f called with these operands -/
def callS (n : Nat) (f : Fn) (ρ : En) (ps : List P) : R (S × En) := (R.of (argsS ρ ps)).bind fun ss => if (decide (ps.filterMap atIx).Nodup && decide (ps.length = n)) then (f ss).bind fun r => .ok (r.1, backS ps r.2 0 ρ) else .stuck
def fnCall (n : Nat) (f : Fn) (g : FL) : FE := fun ρ => (g ρ).bind fun q => callS n f q.2 q.1
def appL (m : Nat) (f g : FL) : FL := fun ρ => (f ρ).bind fun q => if decide (q.1.length = m) then (g q.2).bind fun r => .ok (q.1 ++ r.1, r.2) else .stuck
section
variable {ω : World} {K : PySem.W.Frag} {Z : As} {ρ : En} {σ : Sg} {H H1 : Hp}
theorem argsS_get : ∀ {ps : List P} {ss : List S} {k : Nat}, argsS ρ ps = some ss → ss.length = ps.length ∧ ∀ s, ss[k]? = some s → ∃ p, ps[k]? = some p ∧ argS ρ p = some s
  | [], ss, k, h => by cases h; exact ⟨rfl, fun s h => by simp at h⟩
  | p :: ps, ss, k, h => by
    obtain ⟨s, hs, h⟩ := Option.bind_eq_some_iff.mp (show (argS ρ p).bind (fun s => (argsS ρ ps).map (s :: ·)) = some ss from h)
    obtain ⟨ts, ht, rfl⟩ := Option.map_eq_some_iff.mp h
    refine ⟨by rw [List.length_cons, List.length_cons, (argsS_get (k := 0) ht).1], fun s' h' => ?_⟩
    cases k with
    | zero => simp at h'; subst h'; exact ⟨p, rfl, hs⟩
    | succ k =>
      obtain ⟨p', h1, h2⟩ := (argsS_get (k := k) ht).2 s' (by simpa using h')
      exact ⟨p', by simpa using h1, h2⟩
theorem argS_val {p : P} {d : D} (h : argS ρ p = some (.val d)) : p = .dv d ∨ ∃ i, p = .at i ∧ ρ[i]? = some (.val d) := by
  cases p with
  | dv e => cases h; exact .inl rfl
  | «at» i =>
    simp only [argS] at h
    split at h
    · rename_i e q; cases h; exact .inr ⟨i, rfl, q⟩
    · cases h
    · cases h
    · cases h
theorem argS_bor {p : P} {d : D} (h : argS ρ p = some (.bor d)) : ∃ i t, p = .at i ∧ ρ[i]? = some t ∧ t.mine = some d := by
  cases p with
  | dv e => cases h
  | «at» i =>
    simp only [argS] at h
    split at h
    · cases h
    · rename_i e q; cases h; exact ⟨i, _, rfl, q, rfl⟩
    · rename_i e q; cases h; exact ⟨i, _, rfl, q, rfl⟩
    · cases h
theorem argS_ok {p : P} {s : S} (h : argS ρ p = some s) : argOk s = true := by
  cases p with
  | dv e => cases h; rfl
  | «at» i =>
    simp only [argS] at h
    split at h <;> cases h <;> rfl
theorem argsS_ok : ∀ {ps : List P} {ss : List S}, argsS ρ ps = some ss → ss.all argOk = true
  | [], ss, h => by cases h; rfl
  | p :: ps, ss, h => by
    obtain ⟨s, hs, h⟩ := Option.bind_eq_some_iff.mp (show (argS ρ p).bind (fun s => (argsS ρ ps).map (s :: ·)) = some ss from h)
    obtain ⟨ts, ht, rfl⟩ := Option.map_eq_some_iff.mp h
    rw [List.all_cons, argS_ok hs, argsS_ok ht]
    rfl
theorem Paired.append' {α β : Type} {F : α → β → Prop} : ∀ {l₁ m₁ : List α} {l₂ m₂ : List β}, Paired F l₁ l₂ → Paired F m₁ m₂ → Paired F (l₁ ++ m₁) (l₂ ++ m₂)
  | _, _, _, _, .nil, h => h
  | _, _, _, _, .cons r t, h => .cons r (Paired.append' t h)
theorem Paired.mapP' {α β : Type} {F G : α → β → Prop} : ∀ {l₁ : List α} {l₂ : List β}, Paired F l₁ l₂ → (∀ a b, F a b → G a b) → Paired G l₁ l₂
  | _, _, .nil, _ => .nil
  | _, _, .cons r t, f => .cons (f _ _ r) (Paired.mapP' t f)
theorem Paired.get' {α β : Type} {F : α → β → Prop} : ∀ {l₁ : List α} {l₂ : List β} {k : Nat} {b : β}, Paired F l₁ l₂ → l₂[k]? = some b → ∃ a, l₁[k]? = some a ∧ F a b
  | _, _, k, b, .nil, h => by simp at h
  | _, _, 0, b, .cons r _, h => by simp at h; subst h; exact ⟨_, rfl, r⟩
  | _, _, k + 1, b, .cons _ t, h => by
    obtain ⟨a, h1, h2⟩ := Paired.get' (k := k) t (by simpa using h)
    exact ⟨a, by simpa using h1, h2⟩
theorem map_some_get {vs : List V} {k : Nat} {v : V} (h : vs[k]? = some v) : (vs.map some)[k]? = some (some v) := by rw [List.getElem?_map, h]; rfl
/-- what the callee may not touch -/
def ZC (Z : As) (ρ : En) (σ : Sg) (ss : List S) (vs : List V) : As := fun a => Z a ∨ (OB ρ σ a ∧ ¬ OB ss (vs.map some) a)
theorem call_in (E : ER ω K Z ρ σ H) {ps : List P} {ss : List S} {vs : List V} (rp : Paired (RP K Z ρ σ H) vs ps) (hs : argsS ρ ps = some ss) (nd : (ps.filterMap atIx).Nodup) :
    ER ω K (ZC Z ρ σ ss vs) ss (vs.map some) H ∧ (∀ (k : Nat) (d : D), ss[k]? = some (.bor d) → ∃ i t a, ps[k]? = some (.at i) ∧ ρ[i]? = some t ∧ t.mine = some d ∧ σ[i]? = some (some (.ref a)) ∧ vs[k]? = some (.ref a)) ∧ (∀ a, OB ss (vs.map some) a → OB ρ σ a) := by
  have lb : ∀ (k : Nat) (d : D), ss[k]? = some (.bor d) → ∃ i t a, ps[k]? = some (.at i) ∧ ρ[i]? = some t ∧ t.mine = some d ∧ σ[i]? = some (some (.ref a)) ∧ vs[k]? = some (.ref a) ∧ OwnAt ω K (YY Z ρ σ) H a d := fun k d h => by
    obtain ⟨p, hp, ha⟩ := (argsS_get (k := k) hs).2 _ h
    obtain ⟨i, t, rfl, ht, hm⟩ := argS_bor ha
    obtain ⟨v, hv, r⟩ := Paired.get' rp hp
    obtain ⟨a, e1, e2⟩ := E.own i t d ht hm
    have r : σ[i]? = some (some v) := r
    rw [e1] at r
    cases r
    exact ⟨i, t, a, hp, ht, hm, e1, hv, e2⟩
  have nown : ∀ {k : Nat} {s : S} {d : D}, ss[k]? = some s → s.mine = some d → s = .bor d := fun {k s d} h m => by
    rcases mine_cases m with rfl | rfl
    · have := List.all_eq_true.mp (argsS_ok hs) _ (List.mem_of_getElem? h)
      cases this
    · rfl
  have ob : ∀ a, OB ss (vs.map some) a → OB ρ σ a := fun a ⟨k, s, d, h1, h2, h3⟩ => by
    obtain rfl := nown h1 h2
    obtain ⟨i, t, b, e1, e2, e3, e4, e5, _⟩ := lb k d h1
    rw [map_some_get e5] at h3
    cases h3
    exact ⟨i, t, d, e2, e3, e4⟩
  have yy : ∀ a, YY (ZC Z ρ σ ss vs) ss (vs.map some) a → YY Z ρ σ a := fun a z => by
    rcases z with (z | z) | z
    · exact .inl z
    · exact .inr z.1
    · exact .inr (ob a z)
  refine ⟨⟨by rw [List.length_map, (argsS_get (k := 0) hs).1, ← rp.length], fun a z => E.yd a (z.elim .inl fun z => .inr z.1), fun a z q => ?_, fun k d h => ?_, fun k s d h m => ?_, fun k l s t d e a h1 h2 m1 m2 e1 e2 => ?_⟩, fun k d h => ?_, ob⟩
  · rcases z with z | z
    · exact E.zo a z (ob a q)
    · exact z.2 q
  · obtain ⟨p, hp, ha⟩ := (argsS_get (k := k) hs).2 _ h
    obtain ⟨v, hv, r⟩ := Paired.get' rp hp
    refine ⟨v, map_some_get hv, ?_⟩
    rcases argS_val ha with rfl | ⟨i, rfl, hi⟩
    · exact Rp.move (fun _ _ e _ => e) (fun a _ z => yy a z) d v r
    · obtain ⟨w, e1, e2⟩ := E.val i d hi
      have r : σ[i]? = some (some v) := r
      rw [e1] at r
      cases r
      exact e2.move (fun _ _ e _ => e) (fun a _ z => yy a z) d _
  · obtain rfl := nown h m
    obtain ⟨i, t, a, e1, e2, e3, e4, e5, oa⟩ := lb k d h
    exact ⟨a, map_some_get e5, oa.move (fun _ _ e _ => e) (fun _ e => e) fun a _ z => yy a z⟩
  · obtain rfl := nown h1 m1
    obtain rfl := nown h2 m2
    obtain ⟨i, t1, a1, p1, p2, p3, p4, p5, _⟩ := lb k d h1
    obtain ⟨j, t2, a2, q1, q2, q3, q4, q5, _⟩ := lb l e h2
    rw [map_some_get p5] at e1
    rw [map_some_get q5] at e2
    cases e1
    cases e2
    have ij := E.inj i j t1 t2 d e _ p2 q2 p3 q3 p4 q4
    subst ij
    exact ix_nd nd p1 q1
  · obtain ⟨i, t, a, e1, e2, e3, e4, e5, _⟩ := lb k d h
    exact ⟨i, t, a, e1, e2, e3, e4, e5⟩
theorem backS1_cases (ps : List P) (outs : List S) (i : Nat) (s : S) : backS1 ps outs i s = s ∨ ∃ d0 d, s.mine = some d0 ∧ outFor i ps outs = some (.bor d) ∧ backS1 ps outs i s = s.wid d := by
  unfold backS1
  split
  · rename_i d0 d h1 h2
    exact .inr ⟨d0, d, h1, h2, rfl⟩
  · exact .inl rfl
theorem wid_mine {s : S} {d d0 : D} (h : s.mine = some d0) : (s.wid d).mine = some d := by rcases mine_cases h with rfl | rfl <;> rfl
theorem call_er (E : ER ω K Z ρ σ H) {ps : List P} {ss : List S} {vs : List V} {outs : List S} {ρ1 : En} {σ1 : Sg} {Zx Z2 : As} (rp : Paired (RP K Z ρ σ H) vs ps) (hs : argsS ρ ps = some ss) (nd : (ps.filterMap atIx).Nodup)
    (E1 : ER ω K Zx ρ1 σ1 H1) (t : Stp ss (vs.map some) H ρ1 σ1 H1) (lent : ∀ (k : Nat) (d : D), ss[k]? = some (.bor d) → ∃ d', ρ1[k]? = some (S.bor d') ∧ outs[k]? = some (S.bor d'))
    (c2 : ∀ b, Z2 b → Zx b) (c3 : ∀ b, ZC Z ρ σ ss vs b → Zx b) (c4 : ∀ b, Z2 b → Z b ∨ H b = none) :
    ER ω K Z2 (backS ps outs 0 ρ) σ H1 ∧ Stp ρ σ H (backS ps outs 0 ρ) σ H1 ∧ (∀ b, YY Z2 (backS ps outs 0 ρ) σ b → YY Zx ρ1 σ1 b) := by
  obtain ⟨Ec, lb, ob⟩ := call_in E rp hs nd
  have isb : ∀ {k : Nat} {s : S} {d : D}, ss[k]? = some s → s.mine = some d → s = .bor d := fun {k s d} h m => by
    rcases mine_cases m with rfl | rfl
    · have := List.all_eq_true.mp (argsS_ok hs) _ (List.mem_of_getElem? h)
      cases this
    · rfl
  -- the slots behind the call
  have sl : ∀ {i : Nat} {s' : S}, (backS ps outs 0 ρ)[i]? = some s' → ∃ s0, ρ[i]? = some s0 ∧ (s' = s0 ∨ ∃ d0 d, s0.mine = some d0 ∧ outFor i ps outs = some (.bor d) ∧ s' = s0.wid d) := fun {i s'} h => by
    obtain ⟨s0, h1, h2⟩ := backS_get ps outs 0 ρ i s' h
    refine ⟨s0, h1, ?_⟩
    rw [Nat.zero_add] at h2
    rcases backS1_cases ps outs i s0 with e | ⟨d0, d, e1, e2, e3⟩
    · exact .inl (h2.trans e)
    · exact .inr ⟨d0, d, e1, e2, h2.trans e3⟩
  have mn : ∀ {i : Nat} {s' : S} {d : D}, (backS ps outs 0 ρ)[i]? = some s' → s'.mine = some d → ∃ s0 d0, ρ[i]? = some s0 ∧ s0.mine = some d0 := fun {i s' d} h m => by
    obtain ⟨s0, h1, h2⟩ := sl h
    rcases h2 with rfl | ⟨d0, d1, e1, _, _⟩
    · exact ⟨_, d, h1, m⟩
    · exact ⟨s0, d0, h1, e1⟩
  have obB : ∀ a, OB (backS ps outs 0 ρ) σ a → OB ρ σ a := fun a ⟨i, s', d, h1, h2, h3⟩ => by
    obtain ⟨s0, d0, e1, e2⟩ := mn h1 h2
    exact ⟨i, s0, d0, e1, e2, h3⟩
  -- a lent address is lent still
  have lentA : ∀ a, OB ss (vs.map some) a → OB ρ1 σ1 a := fun a ⟨k, s', d, h1, h2, h3⟩ => by
    obtain rfl := isb h1 h2
    obtain ⟨d', e1, e2⟩ := lent k d h1
    obtain ⟨_, e3⟩ := t.bor k d' e1
    exact ⟨k, _, d', e1, rfl, by rw [e3]; exact h3⟩
  have yB : ∀ a, YY Z2 (backS ps outs 0 ρ) σ a → YY Zx ρ1 σ1 a := fun a z => by
    rcases z with z | z
    · exact .inl (c2 a z)
    · by_cases q : OB ss (vs.map some) a
      · exact .inr (lentA a q)
      · exact .inl (c3 a (.inr ⟨obB a z, q⟩))
  have yO : ∀ a, H a ≠ none → YY Z2 (backS ps outs 0 ρ) σ a → YY Z ρ σ a := fun a e z => by
    rcases z with z | z
    · rcases c4 a z with z | z
      · exact .inl z
      · exact absurd z e
    · exact .inr (obB a z)
  have kp : ∀ a o, H a = some o → ¬ YY Z ρ σ a → H1 a = some o := fun a o e n => t.keep a o e fun z => n (.inr (ob a z))
  -- what lies at a slot that is the caller's
  have own : ∀ (i : Nat) (s' : S) (d : D), (backS ps outs 0 ρ)[i]? = some s' → s'.mine = some d → ∃ a, σ[i]? = some (some (V.ref a)) ∧ OwnAt ω K (YY Z2 (backS ps outs 0 ρ) σ) H1 a d := fun i s' d h m => by
    obtain ⟨s0, h1, h2⟩ := sl h
    by_cases hl : ∃ k : Nat, ps[k]? = some (P.at i)
    · obtain ⟨k, hk⟩ := hl
      obtain ⟨s00, d0, q1, q2⟩ := mn h m
      rw [h1] at q1
      cases q1
      have hkl : k < ss.length := by
        rw [(argsS_get (k := 0) hs).1]
        exact (List.getElem?_eq_some_iff.mp hk).1
      have hsk : ss[k]? = some (.bor d0) := by
        have e0 : ss[k]? = some ss[k] := List.getElem?_eq_getElem hkl
        obtain ⟨p, hp, ha⟩ := (argsS_get (k := k) hs).2 _ e0
        rw [hk] at hp
        cases hp
        simp only [argS] at ha
        rw [h1] at ha
        rcases mine_cases q2 with rfl | rfl
        · rw [e0, ← Option.some.inj ha]
        · rw [e0, ← Option.some.inj ha]
      obtain ⟨j, t0, a, e1, e2, e3, e4, e5⟩ := lb k d0 hsk
      rw [hk] at e1
      cases e1
      obtain ⟨d', f1, f2⟩ := lent k d0 hsk
      obtain ⟨_, f3⟩ := t.bor k d' f1
      obtain ⟨b, g1, g2⟩ := E1.own k _ d' f1 rfl
      rw [f3, map_some_get e5] at g1
      cases g1
      have of := outFor_nd nd hk f2
      have ed : d' = d := by
        have := backS_get' ps outs 0 ρ i _ h1
        rw [h] at this
        have := Option.some.inj this
        rw [Nat.zero_add] at this
        unfold backS1 at this
        rw [of, q2] at this
        rw [this, wid_mine q2] at m
        exact Option.some.inj m
      subst ed
      exact ⟨a, e4, g2.move (fun _ _ e _ => e) (fun _ e => e) fun b _ z => yB b z⟩
    · have e0 : s' = s0 := by
        rcases h2 with e | ⟨d0, d1, w1, w2, w3⟩
        · exact e
        · obtain ⟨k, hk, _⟩ := outFor_get w2
          exact absurd ⟨k, hk⟩ hl
      subst e0
      obtain ⟨a, e1, e2⟩ := E.own i s' d h1 m
      refine ⟨a, e1, e2.move kp (fun o e => t.keep a o e fun z => ?_) yO⟩
      obtain ⟨k, u, d1, w1, w2, w3⟩ := z
      obtain rfl := isb w1 w2
      obtain ⟨j, t0, b, x1, x2, x3, x4, x5⟩ := lb k d1 w1
      rw [map_some_get x5] at w3
      cases w3
      have := E.inj i j s' t0 d d1 _ h1 x2 m x3 e1 x4
      subst this
      exact hl ⟨k, x1⟩
  refine ⟨⟨by rw [backS_len]; exact E.len, fun a z => E1.zd a (c2 a z), fun a z q => ?_, fun i d h => ?_, own, fun i j s t d e a h1 h2 m1 m2 e1 e2 => ?_⟩, ⟨fun a o e n => t.keep a o e fun z => n (ob a z), t.dom, fun i d a h e => ?_, fun i d h => ?_⟩, yB⟩
  · rcases c4 a z with z | z
    · exact E.zo a z (obB a q)
    · exact E.yd a (.inr (obB a q)) z
  · obtain ⟨s0, h1, h2⟩ := sl h
    have e0 : s0 = .val d := by
      rcases h2 with e | ⟨d0, d1, w1, _, w3⟩
      · exact e.symm
      · rcases mine_cases w1 with rfl | rfl <;> cases w3
    subst e0
    obtain ⟨v, e1, e2⟩ := E.val i d h1
    exact ⟨v, e1, e2.move kp yO d v⟩
  · obtain ⟨s0, d0, p1, p2⟩ := mn h1 m1
    obtain ⟨t0, e0, q1, q2⟩ := mn h2 m2
    exact E.inj i j s0 t0 d0 e0 a p1 q1 p2 q2 e1 e2
  · obtain ⟨s0, h1, h2⟩ := sl h
    rcases h2 with rfl | ⟨d0, d1, w1, _, w3⟩
    · exact .inl ⟨⟨d, h1⟩, e⟩
    · rcases mine_cases w1 with rfl | rfl
      · exact .inl ⟨⟨d0, h1⟩, e⟩
      · cases w3
  · obtain ⟨s0, h1, h2⟩ := sl h
    rcases h2 with rfl | ⟨d0, d1, w1, _, w3⟩
    · exact ⟨⟨d, h1⟩, rfl⟩
    · rcases mine_cases w1 with rfl | rfl
      · cases w3
      · exact ⟨⟨d0, h1⟩, rfl⟩
theorem call_out (E : ER ω K Z ρ σ H) {ps : List P} {ss : List S} {vs : List V} {s : S} {outs : List S} {v : V} (rp : Paired (RP K Z ρ σ H) vs ps) (hs : argsS ρ ps = some ss) (nd : (ps.filterMap atIx).Nodup)
    (pc : PostC ω K (ZC Z ρ σ ss vs) ss vs H s outs v H1) : PostE ω K Z ρ σ H s (backS ps outs 0 ρ) v H1 := by
  obtain ⟨ρ1, σ1, E1, t, lent, rs⟩ := pc.ex
  obtain ⟨B1, B2, B3⟩ := call_er E (Z2 := Z) rp hs nd E1 t lent (fun b z => .inl z) (fun b z => z) (fun b z => .inl z)
  refine ⟨B1, B2, ?_⟩
  cases s with
  | un => exact rs
  | bor d => exact rs
  | val d => exact Rp.move (fun _ _ e _ => e) (fun a _ z => B3 a z) d v rs
  | own d =>
    obtain ⟨a, rfl, hn, nz, Ea, oa⟩ := rs
    obtain ⟨C1, C2, C3⟩ := call_er E (Z2 := fun b => Z b ∨ b = a) rp hs nd Ea t lent (fun b z => z.elim (fun z => .inl (.inl z)) .inr) (fun b z => .inl z) (fun b z => z.elim .inl fun z => .inr (by rw [z]; exact hn))
    exact ⟨a, rfl, hn, fun z => nz (.inl z), C1, oa.move (fun _ _ e _ => e) (fun _ e => e) fun b _ z => C3 b z⟩
end

/-- all the defs that may be called, at a level -/
def BindAny (K : PySem.W.Frag) (fd : FuncData) (ps : List Str) : Prop := ∀ (s : Shared) (us ws : List Value), K.In s.heap → (us ++ ws).length = ps.length → BindsTo s fd ⟨us, (ps.drop us.length).zip ws⟩ (ps.zip (us ++ ws))
structure CalAt (P : Program) (w : World) (K : PySem.W.Frag) (mg : Str → Option Value) (base : Heap) (n : Nat) (x : Str) (ps : List Str) (F : Fn) : Prop where
  ex : ∃ (f : Addr) (fd : FuncData), FnOk P w K mg base CX0 n f fd ps (spD w K ps.length F) ∧ mg x = some (.ref f) ∧ PySem.W.keepIn K (.ref f) = true ∧ BindAny K fd ps
section
variable {X : Cx} {n : Nat} {x : Str} {ps : List Str} {F : Fn} {p pos kpos : Pos} {e : Expr} {es : List Expr} {kws : List Keyword} {f g : FL} {nm : Option Str}
theorem call_sp {σ : Sg} {H : Hp} {Q : VK} {m : Nat} (h : tFE X (fnCall m F f) σ H Q) : tFL X f σ H fun vs H1 => spD X.w X.K m F vs H1 Q E0 := by
  obtain ⟨Z, ρ, E, h⟩ := h
  refine ⟨Z, ρ, E, (Ask.bind h).mono fun q _ h vs H1 pl => ?_⟩
  obtain ⟨ss, hs, h⟩ := (Ask.bind h).of
  cases hd : (decide (q.1.filterMap atIx).Nodup && decide (q.1.length = m)) with
  | false => rw [hd] at h; exact h.elim
  | true =>
    rw [hd, if_pos rfl] at h
    rw [Bool.and_eq_true] at hd
    have nd := of_decide_eq_true hd.1
    have ln := of_decide_eq_true hd.2
    obtain ⟨Ec, lb, ob⟩ := call_in pl.er pl.rp hs nd
    refine ⟨by rw [pl.rp.length]; exact ln, _, ss, Ec, argsS_ok hs, ?_⟩
    have h := Ask.bind h
    cases hF : F ss with
    | stuck => rw [hF] at h; exact h.elim
    | exc c d => rw [hF] at h; exact h.elim
    | ok r =>
      rw [hF] at h
      intro v H2 pc
      have po := call_out pl.er pl.rp hs nd pc
      exact h v H2 ⟨po.er, pl.st.trans po.st, RS.back po.rs pl.st⟩
theorem pe_callF (hc : CalAt X.prog X.w X.K X.mg X.base n x ps F) (hr : Room n X.A) (hg : Gl X x) (ha : PA X (e :: es) (tFL X f)) (hdb : (x == ("__debug__" : Str)) = false)
    (he : starEach (e :: es) X.env = (false, eval e X.env) :: starEach es X.env) (hpl : (backTo pos (starEach es X.env)).any (·.1) = false) : PE X (.Call (.Name x p) (e :: es) [] pos) (tFE X (fnCall ps.length F f)) := by
  obtain ⟨fa, fd, Fk, hm, hk, hb⟩ := hc.ex
  have b : Binds X.K fd ps [] := fun s us k hl => by
    have := hb s us [] k hl
    rw [List.zip_nil_right] at this
    exact this
  exact (pe_call Fk hr hg hm hk b .nil pass0 ha hdb he hpl).imp fun σ H Q h => by
    have h := call_sp h
    obtain ⟨Z, ρ, E, h⟩ := h
    refine ⟨Z, ρ, E, h.mono' fun q h v H1 pl => ?_⟩
    show spD X.w X.K ps.length F (v ++ []) H1 Q E0
    rw [List.append_nil]
    exact h v H1 pl
theorem pe_callF0 (hc : CalAt X.prog X.w X.K X.mg X.base n x ps F) (hr : Room n X.A) (hg : Gl X x) (hdb : (x == ("__debug__" : Str)) = false) : PE X (.Call (.Name x p) [] [] pos) (tFE X (fnCall ps.length F nilF)) := by
  obtain ⟨fa, fd, Fk, hm, hk, hb⟩ := hc.ex
  have b : Binds X.K fd ps [] := fun s us k hl => by
    have := hb s us [] k hl
    rw [List.zip_nil_right] at this
    exact this
  exact (pe_call0 Fk hr hg hm hk b .nil pass0 hdb).imp fun σ H Q h => by
    have h := call_sp h
    obtain ⟨Z, ρ, E, h⟩ := h
    exact h [] H ⟨E, Stp.refl, .nil⟩
theorem pk_nilF : PK X [] (tFL X nilF) := by
  refine ⟨fun pos pins s σ H Q I h => pk_nil.run pos pins s σ H Q I ?_⟩
  obtain ⟨Z, ρ, E, h⟩ := h
  exact h [] H ⟨E, Stp.refl, .nil⟩
theorem pk_consF {f : FP} (h1 : PE X e (tFP X f)) (h2 : PK X kws (tFL X g)) : PK X (⟨nm, e, kpos⟩ :: kws) (tFL X (consF f g)) :=
  ⟨fun pos pins s σ H Q I h => (pk_cons h1 h2).run pos pins s σ H Q I (cons_wp h)⟩
theorem app_wp {m : Nat} {σ : Sg} {H : Hp} {Q : List V → Hp → Prop} (h : tFL X (appL m f g) σ H Q) : tFL X f σ H fun vs H1 => vs.length = m ∧ tFL X g σ H1 fun zs H2 => Q (vs ++ zs) H2 := by
  obtain ⟨Z, ρ, E, h⟩ := h
  refine ⟨Z, ρ, E, (Ask.bind h).mono fun q _ h vs H1 pl => ?_⟩
  cases hd : decide (q.1.length = m) with
  | false => rw [hd] at h; exact h.elim
  | true =>
    rw [hd, if_pos rfl] at h
    refine ⟨by rw [pl.rp.length]; exact of_decide_eq_true hd, Z, q.2, pl.er, (Ask.bind h).mono fun r _ h zs H2 p2 => h _ H2 ⟨p2.er, pl.st.trans p2.st, ?_⟩⟩
    exact Paired.append' (Paired.mapP' pl.rp fun a b r => r.step p2.st) p2.rp
theorem kbinds_of {K : PySem.W.Frag} {fd : FuncData} {m : Nat} (hb : BindAny K fd ps) (hp : 0 < ps.length) : KBinds K fd ps (ps.drop m) (fun us ws => if us.length = m then us ++ ws else []) (fun us ws => if us.length = m then us ++ ws else []) where
  to := fun s us ws k hl => by
    by_cases h : us.length = m
    · rw [if_pos h] at hl ⊢
      rw [← h]
      exact hb s us ws k hl
    · rw [if_neg h] at hl
      have hl : 0 = ps.length := hl
      omega
  rel := fun {vs us zs ws} r1 r2 => by
    have h1 := r1.length
    by_cases h : vs.length = m
    · rw [if_pos h, if_pos (by omega)]
      exact r1.append r2
    · rw [if_neg h, if_neg (by omega)]
      exact .nil
theorem pe_callFK (hc : CalAt X.prog X.w X.K X.mg X.base n x ps F) (hr : Room n X.A) (hg : Gl X x) (ha : PA X (e :: es) (tFL X f)) (hkw : PK X kws (tFL X g)) (hp : 0 < ps.length)
    (hall : (backToKw pos (keywordEach kws X.env)).all (·.1.isSome) = true) (hks : (backToKw pos (keywordEach kws X.env)).filterMap (·.1) = ps.drop (e :: es).length) (hdb : (x == ("__debug__" : Str)) = false)
    (he : starEach (e :: es) X.env = (false, eval e X.env) :: starEach es X.env) (hpl : ((backTo pos (starEach (e :: es) X.env)).any (·.1) || (backToKw pos (keywordEach kws X.env)).any (·.1.isNone)) = false) :
    PE X (.Call (.Name x p) (e :: es) kws pos) (tFE X (fnCall ps.length F (appL (e :: es).length f g))) := by
  obtain ⟨fa, fd, Fk, hm, hk, hb⟩ := hc.ex
  exact (pe_callK Fk hr hg hm hk (kbinds_of (m := (e :: es).length) hb hp) pass0 ha hkw hall hks hdb he hpl).imp fun σ H Q h => by
    have h := app_wp (call_sp h)
    obtain ⟨Z, ρ, E, h⟩ := h
    refine ⟨Z, ρ, E, h.mono' fun q h v H1 pl => ?_⟩
    obtain ⟨hl, Z2, ρ2, E2, h⟩ := h v H1 pl
    refine ⟨Z2, ρ2, E2, h.mono' fun q h zs H2 p2 => ?_⟩
    show spD X.w X.K ps.length F (if v.length = (e :: es).length then v ++ zs else []) H2 Q E0
    rw [if_pos hl]
    exact h zs H2 p2
theorem pe_callFK0 (hc : CalAt X.prog X.w X.K X.mg X.base n x ps F) (hr : Room n X.A) (hg : Gl X x) (hkw : PK X kws (tFL X g)) (hp : 0 < ps.length)
    (hall : (backToKw pos (keywordEach kws X.env)).all (·.1.isSome) = true) (hks : (backToKw pos (keywordEach kws X.env)).filterMap (·.1) = ps) (hdb : (x == ("__debug__" : Str)) = false)
    (hpl : ((backTo pos (starEach [] X.env)).any (·.1) || (backToKw pos (keywordEach kws X.env)).any (·.1.isNone)) = false) :
    PE X (.Call (.Name x p) [] kws pos) (tFE X (fnCall ps.length F g)) := by
  obtain ⟨fa, fd, Fk, hm, hk, hb⟩ := hc.ex
  refine ⟨fun pins s σ H Q I h => ?_⟩
  have h := call_sp h
  refine wpAny_Call_Name_kw (ld_glob I hg hm ?_ hdb)
  refine PySem.W.callWith_KW0 (h₀ := X.base) I.ok.mod.kin hk hall (thn (hkw.run pos pins s σ H _ I h) fun ws s2 ⟨zs, H2, I2, rz, q2⟩ => ⟨I2.kIn, ?_⟩) hpl
  rw [hks]
  have hb0 := kbinds_of (m := 0) hb hp
  rw [List.drop_zero] at hb0
  exact run_fnk (us := []) (vs := []) Fk hr hb0 pass0 I2 .nil rz q2
end
end DL

namespace DL
open PySem PySem.Spec PyProof.Rows L2

/-! ### a small language, its meaning -/
mutual
inductive Tg where
  | nm (i : Nat)
  | tup (ts : Tgs)
inductive Tgs where
  | nil
  | cons (t : Tg) (r : Tgs)
end
mutual
inductive Ex where
  | c (k : Const)
  | v (i : Nat)
  | bin (o : Operator) (a b : Op)
  | cmp (o : CmpOp) (a b : Op)
  | ix (a b : Op)
  | sl (a : Op) (lo hi : Oo)
  | neg (a : Op)
  | nt (a : Ex)
  | bo (k : Bool) (es : Exs)
  | ite (t : Te) (a b : Ex)
  | tup (es : Exs)
  | lst (es : Exs)
  | bi (b : Bi) (as : Ops)
  | isa (T : Ty) (a : Op)
  | call (x : Nat) (as : Ops)
  | callK (x : Nat) (as ks : Ops)
  | lc (it : It) (tg : Tg) (own : List (Str × Nat)) (ts : Tes) (e : Ex)
  | app (k : Nat) (e : Ex)
  | ext (k : Nat) (e : Ex)
  | pop (k : Nat)
  | popAt (k : Nat) (a : Op)
  | rl1 (t : Bool) (a : Op)
  | rl2 (t : Bool) (a b : Op)
  | sset (a : Op)
  | dctL (a : Op)
  | dctT (k : Nat)
  | dget (k : Nat) (a b : Op)
  | sun (a b : Op)
inductive Op where
  | at (i : Nat)
  | ex (e : Ex)
inductive Oo where
  | no
  | so (a : Op)
inductive Ops where
  | nil
  | cons (a : Op) (r : Ops)
inductive Exs where
  | nil
  | cons (e : Ex) (r : Exs)
inductive It where
  | seq (e : Ex)
  | enum (e : Ex)
  | rev (e : Ex)
  | zip (as : Ops)
  | rng (as : Ops)
inductive Te where
  | e (x : Ex)
  | at (i : Nat)
  | cmp (o : CmpOp) (a b : Op)
  | nt (t : Te)
  | bo (k : Bool) (ts : Tes)
inductive Tes where
  | nil
  | cons (t : Te) (r : Tes)
end
mutual
inductive St where
  | set (i : Nat) (e : Ex)
  | asg (e : Ex) (tg : Tg)
  | par (is : List Nat) (es : Exs)
  | setIx (k : Nat) (i : Op) (e : Ex)
  | aug (i : Nat) (e : Ex)
  | ex (e : Ex)
  | ret (e : Ex)
  | retv (i : Nat)
  | retn
  | ite (t : Te) (a b : Sts)
  | wh (t : Te) (b : Sts)
  | for (it : It) (tg : Tg) (b : Sts)
  | pass
  | brk
  | cnt
inductive Sts where
  | nil
  | cons (s : St) (r : Sts)
end

def constD : Const → D
  | .bool b => .bool b
  | .int i => .int i
  | .str s => .str s
  | _ => .none
mutual
def Tg.den : Tg → FT
  | .nm i => nameT i
  | .tup ts => tupT ts.len ts.den
def Tgs.den : Tgs → FTs
  | .nil => nilT
  | .cons t r => consT t.den r.den
def Tgs.len : Tgs → Nat
  | .nil => 0
  | .cons _ r => r.len + 1
end
mutual
def Tg.ns : Tg → List Nat
  | .nm i => [i]
  | .tup ts => ts.ns
def Tgs.ns : Tgs → List Nat
  | .nil => []
  | .cons t r => t.ns ++ r.ns
end
def Ops.len : Ops → Nat
  | .nil => 0
  | .cons _ r => r.len + 1
def Exs.len : Exs → Nat
  | .nil => 0
  | .cons _ r => r.len + 1
/-- and, or of values; of tests -/
def boF (k : Bool) : List FE → FE
  | [] => fun _ => .stuck
  | [f] => f
  | f :: r => if k then andF f (boF k r) else orF f (boF k r)
def notB (f : FB) : FB := fun ρ => (f ρ).bind fun q => .ok (!q.1, q.2)
def andB (f g : FB) : FB := fun ρ => (f ρ).bind fun q => if q.1 then g q.2 else .ok (false, q.2)
def orB (f g : FB) : FB := fun ρ => (f ρ).bind fun q => if q.1 then .ok (true, q.2) else g q.2
def boB (k : Bool) : List FB → FB
  | [] => fun _ => .stuck
  | [f] => f
  | f :: r => if k then andB f (boB k r) else orB f (boB k r)
def yesB : FB := fun ρ => .ok (true, ρ)
def atB (i : Nat) : FB := fun ρ => (R.of (((ρ[i]?).bind S.data).bind truD)).bind fun b => .ok (b, ρ)
def ifsB : List FB → FB
  | [] => yesB
  | [f] => f
  | _ => fun _ => .stuck
def augF (i : Nat) (f : FE) : FS := fun ρ => match ρ[i]? with
  | some (.val (.int a)) => (f ρ).bind fun q => match q.1 with
    | .val (.int b) => .ok (.nx, q.2.set i (.val (.int (a + b))))
    | _ => .stuck
  | _ => .stuck
section
variable (F : Nat → Fn)
mutual
def Ex.den : Ex → FE
  | .c k => cstF (constD k)
  | .v i => varF i
  | .bin o a b => op2F (opD o) a.den b.den
  | .cmp o a b => op2F (cmpD o) a.den b.den
  | .ix a b => op2F ixD a.den b.den
  | .sl a lo hi => slF a.den lo.den hi.den
  | .neg a => un1F negD a.den
  | .nt a => notF (truF a.den)
  | .bo k es => boF k es.den
  | .ite t a b => ifF t.den a.den b.den
  | .tup es => dispF (fun ds => .val (.tuple ds)) es.denL
  | .lst es => dispF (fun ds => .own (.list ds)) es.denL
  | .bi b as => callF b.run as.den
  | .isa T a => isaF T a.den
  | .call x as => fnCall as.len (F x) as.den
  | .callK x as ks => fnCall (as.len + ks.len) (F x) (appL as.len as.den ks.den)
  | .lc it tg own ts e => lcF it.den tg.den (ifsB ts.den) e.den (own.map (·.2))
  | .app k e => appF k e.den
  | .ext k e => extF k e.den
  | .pop k => popF k
  | .popAt k a => popAtF k a.den
  | .rl1 t a => un1F (rl1D t) a.den
  | .rl2 t a b => op2F (rl2D t) a.den b.den
  | .sset a => un1F ssetD a.den
  | .dctL a => un1F dctLD a.den
  | .dctT k => dctTF k
  | .dget k a b => dgetF k a.den b.den
  | .sun a b => sunF a.den b.den
def Op.den : Op → FP
  | .at i => atF i
  | .ex e => shareF e.den
def Oo.den : Oo → Option FP
  | .no => none
  | .so a => some a.den
def Ops.den : Ops → FL
  | .nil => nilF
  | .cons a r => consF a.den r.den
def Exs.den : Exs → List FE
  | .nil => []
  | .cons e r => e.den :: r.den
def Exs.denL : Exs → FL
  | .nil => nilF
  | .cons e r => consF (shareF e.den) r.denL
def It.den : It → FI
  | .seq e => seqI e.den
  | .enum e => enumI e.den
  | .rev e => revI e.den
  | .zip as => zipI as.den
  | .rng as => rangeI (match as.len with | 1 => range1D | 2 => range2D | _ => range3D) as.den
def Te.den : Te → FB
  | .e x => truF x.den
  | .at i => atB i
  | .cmp o a b => truF (op2F (cmpD o) a.den b.den)
  | .nt t => notB t.den
  | .bo k ts => boB k ts.den
def Tes.den : Tes → List FB
  | .nil => []
  | .cons t r => t.den :: r.den
end
def Exs.denS : Exs → FLS
  | .nil => nilS
  | .cons e r => consS (e.den F) r.denS
mutual
def St.den : St → FS
  | .set i e => setF i (e.den F)
  | .asg e tg => asgF (e.den F) tg.den
  | .par is es => parF is (es.denS F)
  | .setIx k i e => setIxF k (i.den F) (e.den F)
  | .aug i e => augF i (e.den F)
  | .ex e => dropF (e.den F)
  | .ret e => retF (e.den F)
  | .retv i => retvF i
  | .retn => retnF
  | .ite t a b => ifS (t.den F) a.den b.den
  | .wh t b => whF (t.den F) b.den
  | .for it tg b => forF (it.den F) tg.den b.den
  | .pass => nxF
  | .brk => bkF
  | .cnt => ctF
def Sts.den : Sts → FS
  | .nil => nxF
  | .cons s r => seqF s.den r.den
end
end

/-! ### does the text say so? -/
def isStar : Expr → Bool
  | .Starred .. => true
  | _ => false
def isSlice : Expr → Bool
  | .Slice .. => true
  | _ => false
def isComp : Expr → Bool
  | .ListComp .. => true
  | .SetComp .. => true
  | .DictComp .. => true
  | _ => false
def isSetE : Expr → Bool
  | .Set .. => true
  | _ => false
def isTup : Expr → Bool
  | .Tuple .. => true
  | _ => false
/-- tests of this shape are the truth of their value -/
def plainT : Expr → Bool
  | .UnaryOp .Not _ _ => false
  | .BoolOp .. => false
  | .IfExp .. => false
  | .Compare .. => false
  | _ => true
/-- what a text is looked at with: names, the running scope, names that a block may write, built-ins by their names, defs with their parameters -/
structure Kt where
  N : List Str
  sc : Scope
  fk : Str → Bool
  bl : List Str
  T : List (Str × List Str)
def Kt.vis (k : Kt) (i : Nat) (x : Str) : Bool :=
  decide (k.N[i]? = some x) && (decide (k.sc.names.lookup x = some .local) || decide (k.sc.names.lookup x = some .cell) || decide (k.sc.names.lookup x = some .free)) && !(x == ("__debug__" : Str)) && !(x == ("__classdict__" : Str))
def Kt.wr (k : Kt) (i : Nat) (x : Str) : Bool :=
  decide (k.N[i]? = some x) && (decide (k.sc.names.lookup x = some .local) || (decide (k.sc.names.lookup x = some .cell) && k.fk x))
def Kt.gl (k : Kt) (x : Str) : Bool := decide (k.sc.names.lookup x = some .globalImplicit) && !(x == ("__debug__" : Str))
def Kt.blt (k : Kt) (x : Str) : Bool := k.gl x && decide (x ∈ k.bl)
def Kt.blk (k : Kt) (scope : Scope) : Kt := { k with sc := relS scope k.sc, fk := fun x => scope.names.lookup x == some .cell }
mutual
def Tg.chk (k : Kt) : Tg → Expr → Bool
  | .nm i, .Name x _ => k.wr i x
  | .tup ts, .Tuple es _ _ => ts.chk k es
  | _, _ => false
def Tgs.chk (k : Kt) : Tgs → List Expr → Bool
  | .nil, [] => true
  | .cons t r, e :: es => !isStar e && t.chk k e && r.chk k es
  | _, _ => false
end
mutual
def Ex.chk (k : Kt) : Ex → Expr → Bool
  | .c q, .Constant q' _ _ => decide (q = q') && (match q with | .none => true | .bool _ => true | .int _ => true | .str _ => true | _ => false)
  | .v i, .Name x _ => k.vis i x
  | .bin o a b, .BinOp x o' y _ => decide (o = o') && a.chk k x && b.chk k y
  | .cmp o a b, .Compare x [o'] [y] _ => decide (o = o') && a.chk k x && b.chk k y && !behindInMarks o y
  | .ix a b, .Subscript x y _ => a.chk k x && b.chk k y && !isSlice y
  | .sl a lo hi, .Subscript x (.Slice l h none _) _ => a.chk k x && lo.chk k l && hi.chk k h
  | .neg a, .UnaryOp .USub x _ => a.chk k x
  | .nt a, .UnaryOp .Not x _ => a.chk k x
  | .bo true es, .BoolOp .And xs _ => es.chk k xs && !xs.isEmpty
  | .bo false es, .BoolOp .Or xs _ => es.chk k xs && !xs.isEmpty
  | .ite t a b, .IfExp x y z _ => t.chk k x && a.chk k y && b.chk k z
  | .tup es, .Tuple xs _ _ => es.chk k xs
  | .lst es, .List xs _ => es.chk k xs
  | .bi b as, .Call (.Name x _) xs [] _ => decide (x = b.name) && k.blt x && as.chk k xs && !xs.isEmpty
  | .isa T a, .Call (.Name x _) [y, .Name z _] [] _ => decide (x = "isinstance") && decide (z = T.nameS) && k.blt x && k.blt z && a.chk k y && !isStar y
  | .call x as, .Call (.Name y _) xs [] _ => decide (k.T[x]?.map (·.1) = some y) && k.gl y && as.chk k xs && decide (k.T[x]?.map (·.2.length) = some xs.length)
  | .callK x as ks, .Call (.Name y _) xs kws _ => decide (k.T[x]?.map (·.1) = some y) && k.gl y && as.chk k xs && ks.chkK k kws && !kws.isEmpty && decide (k.T[x]?.map (·.2.length) = some (xs.length + kws.length)) && decide (k.T[x]?.map (fun p => (p.2.drop xs.length).map some) = some (kws.map (·.arg)))
  | .lc it tg own ts e, .ListComp elt [⟨t, iter, ifs, a⟩] scope _ => decide (a = 0) && it.chk k t iter && blkC k.N k.sc scope own && tg.chk (k.blk scope) t && tg.ns.all (fun i => decide (i ∈ own.map (·.2))) && ts.chk (k.blk scope) ifs && decide (ifs.length ≤ 1) && e.chk (k.blk scope) elt && !isSetE iter
  | .app i e, .Call (.Attribute (.Name x _) m ap) [y] [] cp => k.vis i x && decide (m = "append") && e.chk k y && !isStar y && (ap.endLine == cp.line)
  | .ext i e, .Call (.Attribute (.Name x _) m ap) [y] [] cp => k.vis i x && decide (m = "extend") && e.chk k y && !isStar y && (ap.endLine == cp.line)
  | .pop i, .Call (.Attribute (.Name x _) m ap) [] [] cp => k.vis i x && decide (m = "pop") && (ap.endLine == cp.line)
  | .popAt i a, .Call (.Attribute (.Name x _) m ap) [y] [] cp => k.vis i x && decide (m = "pop") && a.chk k y && !isStar y && (ap.endLine == cp.line)
  | .rl1 t a, .Call (.Name x _) [.Call (.Name z _) [y] [] _] [] _ => decide (x = if t then "tuple" else "list") && decide (z = "range") && k.blt x && k.blt z && a.chk k y && !isStar y
  | .rl2 t a b, .Call (.Name x _) [.Call (.Name z _) [y, w] [] _] [] _ => decide (x = if t then "tuple" else "list") && decide (z = "range") && k.blt x && k.blt z && a.chk k y && b.chk k w && !isStar y && !isStar w
  | .sset a, .Call (.Name x _) [.Call (.Name z _) [y] [] _] [] _ => decide (x = "sorted") && decide (z = "set") && k.blt x && k.blt z && a.chk k y && !isStar y
  | .dctL a, .Call (.Name x _) [y] [] _ => decide (x = "dict") && k.blt x && a.chk k y && !isStar y
  | .dctT i, .Call (.Name x _) [.Name y _] [] _ => decide (x = "dict") && k.blt x && k.vis i y
  | .dget i a b, .Call (.Attribute (.Name x _) m ap) [y, z] [] cp => k.vis i x && decide (m = "get") && a.chk k y && b.chk k z && !isStar y && !isStar z && (ap.endLine == cp.line)
  | .sun a b, .Call (.Name x _) [.BinOp (.Call (.Name y _) [u] [] _) o (.Call (.Name z _) [v] [] _) _] [] _ => decide (x = "sorted") && decide (y = "set") && decide (z = "set") && decide (o = .BitOr) && k.blt x && k.blt y && a.chk k u && b.chk k v && !isStar u && !isStar v
  | _, _ => false
def Op.chk (k : Kt) : Op → Expr → Bool
  | .at i, .Name x _ => k.vis i x
  | .ex e, x => e.chk k x
  | _, _ => false
def Oo.chk (k : Kt) : Oo → Option Expr → Bool
  | .no, none => true
  | .so a, some x => a.chk k x
  | _, _ => false
def Ops.chk (k : Kt) : Ops → List Expr → Bool
  | .nil, [] => true
  | .cons a r, x :: xs => !isStar x && a.chk k x && r.chk k xs
  | _, _ => false
def Ops.chkK (k : Kt) : Ops → List Keyword → Bool
  | .nil, [] => true
  | .cons a r, ⟨_, x, _⟩ :: xs => a.chk k x && r.chkK k xs
  | _, _ => false
def Exs.chk (k : Kt) : Exs → List Expr → Bool
  | .nil, [] => true
  | .cons a r, x :: xs => !isStar x && a.chk k x && r.chk k xs
  | _, _ => false
def It.chk (k : Kt) : It → Expr → Expr → Bool
  | .seq e, _, x => e.chk k x
  | .enum e, t, .Call (.Name y _) [x] [] _ => decide (y = "enumerate") && k.blt y && e.chk k x && !isStar x && isTup t
  | .rev e, _, .Call (.Name y _) [x] [] _ => decide (y = "reversed") && k.blt y && e.chk k x && !isStar x
  | .zip as, t, .Call (.Name y _) [x, z] [] _ => decide (y = "zip") && k.blt y && as.chk k [x, z] && isTup t
  | .rng as, _, .Call (.Name y _) xs [] _ => decide (y = "range") && k.blt y && as.chk k xs && decide (1 ≤ xs.length) && decide (xs.length ≤ 3)
  | _, _, _ => false
def Te.chk (k : Kt) : Te → Expr → Bool
  | .e x, y => x.chk k y && plainT y
  | .at i, .Name x _ => k.vis i x
  | .cmp o a b, .Compare x [o'] [y] _ => decide (o = o') && a.chk k x && b.chk k y && !behindInMarks o y
  | .nt t, .UnaryOp .Not x _ => t.chk k x
  | .bo true ts, .BoolOp .And xs _ => ts.chk k xs && !xs.isEmpty
  | .bo false ts, .BoolOp .Or xs _ => ts.chk k xs && !xs.isEmpty
  | _, _ => false
def Tes.chk (k : Kt) : Tes → List Expr → Bool
  | .nil, [] => true
  | .cons t r, x :: xs => t.chk k x && r.chk k xs
  | _, _ => false
end
/-- name = e: when is the block's own store put first? -/
def swB (k : Kt) (x : Str) (p : Pos) (e : Expr) : Bool := match e with
  | .ListComp _ _ scope q => decide (k.sc.names.lookup x = some .local) && (p.line == q.line) && !(scope.names.any fun (n, k) => n == x && (k == .local || k == .cell))
  | _ => false
def parOk (k : Kt) (is : List Nat) (ts vs : List Expr) : Bool := match is, ts, vs with
  | [i, j], [.Name x px, .Name y py], [a, b] => decide (k.N[i]? = some x) && decide (k.N[j]? = some y) && decide (i ≠ j) && decide (k.sc.names.lookup x = some .local) && decide (k.sc.names.lookup y = some .local) && (px.line == py.line) && !(x == y)
      && !([a, b].all (foldedForSure 8)) && !([a, b].all (constantsAlone 8)) && !isStar a && !isStar b
  | [i, j, l], [.Name x px, .Name y py, .Name z pz], [a, b, c] => decide (k.N[i]? = some x) && decide (k.N[j]? = some y) && decide (k.N[l]? = some z) && decide (i ≠ j) && decide (i ≠ l) && decide (j ≠ l) && decide (k.sc.names.lookup x = some .local) && decide (k.sc.names.lookup y = some .local) && decide (k.sc.names.lookup z = some .local)
      && (px.line == py.line) && (px.line == pz.line) && !(x == y) && !(x == z) && !(y == z) && !([a, b, c].all (foldedForSure 8)) && !([a, b, c].all (constantsAlone 8)) && !isStar a && !isStar b && !isStar c
  | _, _, _ => false
def parOk2 (k : Kt) (is : List Nat) (ts vs : List Expr) : Bool := match is, ts, vs with
  | [i, j], [.Name x px, .Name y py], [a, b] => k.wr i x && k.wr j y && (!decide (k.sc.names.lookup x = some .local) || !decide (k.sc.names.lookup y = some .local)) && !isStar a && !isStar b
  | _, _, _ => false
def asgOk : Expr → Expr → Bool
  | .Tuple ts _ _, .Tuple vs _ _ => vs.all (foldedForSure 8) || !(ts.length == 2 || ts.length == 3)
  | .Tuple _ _ _, _ => true
  | _, _ => false
mutual
def St.chk (k : Kt) : St → Stmt → Bool
  | .set i e, .Assign [.Name x p] y _ => k.wr i x && e.chk k y && !isStar y && (swB k x p y || !isComp y || decide (k.sc.names.lookup x ≠ some .local))
  | .asg e tg, .Assign [t] y _ => e.chk k y && tg.chk k t && asgOk t y
  | .par is es, .Assign [.Tuple ts _ _] (.Tuple vs _ _) _ => es.chk k vs && (parOk k is ts vs || parOk2 k is ts vs)
  | .setIx i o e, .Assign [.Subscript (.Name x _) y _] z _ => k.vis i x && o.chk k y && e.chk k z && !isSlice y
  | .aug i e, .AugAssign (.Name x _) op y _ => decide (op = .Add) && k.wr i x && k.vis i x && e.chk k y
  | .ex e, .Expr x _ => e.chk k x && !isComp x
  | .ret e, .Return (some x) _ => e.chk k x
  | .retv i, .Return (some (.Name x _)) _ => k.vis i x
  | .retn, .Return none _ => true
  | .ite t a b, .If x ys zs _ => t.chk k x && a.chk k ys && b.chk k zs
  | .wh t b, .While x ys [] _ => t.chk k x && b.chk k ys
  | .for it tg b, .For t x ys [] _ => it.chk k t x && tg.chk k t && b.chk k ys && !isSetE x
  | .pass, .Pass _ => true
  | .brk, .Break _ => true
  | .cnt, .Continue _ => true
  | _, _ => false
def Sts.chk (k : Kt) : Sts → List Stmt → Bool
  | .nil, [] => true
  | .cons s r, x :: xs => s.chk k x && r.chk k xs
  | _, _ => false
end
end DL

namespace DL
open PySem PySem.Spec PyProof.Rows L2

structure Ok (k : Kt) (n : Nat) (F : Nat → Fn) (X : Cx) : Prop where
  hN : X.N = k.N
  nd : k.N.Nodup
  hsc : X.env.scope = k.sc
  kd : k.sc.kind = .function
  calm : X.calm = true
  rm : Room n X.A
  hp : PassesOwn (model X.prog X.w) X.A X.env X.xe
  fk : ∀ x, k.fk x = true → X.fn x = true
  bl : ∀ x ∈ k.bl, X.mg x = none
  fns : ∀ i x ps, k.T[i]? = some (x, ps) → CalAt X.prog X.w X.K X.mg X.base n x ps (F i)
section
variable {k : Kt} {n : Nat} {F : Nat → Fn} {X : Cx}
theorem Ok.un (h : Ok k n F X) : X.A.units + 200 < cLine := by have := h.rm.un; omega
theorem Ok.blk (h : Ok k n F X) {scope : Scope} (hs : scope.kind = .function) (s : Shared) (H : Hp) (C : Addr) (cl : List (Str × Addr)) (fp : List Addr) : Ok (k.blk scope) n F (X.blk s H scope (compEnvC scope cl C X.env) fp) where
  hN := h.hN
  nd := h.nd
  hsc := by
    show relS scope X.env.scope = relS scope k.sc
    rw [h.hsc]
  kd := hs
  calm := h.calm
  rm := h.rm
  hp := PassesOwn.never
  fk := fun x q => q
  bl := h.bl
  fns := h.fns
theorem vis_of (h : Ok k n F X) {i : Nat} {x : Str} (q : k.vis i x = true) : X.N[i]? = some x ∧ Vis X.env.scope x ∧ (x == ("__debug__" : Str)) = false ∧ (x == ("__classdict__" : Str)) = false := by
  unfold Kt.vis at q
  simp only [Bool.and_eq_true, Bool.or_eq_true, decide_eq_true_eq, Bool.not_eq_true'] at q
  obtain ⟨⟨⟨q1, q2⟩, q3⟩, q4⟩ := q
  refine ⟨by rw [h.hN]; exact q1, ?_, q3, q4⟩
  unfold Vis
  rw [h.hsc]
  rcases q2 with (q | q) | q
  · exact .inl q
  · exact .inr (.inl q)
  · exact .inr (.inr q)
theorem wr_of (h : Ok k n F X) {i : Nat} {x : Str} (q : k.wr i x = true) : X.N[i]? = some x ∧ L2.Loc X.env.scope x ∧ (X.fn x = true ∨ X.env.scope.names.lookup x = some .local) := by
  unfold Kt.wr at q
  simp only [Bool.and_eq_true, Bool.or_eq_true, decide_eq_true_eq] at q
  obtain ⟨q1, q2⟩ := q
  unfold L2.Loc
  rw [h.hsc]
  rcases q2 with q | ⟨q, q'⟩
  · exact ⟨by rw [h.hN]; exact q1, .inl q, .inr q⟩
  · exact ⟨by rw [h.hN]; exact q1, .inr q, .inl (h.fk x q')⟩
theorem gl_of (h : Ok k n F X) {x : Str} (q : k.gl x = true) : Gl X x ∧ (x == ("__debug__" : Str)) = false := by
  unfold Kt.gl at q
  simp only [Bool.and_eq_true, decide_eq_true_eq, Bool.not_eq_true'] at q
  refine ⟨?_, q.2⟩
  show X.env.scope.names.lookup x = _
  rw [h.hsc]
  exact q.1
theorem blt_of (h : Ok k n F X) {x : Str} (q : k.blt x = true) : Gl X x ∧ X.mg x = none := by
  unfold Kt.blt at q
  simp only [Bool.and_eq_true, decide_eq_true_eq] at q
  exact ⟨(gl_of h q.1).1, h.bl x q.2⟩
end

/-! ### what the model's helpers say of plain texts -/
theorem star_cons {e : Expr} {es : List Expr} {env : Env} (h : isStar e = false) : starEach (e :: es) env = (false, eval e env) :: starEach es env := by
  cases e <;> first | rfl | cases h
def noStars : List Expr → Bool
  | [] => true
  | e :: es => !isStar e && noStars es
theorem back_none {pos : Pos} {env : Env} : ∀ {es : List Expr}, noStars es = true → (backTo pos (starEach es env)).any (·.1) = false
  | [], _ => rfl
  | e :: es, h => by
    have h : (!isStar e && noStars es) = true := h
    rw [Bool.and_eq_true, Bool.not_eq_true'] at h
    rw [star_cons h.1]
    show (false || (backTo pos (starEach es env)).any (·.1)) = false
    rw [back_none h.2]
    rfl
theorem noStars1 {e : Expr} (h : isStar e = false) : noStars [e] = true := by
  show (!isStar e && true) = true
  rw [h]
  rfl
theorem few1 {X : Cx} {cpos : Pos} {e : Expr} (h : isStar e = false) : FewArgs X cpos [e] := by
  unfold FewArgs
  rw [star_cons h]
  rfl
theorem kw_all {pos : Pos} {env : Env} : ∀ {kws : List Keyword} {ks : List Str}, kws.map (·.arg) = ks.map some → (backToKw pos (keywordEach kws env)).all (·.1.isSome) = true ∧ (backToKw pos (keywordEach kws env)).filterMap (·.1) = ks ∧ (backToKw pos (keywordEach kws env)).any (·.1.isNone) = false
  | [], [], _ => ⟨rfl, rfl, rfl⟩
  | [], _ :: _, h => by cases h
  | ⟨a, v, p⟩ :: kws, [], h => by cases h
  | ⟨a, v, p⟩ :: kws, x :: ks, h => by
    have h1 : a = some x := (List.cons.inj h).1
    obtain ⟨i1, i2, i3⟩ := kw_all (pos := pos) (env := env) (List.cons.inj h).2
    subst h1
    refine ⟨?_, ?_, ?_⟩
    · show (true && (backToKw pos (keywordEach kws env)).all (·.1.isSome)) = true
      rw [i1]; rfl
    · show x :: (backToKw pos (keywordEach kws env)).filterMap (·.1) = x :: ks
      rw [i2]
    · show (false || (backToKw pos (keywordEach kws env)).any (·.1.isNone)) = false
      rw [i3]; rfl
theorem plainIx_of {b : Expr} (h : isSlice b = false) : PlainIx b := by
  intro o i
  cases b <;> first | rfl | cases h
theorem folded_of {e : Expr} {env : Env} (h : isSetE e = false) (x : Value) : foldedSetIterable e env x = pure x := by
  cases e <;> first | rfl | cases h
theorem asg_sub {o i : Expr} {p : Pos} {env : Env} (h : isSlice i = false) (v : Value) : assign (.Subscript o i p) env v = (do
      let ov ← holding [v] (eval o env)
      let iv ← holding [v, ov] (eval i env)
      standAt p
      holding [v, ov, iv] (setItem ov iv v)
      release [v, ov, iv] []) := by
  cases i <;> first | rfl | cases h
theorem plainT_of {e : Expr} {env : Env} (h : plainT e = true) (whole : Sem Value) : isTrue e env whole = (do let v ← whole; standAt e.pos; holding [v] (truthy v)) := by
  cases e with
  | UnaryOp op a p => cases op <;> first | rfl | cases h
  | BoolOp => cases h
  | IfExp => cases h
  | Compare => cases h
  | _ => rfl
theorem swaps_plain {e : Expr} {t : Option Expr} {l : Nat} {env : Env} (h : isComp e = false) : swapsWith e t l env = pure false := by
  cases e <;> first | rfl | cases h
theorem each_len {env : Env} : ∀ {es : List Expr}, noStars es = true → (assignEach es env).length = es.length ∧ (assignEach es env).findIdx? (·.1) = none
  | [], _ => ⟨rfl, rfl⟩
  | e :: es, h => by
    have h : (!isStar e && noStars es) = true := h
    rw [Bool.and_eq_true, Bool.not_eq_true'] at h
    obtain ⟨i1, i2⟩ := each_len (env := env) h.2
    have e1 : assignEach (e :: es) env = (false, assign e env) :: assignEach es env := by
      obtain ⟨h1, _⟩ := h
      cases e <;> first | rfl | cases h1
    rw [e1]
    refine ⟨by rw [List.length_cons, List.length_cons, i1], ?_⟩
    rw [List.findIdx?_cons]
    simp [i2]
theorem each_cons {e : Expr} {es : List Expr} {env : Env} (h : isStar e = false) : (assignEach (e :: es) env).map (·.2) = assign e env :: (assignEach es env).map (·.2) := by
  cases e <;> first | rfl | cases h

/-! ### targets -/
section
variable {k : Kt} {n : Nat} {F : Nat → Fn} {X : Cx}
mutual
theorem Tg.ok (hk : Ok k n F X) : ∀ (t : Tg) (x : Expr), t.chk k x = true → PG X x (tFT X t.ns t.den)
  | .nm i, x, h => by
    cases x with
    | Name y p =>
      obtain ⟨h1, h2, h3⟩ := wr_of hk (show k.wr i y = true from h)
      exact pg_nameT (by rw [hk.hN]; exact hk.nd) h1 h2 h3
    | _ => cases h
  | .tup ts, x, h => by
    cases x with
    | Tuple es a p =>
      obtain ⟨h1, h2, h3⟩ := Tgs.ok hk ts es h
      have := each_len (env := X.env) h2
      exact pg_tupT hk.calm h1 (by rw [this.1, h3]) this.2
    | _ => cases h
theorem Tgs.ok (hk : Ok k n F X) : ∀ (t : Tgs) (xs : List Expr), t.chk k xs = true → PGs X xs (tFTs X t.ns t.den) ∧ noStars xs = true ∧ xs.length = t.len
  | .nil, xs, h => by
    cases xs with
    | nil => exact ⟨pgs_nilT, rfl, rfl⟩
    | cons => cases h
  | .cons t r, xs, h => by
    cases xs with
    | nil => cases h
    | cons x xs =>
      have h : (!isStar x && t.chk k x && r.chk k xs) = true := h
      simp only [Bool.and_eq_true, Bool.not_eq_true'] at h
      obtain ⟨i1, i2, i3⟩ := Tgs.ok hk r xs h.2
      refine ⟨pgs_consT (Tg.ok hk t x h.1.2) i1 (each_cons h.1.1), ?_, by rw [List.length_cons, i3]; rfl⟩
      show (!isStar x && noStars xs) = true
      rw [h.1.1, i2]
      rfl
end

/-! ### and, or; tests -/
theorem pe_boF {op : BoolOp} {b : Bool} (hb : op = if b then .And else .Or) {pos : Pos} : ∀ {fs : List FE} {xs : List Expr}, Paired (fun f x => PE X x (tFE X f)) fs xs → xs ≠ [] → PE X (.BoolOp op xs pos) (tFE X (boF b fs))
  | _, _, .nil, h => absurd rfl h
  | _, _, .cons r .nil, _ => pe_one r
  | _, _, .cons r (.cons r' t), _ => by
    have ih := pe_boF hb (pos := pos) (.cons r' t) (by simp)
    subst hb
    cases b with
    | true => exact pe_andF r ih
    | false => exact pe_orF r ih
theorem pt_notB {a : Expr} {f : FB} {pos : Pos} (ha : PT X a (tFB X f)) : PT X (.UnaryOp .Not a pos) (tFB X (notB f)) := (pt_not ha).imp fun σ H Q h => by
  obtain ⟨Z, ρ, E, h⟩ := h
  exact ⟨Z, ρ, E, (Ask.bind h).mono fun q _ h H1 p => h H1 p⟩
theorem pw_andB {a b : Expr} {rest : List Expr} {f g : FB} {pos : Pos} (ha : PT X a (tFB X f)) (hb : PW X (.BoolOp .And (b :: rest) pos) (tFB X g)) : PW X (.BoolOp .And (a :: b :: rest) pos) (tFB X (andB f g)) :=
  ⟨fun wh pins s σ H Q I h => (pw_and ha hb).run wh pins s σ H Q I (by
    obtain ⟨Z, ρ, E, h⟩ := h
    refine ⟨Z, ρ, E, (Ask.bind h).mono fun q _ h H1 p => ?_⟩
    obtain ⟨k, ρ1⟩ := q
    cases k with
    | true => exact iteT ⟨Z, ρ1, p.er, Ask.mono h fun r _ h H2 p2 => h H2 ⟨p2.er, p.st.trans p2.st⟩⟩
    | false => exact iteF (h H1 p))⟩
theorem pw_orB {a b : Expr} {rest : List Expr} {f g : FB} {pos : Pos} (ha : PT X a (tFB X f)) (hb : PW X (.BoolOp .Or (b :: rest) pos) (tFB X g)) : PW X (.BoolOp .Or (a :: b :: rest) pos) (tFB X (orB f g)) :=
  ⟨fun wh pins s σ H Q I h => (pw_or ha hb).run wh pins s σ H Q I (by
    obtain ⟨Z, ρ, E, h⟩ := h
    refine ⟨Z, ρ, E, (Ask.bind h).mono fun q _ h H1 p => ?_⟩
    obtain ⟨k, ρ1⟩ := q
    cases k with
    | false => exact iteF ⟨Z, ρ1, p.er, Ask.mono h fun r _ h H2 p2 => h H2 ⟨p2.er, p.st.trans p2.st⟩⟩
    | true => exact iteT (h H1 p))⟩
theorem pw_boB {op : BoolOp} {b : Bool} (hb : op = if b then .And else .Or) {pos : Pos} : ∀ {fs : List FB} {xs : List Expr}, Paired (fun f x => PT X x (tFB X f)) fs xs → xs ≠ [] → PW X (.BoolOp op xs pos) (tFB X (boB b fs))
  | _, _, .nil, h => absurd rfl h
  | _, _, .cons r .nil, _ => by
    subst hb
    cases b with
    | true => exact pw_and1 r
    | false => exact pw_or1 r
  | _, _, .cons r (.cons r' t), _ => by
    have ih := pw_boB hb (pos := pos) (.cons r' t) (by simp)
    subst hb
    cases b with
    | true => exact pw_andB r ih
    | false => exact pw_orB r ih
theorem pt_atB {i : Nat} {x : Str} {pos : Pos} (hN : X.N[i]? = some x) (hv : Vis X.env.scope x) (hd : (x == ("__debug__" : Str)) = false) (hcd : (x == ("__classdict__" : Str)) = false) : PT X (.Name x pos) (tFB X (atB i)) :=
  (pt_truth (pe_var hN hv hd hcd) (fun _ => rfl)).imp fun σ H Q h => by
    obtain ⟨Z, ρ, E, h⟩ := h
    obtain ⟨b, hb, h⟩ := (Ask.bind h).of
    obtain ⟨d, hd, hb⟩ := Option.bind_eq_some_iff.mp hb
    obtain ⟨s, hs, hd⟩ := Option.bind_eq_some_iff.mp hd
    obtain ⟨v, e1, e2⟩ := E.data hs hd
    exact ⟨v, e1, b, tru_of e2 hb, h H ⟨E, Stp.refl⟩⟩
theorem pts_ifsB : ∀ {fs : List FB} {xs : List Expr}, Paired (fun f x => PT X x (tFB X f)) fs xs → xs.length ≤ 1 → PTs X xs (tFB X (ifsB fs))
  | _, _, .nil, _ => ⟨fun pins s σ H Q I h => by
    obtain ⟨Z, ρ, E, h⟩ := h
    exact pts_nil.run pins s σ H Q I (h H ⟨E, Stp.refl⟩)⟩
  | _, _, .cons r .nil, _ => pts_one r
  | _, _, .cons _ (.cons _ _), h => by simp at h

/-! ### lists of expressions -/
def listL : List FE → FL
  | [] => nilF
  | f :: r => consF (shareF f) (listL r)
def listS : List FE → FLS
  | [] => nilS
  | f :: r => consS f (listS r)
theorem denL_eq (F : Nat → Fn) : ∀ es : Exs, es.denL F = listL (es.den F)
  | .nil => rfl
  | .cons e r => by
    show consF (shareF (e.den F)) (r.denL F) = _
    rw [denL_eq F r]
    rfl
theorem denS_eq (F : Nat → Fn) : ∀ es : Exs, es.denS F = listS (es.den F)
  | .nil => rfl
  | .cons e r => by
    show consS (e.den F) (r.denS F) = _
    rw [denS_eq F r]
    rfl
theorem pa_listL : ∀ {fs : List FE} {xs : List Expr}, Paired (fun f x => PE X x (tFE X f)) fs xs → noStars xs = true → PA X xs (tFL X (listL fs))
  | _, _, .nil, _ => pe_nilF
  | _, _, @Paired.cons _ _ _ f x fs xs r t, h => by
    have h : (!isStar x && noStars xs) = true := h
    rw [Bool.and_eq_true, Bool.not_eq_true'] at h
    exact pe_consF (pe_share r) (pa_listL t h.2) (star_cons h.1)
theorem pa_listS : ∀ {fs : List FE} {xs : List Expr}, Paired (fun f x => PE X x (tFE X f)) fs xs → noStars xs = true → PA X xs (tFLS X (listS fs))
  | _, _, .nil, _ => pa_nilS
  | _, _, @Paired.cons _ _ _ f x fs xs r t, h => by
    have h : (!isStar x && noStars xs) = true := h
    rw [Bool.and_eq_true, Bool.not_eq_true'] at h
    exact pa_consS r (pa_listS t h.2) (star_cons h.1)
end
end DL

set_option maxHeartbeats 1000000
namespace DL
open PySem PySem.Spec PyProof.Rows L2
section
variable {n : Nat} {F : Nat → Fn}
theorem and_of {a b : Bool} (h : (a && b) = true) : a = true ∧ b = true := by rwa [Bool.and_eq_true] at h
theorem not_of {a : Bool} (h : (!a) = true) : a = false := by rwa [Bool.not_eq_true'] at h
theorem Ops.lenc {k : Kt} : ∀ (o : Ops) (xs : List Expr), o.chk k xs = true → xs.length = o.len
  | .nil, [], h => rfl
  | .nil, _ :: _, h => by cases h
  | .cons a r, [], h => by cases h
  | .cons a r, x :: xs, h => by
    obtain ⟨h1, h3⟩ := and_of (show ((!isStar x && a.chk k x) && r.chk k xs) = true from h)
    rw [List.length_cons, Ops.lenc r xs h3]
    rfl
theorem Ops.lenK {k : Kt} : ∀ (o : Ops) (xs : List Keyword), o.chkK k xs = true → xs.length = o.len
  | .nil, [], h => rfl
  | .nil, _ :: _, h => by cases h
  | .cons a r, [], h => by cases h
  | .cons a r, ⟨nm, x, p⟩ :: xs, h => by
    obtain ⟨h1, h3⟩ := and_of (show (a.chk k x && r.chkK k xs) = true from h)
    rw [List.length_cons, Ops.lenK r xs h3]
    rfl
mutual
theorem Ex.ok : ∀ (e : Ex) {k : Kt} {X : Cx} (hk : Ok k n F X) (x : Expr), e.chk k x = true → PE X x (tFE X (e.den F))
  | .c q, k, X, hk, x, h => by
    cases x with
    | Constant q' a p =>
      obtain ⟨h1, h2⟩ := and_of (show (decide (q = q') && _) = true from h)
      obtain rfl := of_decide_eq_true h1
      cases q with
      | none => exact pe_non.imp fun σ H Q h => cst_wp (fun Y => .non) h
      | bool b => exact pe_bl.imp fun σ H Q h => cst_wp (fun Y => .bl b) h
      | int i => exact pe_int.imp fun σ H Q h => cst_wp (fun Y => .int i) h
      | str s => exact pe_str.imp fun σ H Q h => cst_wp (fun Y => .str s) h
      | _ => cases h2
    | _ => cases h
  | .v i, k, X, hk, x, h => by
    cases x with
    | Name y p =>
      obtain ⟨h1, h2, h3, h4⟩ := vis_of hk (show k.vis i y = true from h)
      exact pe_varF h1 h2 h3 h4
    | _ => cases h
  | .bin o a b, k, X, hk, x, h => by
    cases x with
    | BinOp y o' z p =>
      obtain ⟨h1, h3⟩ := and_of (show ((decide (o = o') && a.chk k y) && b.chk k z) = true from h)
      obtain ⟨h1, h2⟩ := and_of h1
      obtain rfl := of_decide_eq_true h1
      exact pe_op2 (Op.ok a hk y h2) (Op.ok b hk z h3)
    | _ => cases h
  | .cmp o a b, k, X, hk, x, h => by
    cases x with
    | Compare y os zs p =>
      match os, zs, h with
      | [o'], [z], h =>
        obtain ⟨h1, h4⟩ := and_of (show (((decide (o = o') && a.chk k y) && b.chk k z) && !behindInMarks o z) = true from h)
        obtain ⟨h1, h3⟩ := and_of h1
        obtain ⟨h1, h2⟩ := and_of h1
        obtain rfl := of_decide_eq_true h1
        exact pe_cmp2 hk.un (Op.ok a hk y h2) (Op.ok b hk z h3) (not_of h4)
      | [], _, h => cases h
      | _ :: _ :: _, _, h => cases h
      | [_], [], h => cases h
      | [_], _ :: _ :: _, h => cases h
    | _ => cases h
  | .ix a b, k, X, hk, x, h => by
    cases x with
    | Subscript y z p =>
      obtain ⟨h1, h3⟩ := and_of (show ((a.chk k y && b.chk k z) && !isSlice z) = true from h)
      obtain ⟨h1, h2⟩ := and_of h1
      exact pe_ix2 (Op.ok a hk y h1) (Op.ok b hk z h2) (plainIx_of (not_of h3))
    | _ => cases h
  | .sl a lo hi, k, X, hk, x, h => by
    cases x with
    | Subscript y z p =>
      cases z with
      | Slice l u st p2 =>
        cases st with
        | none =>
          obtain ⟨h1, h3⟩ := and_of (show ((a.chk k y && lo.chk k l) && hi.chk k u) = true from h)
          obtain ⟨h1, h2⟩ := and_of h1
          exact pe_slF (Op.ok a hk y h1) (Oo.ok lo hk l h2) (Oo.ok hi hk u h3)
        | some _ => cases h
      | _ => cases h
    | _ => cases h
  | .neg a, k, X, hk, x, h => by
    cases x with
    | UnaryOp op y p =>
      cases op with
      | USub => exact pe_negF (Op.ok a hk y h)
      | _ => cases h
    | _ => cases h
  | .nt a, k, X, hk, x, h => by
    cases x with
    | UnaryOp op y p =>
      cases op with
      | Not => exact pe_notF (Ex.ok a hk y h)
      | _ => cases h
    | _ => cases h
  | .bo b es, k, X, hk, x, h => by
    cases x with
    | BoolOp op xs p =>
      cases b with
      | true =>
        cases op with
        | And =>
          obtain ⟨h1, h2⟩ := and_of (show (es.chk k xs && !xs.isEmpty) = true from h)
          exact pe_boF (b := true) rfl (Exs.ok es hk xs h1).1 (by intro z; subst z; cases h2)
        | Or => cases h
      | false =>
        cases op with
        | Or =>
          obtain ⟨h1, h2⟩ := and_of (show (es.chk k xs && !xs.isEmpty) = true from h)
          exact pe_boF (b := false) rfl (Exs.ok es hk xs h1).1 (by intro z; subst z; cases h2)
        | And => cases h
    | _ => cases b <;> cases h
  | .ite t a b, k, X, hk, x, h => by
    cases x with
    | IfExp y z w p =>
      obtain ⟨h1, h3⟩ := and_of (show ((t.chk k y && a.chk k z) && b.chk k w) = true from h)
      obtain ⟨h1, h2⟩ := and_of h1
      exact pe_ifF (Te.ok t hk y h1) (Ex.ok a hk z h2) (Ex.ok b hk w h3)
    | _ => cases h
  | .tup es, k, X, hk, x, h => by
    cases x with
    | Tuple xs q p =>
      obtain ⟨h1, h2⟩ := Exs.ok es hk xs h
      have := pa_listL h1 h2
      rw [← denL_eq] at this
      exact pe_tupF this
    | _ => cases h
  | .lst es, k, X, hk, x, h => by
    cases x with
    | List xs p =>
      obtain ⟨h1, h2⟩ := Exs.ok es hk xs h
      have := pa_listL h1 h2
      rw [← denL_eq] at this
      exact pe_lstF this
    | _ => cases h
  | .bi b as, k, X, hk, x, h => by
    cases x with
    | Call f xs kws p =>
      cases f with
      | Name y p2 =>
        cases kws with
        | nil =>
          obtain ⟨h1, h4⟩ := and_of (show (((decide (y = b.name) && k.blt y) && as.chk k xs) && !xs.isEmpty) = true from h)
          obtain ⟨h1, h3⟩ := and_of h1
          obtain ⟨h1, h2⟩ := and_of h1
          obtain rfl := of_decide_eq_true h1
          obtain ⟨a1, a2⟩ := Ops.ok as hk xs h3
          obtain ⟨g1, g2⟩ := blt_of hk h2
          cases xs with
          | nil => cases h4
          | cons z zs =>
            obtain ⟨n1, n2⟩ := and_of (show (!isStar z && noStars zs) = true from a2)
            exact pe_biF hk.calm hk.un b g1 g2 a1 (star_cons (not_of n1)) (back_none n2)
        | cons => cases h
      | _ => cases h
    | _ => cases h
  | .isa T a, k, X, hk, x, h => by
    cases x with
    | Call f xs kws p =>
      cases f with
      | Name y p2 =>
        match xs, kws, h with
        | [z, .Name w p3], [], h =>
          obtain ⟨h1, h6⟩ := and_of (show (((((decide (y = "isinstance") && decide (w = T.nameS)) && k.blt y) && k.blt w) && a.chk k z) && !isStar z) = true from h)
          obtain ⟨h1, h5⟩ := and_of h1
          obtain ⟨h1, h4⟩ := and_of h1
          obtain ⟨h1, h3⟩ := and_of h1
          obtain ⟨h1, h2⟩ := and_of h1
          obtain rfl := of_decide_eq_true h1
          obtain rfl := of_decide_eq_true h2
          obtain ⟨g1, g2⟩ := blt_of hk h3
          obtain ⟨g3, g4⟩ := blt_of hk h4
          exact pe_isaF T (Op.ok a hk z h5) g1 g2 g3 g4 (star_cons (not_of h6))
      | _ => cases h
    | _ => cases h
  | .call f as, k, X, hk, x, h => by
    cases x with
    | Call fe xs kws p =>
      cases fe with
      | Name y p2 =>
        cases kws with
        | nil =>
          obtain ⟨h1, h4⟩ := and_of (show (((decide (k.T[f]?.map (·.1) = some y) && k.gl y) && as.chk k xs) && decide (k.T[f]?.map (·.2.length) = some xs.length)) = true from h)
          obtain ⟨h1, h3⟩ := and_of h1
          obtain ⟨h1, h2⟩ := and_of h1
          obtain ⟨⟨nm, ps⟩, hp, hl⟩ := Option.map_eq_some_iff.mp (of_decide_eq_true h4)
          have hn := of_decide_eq_true h1
          rw [hp] at hn
          obtain rfl : nm = y := Option.some.inj hn
          have hl : ps.length = xs.length := hl
          obtain ⟨a1, a2⟩ := Ops.ok as hk xs h3
          obtain ⟨g1, g2⟩ := gl_of hk h2
          have hlen := Ops.lenc as xs h3
          show PE X _ (tFE X (fnCall as.len (F f) (as.den F)))
          rw [← hlen, ← hl]
          cases xs with
          | nil =>
            have e0 : as.den F = nilF := by
              cases as with
              | nil => rfl
              | cons => cases h3
            rw [e0]
            exact pe_callF0 (hk.fns _ _ _ hp) hk.rm g1 g2
          | cons z zs =>
            obtain ⟨n1, n2⟩ := and_of (show (!isStar z && noStars zs) = true from a2)
            exact pe_callF (hk.fns _ _ _ hp) hk.rm g1 a1 g2 (star_cons (not_of n1)) (back_none n2)
        | cons => cases h
      | _ => cases h
    | _ => cases h
  | .callK f as ks, k, X, hk, x, h => by
    cases x with
    | Call fe xs kws p =>
      cases fe with
      | Name y p2 =>
        obtain ⟨h1, h7⟩ := and_of (show ((((((decide (k.T[f]?.map (·.1) = some y) && k.gl y) && as.chk k xs) && ks.chkK k kws) && !kws.isEmpty) && decide (k.T[f]?.map (·.2.length) = some (xs.length + kws.length))) && decide (k.T[f]?.map (fun p => (p.2.drop xs.length).map some) = some (kws.map (·.arg)))) = true from h)
        obtain ⟨h1, h6⟩ := and_of h1
        obtain ⟨h1, h5⟩ := and_of h1
        obtain ⟨h1, h4⟩ := and_of h1
        obtain ⟨h1, h3⟩ := and_of h1
        obtain ⟨h1, h2⟩ := and_of h1
        obtain ⟨⟨nm, ps⟩, hp, hl⟩ := Option.map_eq_some_iff.mp (of_decide_eq_true h6)
        have hn := of_decide_eq_true h1
        rw [hp] at hn
        obtain rfl : nm = y := Option.some.inj hn
        have hl : ps.length = xs.length + kws.length := hl
        have h7 := of_decide_eq_true h7
        rw [hp] at h7
        have h7 : (ps.drop xs.length).map some = kws.map (·.arg) := Option.some.inj h7
        obtain ⟨a1, a2⟩ := Ops.ok as hk xs h3
        obtain ⟨g1, g2⟩ := gl_of hk h2
        have hlen := Ops.lenc as xs h3
        have hlenk := Ops.lenK ks kws h4
        obtain ⟨w1, w2, w3⟩ := kw_all (pos := p) (env := X.env) h7.symm
        have hk0 : 0 < kws.length := by
          cases kws with
          | nil => cases h5
          | cons => simp
        show PE X _ (tFE X (fnCall (as.len + ks.len) (F f) (appL as.len (as.den F) (ks.den F))))
        rw [← hlen, ← hlenk, ← hl]
        cases xs with
        | nil =>
          have e0 : as.den F = nilF := by
            cases as with
            | nil => rfl
            | cons => cases h3
          refine (pe_callFK0 (hk.fns _ _ _ hp) hk.rm g1 (Ops.okK ks hk kws h4) (by rw [hl]; omega) w1 w2 g2 (by rw [w3]; rfl)).imp fun σ H Q h => ?_
          obtain ⟨Z, ρ, E, h⟩ := h
          refine ⟨Z, ρ, E, ?_⟩
          have e1 : appL 0 (as.den F) (ks.den F) ρ = (ks.den F ρ).bind fun r => .ok (r.1, r.2) := by
            rw [e0]
            rfl
          have h : Ask X ((appL 0 (as.den F) (ks.den F) ρ).bind _) _ := h
          rw [e1] at h
          exact Ask.bind' ((Ask.bind (Ask.bind h)).mono' fun r h => h)
        | cons z zs =>
          obtain ⟨n1, n2⟩ := and_of (show (!isStar z && noStars zs) = true from a2)
          refine pe_callFK (hk.fns _ _ _ hp) hk.rm g1 a1 (Ops.okK ks hk kws h4) (by rw [hl]; omega) w1 w2 g2 (star_cons (not_of n1)) ?_
          rw [back_none a2, w3]
          rfl
      | _ => cases h
    | _ => cases h
  | .lc it tg own ts e, k, X, hk, x, h => by
    cases x with
    | ListComp elt gs scope p =>
      match gs, h with
      | [⟨t, iter, ifs, a⟩], h =>
        obtain ⟨h1, h9⟩ := and_of (show ((((((((decide (a = 0) && it.chk k t iter) && blkC k.N k.sc scope own) && tg.chk (k.blk scope) t) && tg.ns.all (fun i => decide (i ∈ own.map (·.2)))) && ts.chk (k.blk scope) ifs) && decide (ifs.length ≤ 1)) && e.chk (k.blk scope) elt) && !isSetE iter) = true from h)
        obtain ⟨h1, h8⟩ := and_of h1
        obtain ⟨h1, h7⟩ := and_of h1
        obtain ⟨h1, h6⟩ := and_of h1
        obtain ⟨h1, h5⟩ := and_of h1
        obtain ⟨h1, h4⟩ := and_of h1
        obtain ⟨h1, h3⟩ := and_of h1
        obtain ⟨h1, h2⟩ := and_of h1
        obtain rfl := of_decide_eq_true h1
        have bo := blkOk_by h3
        have bo' : BlkOk X.N X.env.scope scope own := by rw [hk.hN, hk.hsc]; exact bo
        refine pe_lcF (ns := tg.ns) hk.calm (by rw [hk.hN]; exact hk.nd) (It.ok it hk t iter h2) bo' (fun i hi => of_decide_eq_true (List.all_eq_true.mp h5 i hi)) (fun s H C cl fp => ?_) (fun s H C cl fp => ?_) (fun s H C cl fp => ?_) (fun x => folded_of (not_of h9) x)
        · exact Tg.ok (hk.blk bo.kind s H C cl fp) tg t h4
        · exact pts_ifsB (Tes.ok ts (hk.blk bo.kind s H C cl fp) ifs h6) (of_decide_eq_true h7)
        · exact Ex.ok e (hk.blk bo.kind s H C cl fp) elt h8
      | [], h => cases h
      | ⟨_, _, _, _⟩ :: _ :: _, h => cases h
    | _ => cases h
  | .app i e, k, X, hk, x, h => by
    cases x with
    | Call fe xs kws p =>
      cases fe with
      | Attribute o m ap =>
        cases o with
        | Name y p2 =>
          match xs, kws, h with
          | [z], [], h =>
            obtain ⟨h1, h5⟩ := and_of (show ((((k.vis i y && decide (m = "append")) && e.chk k z) && !isStar z) && (ap.endLine == p.line)) = true from h)
            obtain ⟨h1, h4⟩ := and_of h1
            obtain ⟨h1, h3⟩ := and_of h1
            obtain ⟨hv, hm⟩ := and_of h1
            obtain rfl := of_decide_eq_true hm
            obtain ⟨v1, v2, v3, v4⟩ := vis_of hk hv
            exact pe_appF v1 v2 v3 v4 (Ex.ok e hk z h3) (star_cons (not_of h4)) (few1 (not_of h4)) h5
        | _ => cases h
      | _ => cases h
    | _ => cases h
  | .ext i e, k, X, hk, x, h => by
    cases x with
    | Call fe xs kws p =>
      cases fe with
      | Attribute o m ap =>
        cases o with
        | Name y p2 =>
          match xs, kws, h with
          | [z], [], h =>
            obtain ⟨h1, h5⟩ := and_of (show ((((k.vis i y && decide (m = "extend")) && e.chk k z) && !isStar z) && (ap.endLine == p.line)) = true from h)
            obtain ⟨h1, h4⟩ := and_of h1
            obtain ⟨h1, h3⟩ := and_of h1
            obtain ⟨hv, hm⟩ := and_of h1
            obtain rfl := of_decide_eq_true hm
            obtain ⟨v1, v2, v3, v4⟩ := vis_of hk hv
            exact pe_extF v1 v2 v3 v4 (Ex.ok e hk z h3) (star_cons (not_of h4)) (few1 (not_of h4)) h5
        | _ => cases h
      | _ => cases h
    | _ => cases h
  | .pop i, k, X, hk, x, h => by
    cases x with
    | Call fe xs kws p =>
      cases fe with
      | Attribute o m ap =>
        cases o with
        | Name y p2 =>
          match xs, kws, h with
          | [], [], h =>
            obtain ⟨h1, h5⟩ := and_of (show ((k.vis i y && decide (m = "pop")) && (ap.endLine == p.line)) = true from h)
            obtain ⟨hv, hm⟩ := and_of h1
            obtain rfl := of_decide_eq_true hm
            obtain ⟨v1, v2, v3, v4⟩ := vis_of hk hv
            exact pe_popF v1 v2 v3 v4 h5
        | _ => cases h
      | _ => cases h
    | _ => cases h
  | .popAt i a, k, X, hk, x, h => by
    cases x with
    | Call fe xs kws p =>
      cases fe with
      | Attribute o m ap =>
        cases o with
        | Name y p2 =>
          match xs, kws, h with
          | [z], [], h =>
            obtain ⟨h1, h5⟩ := and_of (show ((((k.vis i y && decide (m = "pop")) && a.chk k z) && !isStar z) && (ap.endLine == p.line)) = true from h)
            obtain ⟨h1, h4⟩ := and_of h1
            obtain ⟨h1, h3⟩ := and_of h1
            obtain ⟨hv, hm⟩ := and_of h1
            obtain rfl := of_decide_eq_true hm
            obtain ⟨v1, v2, v3, v4⟩ := vis_of hk hv
            exact pe_popAtF v1 v2 v3 v4 (Op.ok a hk z h3) (star_cons (not_of h4)) (few1 (not_of h4)) h5
        | _ => cases h
      | _ => cases h
    | _ => cases h
  | .rl1 t a, k, X, hk, x, h => by
    cases x with
    | Call fe xs kws p =>
      cases fe with
      | Name y p2 =>
        match xs, kws, h with
        | [.Call (.Name z p3) [w] [] p4], [], h =>
          obtain ⟨h1, h6⟩ := and_of (show (((((decide (y = if t then "tuple" else "list") && decide (z = "range")) && k.blt y) && k.blt z) && a.chk k w) && !isStar w) = true from h)
          obtain ⟨h1, h5⟩ := and_of h1
          obtain ⟨h1, h4⟩ := and_of h1
          obtain ⟨h1, h3⟩ := and_of h1
          obtain ⟨h1, h2⟩ := and_of h1
          have e1 := of_decide_eq_true h1
          obtain rfl := of_decide_eq_true h2
          exact pe_rl1 t hk.calm e1 (blt_of hk h3).1 (blt_of hk h3).2 (blt_of hk h4).1 (blt_of hk h4).2 (Op.ok a hk w h5) (star_cons (not_of h6))
      | _ => cases h
    | _ => cases h
  | .rl2 t a b, k, X, hk, x, h => by
    cases x with
    | Call fe xs kws p =>
      cases fe with
      | Name y p2 =>
        match xs, kws, h with
        | [.Call (.Name z p3) [w, u] [] p4], [], h =>
          obtain ⟨h1, h8⟩ := and_of (show (((((((decide (y = if t then "tuple" else "list") && decide (z = "range")) && k.blt y) && k.blt z) && a.chk k w) && b.chk k u) && !isStar w) && !isStar u) = true from h)
          obtain ⟨h1, h7⟩ := and_of h1
          obtain ⟨h1, h6⟩ := and_of h1
          obtain ⟨h1, h5⟩ := and_of h1
          obtain ⟨h1, h4⟩ := and_of h1
          obtain ⟨h1, h3⟩ := and_of h1
          obtain ⟨h1, h2⟩ := and_of h1
          have e1 := of_decide_eq_true h1
          obtain rfl := of_decide_eq_true h2
          exact pe_rl2 t hk.calm e1 (blt_of hk h3).1 (blt_of hk h3).2 (blt_of hk h4).1 (blt_of hk h4).2 (Op.ok a hk w h5) (Op.ok b hk u h6) (star_cons (not_of h7)) (star_cons (not_of h8)) (back_none (noStars1 (not_of h8)))
      | _ => cases h
    | _ => cases h
  | .sset a, k, X, hk, x, h => by
    cases x with
    | Call fe xs kws p =>
      cases fe with
      | Name y p2 =>
        match xs, kws, h with
        | [.Call (.Name z p3) [w] [] p4], [], h =>
          obtain ⟨h1, h6⟩ := and_of (show (((((decide (y = "sorted") && decide (z = "set")) && k.blt y) && k.blt z) && a.chk k w) && !isStar w) = true from h)
          obtain ⟨h1, h5⟩ := and_of h1
          obtain ⟨h1, h4⟩ := and_of h1
          obtain ⟨h1, h3⟩ := and_of h1
          obtain ⟨h1, h2⟩ := and_of h1
          obtain rfl := of_decide_eq_true h1
          obtain rfl := of_decide_eq_true h2
          exact pe_sset hk.calm hk.un (blt_of hk h3).1 (blt_of hk h3).2 (blt_of hk h4).1 (blt_of hk h4).2 (Op.ok a hk w h5) (star_cons (not_of h6))
      | _ => cases h
    | _ => cases h
  | .dctL a, k, X, hk, x, h => by
    cases x with
    | Call fe xs kws p =>
      cases fe with
      | Name y p2 =>
        match xs, kws, h with
        | [w], [], h =>
          obtain ⟨h1, h4⟩ := and_of (show (((decide (y = "dict") && k.blt y) && a.chk k w) && !isStar w) = true from h)
          obtain ⟨h1, h3⟩ := and_of h1
          obtain ⟨h1, h2⟩ := and_of h1
          obtain rfl := of_decide_eq_true h1
          exact pe_dctL hk.calm hk.un (blt_of hk h2).1 (blt_of hk h2).2 (Op.ok a hk w h3) (star_cons (not_of h4))
      | _ => cases h
    | _ => cases h
  | .dctT i, k, X, hk, x, h => by
    cases x with
    | Call fe xs kws p =>
      cases fe with
      | Name y p2 =>
        match xs, kws, h with
        | [.Name w p3], [], h =>
          obtain ⟨h1, h3⟩ := and_of (show ((decide (y = "dict") && k.blt y) && k.vis i w) = true from h)
          obtain ⟨h1, h2⟩ := and_of h1
          obtain rfl := of_decide_eq_true h1
          obtain ⟨v1, v2, v3, v4⟩ := vis_of hk h3
          exact pe_dctT hk.calm hk.un v1 v2 v3 v4 (blt_of hk h2).1 (blt_of hk h2).2
      | _ => cases h
    | _ => cases h
  | .dget i a b, k, X, hk, x, h => by
    cases x with
    | Call fe xs kws p =>
      cases fe with
      | Attribute o m ap =>
        cases o with
        | Name y p2 =>
          match xs, kws, h with
          | [z, w], [], h =>
            obtain ⟨h1, h7⟩ := and_of (show ((((((k.vis i y && decide (m = "get")) && a.chk k z) && b.chk k w) && !isStar z) && !isStar w) && (ap.endLine == p.line)) = true from h)
            obtain ⟨h1, h6⟩ := and_of h1
            obtain ⟨h1, h5⟩ := and_of h1
            obtain ⟨h1, h4⟩ := and_of h1
            obtain ⟨h1, h3⟩ := and_of h1
            obtain ⟨hv, hm⟩ := and_of h1
            obtain rfl := of_decide_eq_true hm
            obtain ⟨v1, v2, v3, v4⟩ := vis_of hk hv
            have s1 := star_cons (es := [w]) (env := X.env) (not_of h5)
            have s2 := star_cons (es := []) (env := X.env) (not_of h6)
            exact pe_dgetF hk.un v1 v2 v3 v4 (Op.ok a hk z h3) (Op.ok b hk w h4) ⟨rfl, by rw [s1, s2]; rfl, h7, by rw [s1, s2]; rfl⟩
        | _ => cases h
      | _ => cases h
    | _ => cases h
  | .sun a b, k, X, hk, x, h => by
    cases x with
    | Call fe xs kws p =>
      cases fe with
      | Name y p2 =>
        match xs, kws, h with
        | [.BinOp (.Call (.Name z p3) [u] [] p4) o (.Call (.Name z2 p5) [v] [] p6) p7], [], h =>
          obtain ⟨h1, h10⟩ := and_of (show (((((((((decide (y = "sorted") && decide (z = "set")) && decide (z2 = "set")) && decide (o = .BitOr)) && k.blt y) && k.blt z) && a.chk k u) && b.chk k v) && !isStar u) && !isStar v) = true from h)
          obtain ⟨h1, h9⟩ := and_of h1
          obtain ⟨h1, h8⟩ := and_of h1
          obtain ⟨h1, h7⟩ := and_of h1
          obtain ⟨h1, h6⟩ := and_of h1
          obtain ⟨h1, h5⟩ := and_of h1
          obtain ⟨h1, h4⟩ := and_of h1
          obtain ⟨h1, h3⟩ := and_of h1
          obtain ⟨h1, h2⟩ := and_of h1
          obtain rfl := of_decide_eq_true h1
          obtain rfl := of_decide_eq_true h2
          obtain rfl := of_decide_eq_true h3
          obtain rfl := of_decide_eq_true h4
          exact pe_sun hk.calm hk.un (blt_of hk h5).1 (blt_of hk h5).2 (blt_of hk h6).1 (blt_of hk h6).2 (Op.ok a hk u h7) (Op.ok b hk v h8) (star_cons (not_of h9)) (star_cons (not_of h10))
      | _ => cases h
    | _ => cases h
theorem Op.ok : ∀ (o : Op) {k : Kt} {X : Cx} (hk : Ok k n F X) (x : Expr), o.chk k x = true → PE X x (tFP X (o.den F))
  | .at i, k, X, hk, x, h => by
    cases x with
    | Name y p =>
      obtain ⟨h1, h2, h3, h4⟩ := vis_of hk (show k.vis i y = true from h)
      exact pe_at h1 h2 h3 h4
    | _ => cases h
  | .ex e, k, X, hk, x, h => pe_share (Ex.ok e hk x h)
theorem Oo.ok : ∀ (o : Oo) {k : Kt} {X : Cx} (hk : Ok k n F X) (x : Option Expr), o.chk k x = true → PO X x (tFO X (o.den F))
  | .no, k, X, hk, x, h => by
    cases x with
    | none => exact po_noneF
    | some => cases h
  | .so a, k, X, hk, x, h => by
    cases x with
    | none => cases h
    | some y => exact po_someF (Op.ok a hk y h)
theorem Ops.ok : ∀ (o : Ops) {k : Kt} {X : Cx} (hk : Ok k n F X) (xs : List Expr), o.chk k xs = true → PA X xs (tFL X (o.den F)) ∧ noStars xs = true
  | .nil, k, X, hk, xs, h => by
    cases xs with
    | nil => exact ⟨pe_nilF, rfl⟩
    | cons => cases h
  | .cons a r, k, X, hk, xs, h => by
    cases xs with
    | nil => cases h
    | cons x xs =>
      obtain ⟨h1, h3⟩ := and_of (show ((!isStar x && a.chk k x) && r.chk k xs) = true from h)
      obtain ⟨h1, h2⟩ := and_of h1
      obtain ⟨i1, i2⟩ := Ops.ok r hk xs h3
      refine ⟨pe_consF (Op.ok a hk x h2) i1 (star_cons (not_of h1)), ?_⟩
      show (!isStar x && noStars xs) = true
      rw [h1, i2]
      rfl
theorem Ops.okK : ∀ (o : Ops) {k : Kt} {X : Cx} (hk : Ok k n F X) (xs : List Keyword), o.chkK k xs = true → PK X xs (tFL X (o.den F))
  | .nil, k, X, hk, xs, h => by
    cases xs with
    | nil => exact pk_nilF
    | cons => cases h
  | .cons a r, k, X, hk, xs, h => by
    match xs, h with
    | ⟨nm, x, p⟩ :: xs, h =>
      obtain ⟨h1, h2⟩ := and_of (show (a.chk k x && r.chkK k xs) = true from h)
      exact pk_consF (Op.ok a hk x h1) (Ops.okK r hk xs h2)
    | [], h => cases h
theorem Exs.ok : ∀ (o : Exs) {k : Kt} {X : Cx} (hk : Ok k n F X) (xs : List Expr), o.chk k xs = true → Paired (fun f x => PE X x (tFE X f)) (o.den F) xs ∧ noStars xs = true
  | .nil, k, X, hk, xs, h => by
    cases xs with
    | nil => exact ⟨.nil, rfl⟩
    | cons => cases h
  | .cons a r, k, X, hk, xs, h => by
    cases xs with
    | nil => cases h
    | cons x xs =>
      obtain ⟨h1, h3⟩ := and_of (show ((!isStar x && a.chk k x) && r.chk k xs) = true from h)
      obtain ⟨h1, h2⟩ := and_of h1
      obtain ⟨i1, i2⟩ := Exs.ok r hk xs h3
      refine ⟨.cons (Ex.ok a hk x h2) i1, ?_⟩
      show (!isStar x && noStars xs) = true
      rw [h1, i2]
      rfl
theorem It.ok : ∀ (o : It) {k : Kt} {X : Cx} (hk : Ok k n F X) (t x : Expr), o.chk k t x = true → PI X t x (tFI X (o.den F))
  | .seq e, k, X, hk, t, x, h => pi_seqI (Ex.ok e hk x h)
  | .enum e, k, X, hk, t, x, h => by
    cases x with
    | Call f xs kws p =>
      cases f with
      | Name y p2 =>
        match xs, kws, h with
        | [x], [], h =>
          obtain ⟨h1, h5⟩ := and_of (show ((((decide (y = "enumerate") && k.blt y) && e.chk k x) && !isStar x) && isTup t) = true from h)
          obtain ⟨h1, h4⟩ := and_of h1
          obtain ⟨h1, h3⟩ := and_of h1
          obtain ⟨h1, h2⟩ := and_of h1
          obtain rfl := of_decide_eq_true h1
          obtain ⟨g1, g2⟩ := blt_of hk h2
          cases t with
          | Tuple a b c => exact pi_enumI (Ex.ok e hk x h3) g1 g2 (star_cons (not_of h4))
          | _ => cases h5
      | _ => cases h
    | _ => cases h
  | .rev e, k, X, hk, t, x, h => by
    cases x with
    | Call f xs kws p =>
      cases f with
      | Name y p2 =>
        match xs, kws, h with
        | [x], [], h =>
          obtain ⟨h1, h4⟩ := and_of (show (((decide (y = "reversed") && k.blt y) && e.chk k x) && !isStar x) = true from h)
          obtain ⟨h1, h3⟩ := and_of h1
          obtain ⟨h1, h2⟩ := and_of h1
          obtain rfl := of_decide_eq_true h1
          obtain ⟨g1, g2⟩ := blt_of hk h2
          exact pi_revI (Ex.ok e hk x h3) g1 g2 (star_cons (not_of h4))
      | _ => cases h
    | _ => cases h
  | .zip as, k, X, hk, t, x, h => by
    cases x with
    | Call f xs kws p =>
      cases f with
      | Name y p2 =>
        match xs, kws, h with
        | [x, z], [], h =>
          obtain ⟨h1, h4⟩ := and_of (show (((decide (y = "zip") && k.blt y) && as.chk k [x, z]) && isTup t) = true from h)
          obtain ⟨h1, h3⟩ := and_of h1
          obtain ⟨h1, h2⟩ := and_of h1
          obtain rfl := of_decide_eq_true h1
          obtain ⟨g1, g2⟩ := blt_of hk h2
          obtain ⟨a1, a2⟩ := Ops.ok as hk _ h3
          obtain ⟨n1, n2⟩ := and_of (show (!isStar x && noStars [z]) = true from a2)
          cases t with
          | Tuple a b c => exact pi_zipI a1 g1 g2 (star_cons (not_of n1)) (back_none n2)
          | _ => cases h4
      | _ => cases h
    | _ => cases h
  | .rng as, k, X, hk, t, x, h => by
    cases x with
    | Call f xs kws p =>
      cases f with
      | Name y p2 =>
        cases kws with
        | cons => cases h
        | nil =>
          obtain ⟨h1, h5⟩ := and_of (show ((((decide (y = "range") && k.blt y) && as.chk k xs) && decide (1 ≤ xs.length)) && decide (xs.length ≤ 3)) = true from h)
          obtain ⟨h1, h4⟩ := and_of h1
          obtain ⟨h1, h3⟩ := and_of h1
          obtain ⟨h1, h2⟩ := and_of h1
          obtain rfl := of_decide_eq_true h1
          have h4 := of_decide_eq_true h4
          have h5 := of_decide_eq_true h5
          obtain ⟨g1, g2⟩ := blt_of hk h2
          obtain ⟨a1, a2⟩ := Ops.ok as hk _ h3
          have hlen := Ops.lenc as xs h3
          show PI X t _ (tFI X (rangeI (match as.len with | 1 => range1D | 2 => range2D | _ => range3D) (as.den F)))
          rw [← hlen]
          match xs, h4, h5, a1, a2 with
          | [a], _, _, a1, a2 =>
            obtain ⟨n1, n2⟩ := and_of (show (!isStar a && noStars []) = true from a2)
            exact pi_rangeI1 a1 g1 g2 (star_cons (not_of n1))
          | [a, b], _, _, a1, a2 =>
            obtain ⟨n1, n2⟩ := and_of (show (!isStar a && noStars [b]) = true from a2)
            obtain ⟨n3, n4⟩ := and_of (show (!isStar b && noStars []) = true from n2)
            refine pi_rangeI2 a1 g1 g2 ?_ (star_cons (not_of n3))
            rw [star_cons (not_of n1), star_cons (not_of n3)]
            rfl
          | [a, b, c], _, _, a1, a2 =>
            obtain ⟨n1, n2⟩ := and_of (show (!isStar a && noStars [b, c]) = true from a2)
            exact pi_rangeI3 a1 g1 g2 (star_cons (not_of n1)) (back_none n2)
          | [], h4, _, _, _ => simp at h4
          | _ :: _ :: _ :: _ :: _, _, h5, _, _ => simp at h5
      | _ => cases h
    | _ => cases h
theorem Te.ok : ∀ (o : Te) {k : Kt} {X : Cx} (hk : Ok k n F X) (x : Expr), o.chk k x = true → PT X x (tFB X (o.den F))
  | .e x, k, X, hk, y, h => by
    obtain ⟨h1, h2⟩ := and_of (show (x.chk k y && plainT y) = true from h)
    exact pt_any (Ex.ok x hk y h1) (plainT_of h2)
  | .at i, k, X, hk, x, h => by
    cases x with
    | Name y p =>
      obtain ⟨h1, h2, h3, h4⟩ := vis_of hk (show k.vis i y = true from h)
      exact pt_atB h1 h2 h3 h4
    | _ => cases h
  | .cmp o a b, k, X, hk, x, h => by
    cases x with
    | Compare y os zs p =>
      match os, zs, h with
      | [o'], [z], h =>
        obtain ⟨h1, h4⟩ := and_of (show (((decide (o = o') && a.chk k y) && b.chk k z) && !behindInMarks o z) = true from h)
        obtain ⟨h1, h3⟩ := and_of h1
        obtain ⟨h1, h2⟩ := and_of h1
        obtain rfl := of_decide_eq_true h1
        exact pt_cmp2 hk.un (Op.ok a hk y h2) (Op.ok b hk z h3) (not_of h4)
      | [], _, h => cases h
      | _ :: _ :: _, _, h => cases h
      | [_], [], h => cases h
      | [_], _ :: _ :: _, h => cases h
    | _ => cases h
  | .nt t, k, X, hk, x, h => by
    cases x with
    | UnaryOp op y p =>
      cases op with
      | Not => exact pt_notB (Te.ok t hk y h)
      | _ => cases h
    | _ => cases h
  | .bo b ts, k, X, hk, x, h => by
    cases x with
    | BoolOp op xs p =>
      cases b with
      | true =>
        cases op with
        | And =>
          obtain ⟨h1, h2⟩ := and_of (show (ts.chk k xs && !xs.isEmpty) = true from h)
          exact (pw_boB (b := true) rfl (Tes.ok ts hk xs h1) (by intro z; subst z; cases h2)).pt
        | Or => cases h
      | false =>
        cases op with
        | Or =>
          obtain ⟨h1, h2⟩ := and_of (show (ts.chk k xs && !xs.isEmpty) = true from h)
          exact (pw_boB (b := false) rfl (Tes.ok ts hk xs h1) (by intro z; subst z; cases h2)).pt
        | And => cases h
    | _ => cases b <;> cases h
theorem Tes.ok : ∀ (o : Tes) {k : Kt} {X : Cx} (hk : Ok k n F X) (xs : List Expr), o.chk k xs = true → Paired (fun f x => PT X x (tFB X f)) (o.den F) xs
  | .nil, k, X, hk, xs, h => by
    cases xs with
    | nil => exact .nil
    | cons => cases h
  | .cons t r, k, X, hk, xs, h => by
    cases xs with
    | nil => cases h
    | cons x xs =>
      obtain ⟨h1, h3⟩ := and_of (show (t.chk k x && r.chk k xs) = true from h)
      exact .cons (Te.ok t hk x h1) (Tes.ok r hk xs h3)
end
end
end DL

set_option maxHeartbeats 1000000
namespace DL
open PySem PySem.Spec PyProof.Rows L2

theorem sw_cell {elt : Expr} {gs : List Comprehension} {scope : Scope} {pos py : Pos} {y : Str} {l : Nat} {env : Env} (hy : env.scope.names.lookup y ≠ some .local) : swapsWith (.ListComp elt gs scope pos) (some (.Name y py)) l env = pure false := by
  have ky : (env.kindOf y == some NameKind.local) = false := beq_eq_false_iff_ne.mpr hy
  unfold swapsWith
  simp only [ky, Bool.and_false, Bool.false_and]
theorem sole_tup {ts : List Expr} {k : Nat} {p : Pos} {e : Expr} {l : Nat} {env : Env} : swapsWithSole [.Tuple ts k p] e l env = pure false := by
  cases e <;> rfl
theorem sole_sub {a b : Expr} {p : Pos} {e : Expr} {l : Nat} {env : Env} : swapsWithSole [.Subscript a b p] e l env = pure false := by
  cases e <;> rfl
theorem stores_sub {a b : Expr} {p : Pos} {e : Expr} {env : Env} : swappedStores [.Subscript a b p] e env = pure none := by
  cases e <;> rfl
theorem stores_other {ts : List Expr} {k : Nat} {p : Pos} {e : Expr} {env : Env} (h : isTup e = false) : swappedStores [.Tuple ts k p] e env = pure none := by
  cases e <;> first | rfl | cases h
theorem stores_tup {ts vs : List Expr} {k k2 : Nat} {p p2 : Pos} {env : Env} (h : (vs.all (foldedForSure 8) || !(ts.length == 2 || ts.length == 3)) = true) : swappedStores [.Tuple ts k p] (.Tuple vs k2 p2) env = pure none := by
  unfold swappedStores
  simp only
  split
  · rfl
  · rename_i h1
    split
    · rfl
    · split
      · rfl
      · rw [Bool.or_eq_true] at h
        rcases h with h | h
        · rw [h]; rfl
        · rw [h] at h1
          exact absurd rfl h1
def nmL (env : Env) (ts : List Expr) : List Str := ts.filterMap fun
    | .Name id pos => if env.kindOf id == some .local && pos.line == ((ts.head?.map (·.pos.line)).getD 0) then some id else none
    | _ => none
theorem stores_par2 {a b : Expr} {x y : Str} {px py p p2 : Pos} {k k2 : Nat} {env : Env} (hk : env.scope.kind = .function) (hx : env.scope.names.lookup x = some .local) (hy : env.scope.names.lookup y = some .local) (hl : (px.line == py.line) = true) (ne : (x == y) = false)
    (h1 : ([a, b].all (foldedForSure 8)) = false) (h2 : ([a, b].all (constantsAlone 8)) = false) (s1 : isStar a = false) (s2 : isStar b = false) :
    swappedStores [.Tuple [.Name x px, .Name y py] k p] (.Tuple [a, b] k2 p2) env = pure (some [x, y]) := by
  have kx : env.kindOf x = some .local := hx
  have ky : env.kindOf y = some .local := hy
  have kb : env.blockKind = .function := by unfold Env.blockKind; rw [hk]; rfl
  have hl' : py.line = px.line := (beq_iff_eq.mp hl).symm
  have st : ([a, b].any fun | .Starred .. => true | _ => false) = false := by
    show (isStar a || (isStar b || false)) = false
    rw [s1, s2]
    rfl
  have e0 : (([Expr.Name x px, Expr.Name y py].head?.map (·.pos.line)).getD 0) = px.line := rfl
  have nm : nmL env [Expr.Name x px, Expr.Name y py] = [x, y] := by
    unfold nmL
    rw [e0]
    simp [kx, ky, hl']
  have ed : [x, y].eraseDups = [x, y] := by
    have ne' : (y == x) = false := by rw [beq_eq_false_iff_ne] at ne ⊢; exact fun z => ne z.symm
    simp [List.eraseDups_cons, ne']
  unfold swappedStores
  simp only
  refine (if_neg ?_).trans ((if_neg ?_).trans ((if_neg ?_).trans ((if_neg ?_).trans ((if_neg ?_).trans ?_))))
  · rw [kb]; simp
  · show ¬ (isStar a || (isStar b || false)) = true
    rw [s1, s2]
    decide
  · show ¬ ((nmL env [Expr.Name x px, Expr.Name y py]).length != 2 || (nmL env [Expr.Name x px, Expr.Name y py]).eraseDups.length != (nmL env [Expr.Name x px, Expr.Name y py]).length) = true
    rw [nm, ed]
    simp
  · rw [h1]; decide
  · rw [h2]; decide
  · exact congrArg (fun l => pure (some l)) nm
theorem stores_cell {a b : Expr} {x y : Str} {px py p p2 : Pos} {k k2 : Nat} {env : Env} (h : env.scope.names.lookup x ≠ some .local ∨ env.scope.names.lookup y ≠ some .local) :
    swappedStores [.Tuple [.Name x px, .Name y py] k p] (.Tuple [a, b] k2 p2) env = pure none := by
  have nm : (nmL env [Expr.Name x px, Expr.Name y py]).length ≠ 2 := by
    unfold nmL
    rcases h with h | h
    · have kx : (env.kindOf x == some NameKind.local) = false := beq_eq_false_iff_ne.mpr h
      rw [List.filterMap_cons_none (by simp only [kx]; rfl)]
      intro z
      have := List.length_filterMap_le (fun
        | .Name id pos => if env.kindOf id == some .local && pos.line == (([Expr.Name x px, Expr.Name y py].head?.map (·.pos.line)).getD 0) then some id else none
        | _ => none) [Expr.Name y py]
      rw [z] at this
      simp at this
    · have ky : (env.kindOf y == some NameKind.local) = false := beq_eq_false_iff_ne.mpr h
      intro z
      rw [List.filterMap_cons] at z
      have e : (List.filterMap (fun
        | .Name id pos => if env.kindOf id == some .local && pos.line == (([Expr.Name x px, Expr.Name y py].head?.map (·.pos.line)).getD 0) then some id else none
        | _ => none) [Expr.Name y py] : List Str) = [] := by
        rw [List.filterMap_cons_none (by simp only [ky]; rfl)]
        rfl
      split at z
      · rw [e] at z; cases z
      · rw [List.length_cons, e] at z; cases z
  unfold swappedStores
  simp only
  split
  · rfl
  · split
    · rfl
    · split
      · rfl
      · rename_i h3
        have h3' : ¬ ((nmL env [Expr.Name x px, Expr.Name y py]).length != 2 || (nmL env [Expr.Name x px, Expr.Name y py]).eraseDups.length != (nmL env [Expr.Name x px, Expr.Name y py]).length) = true := h3
        exact absurd (by simp [nm]) h3'
theorem stores_par3 {a b c : Expr} {x y z : Str} {px py pz p p2 : Pos} {k k2 : Nat} {env : Env} (hk : env.scope.kind = .function) (hx : env.scope.names.lookup x = some .local) (hy : env.scope.names.lookup y = some .local) (hz : env.scope.names.lookup z = some .local)
    (hl : (px.line == py.line) = true) (hl2 : (px.line == pz.line) = true) (ne : (x == y) = false) (ne2 : (x == z) = false) (ne3 : (y == z) = false)
    (h1 : ([a, b, c].all (foldedForSure 8)) = false) (h2 : ([a, b, c].all (constantsAlone 8)) = false) (s1 : isStar a = false) (s2 : isStar b = false) (s3 : isStar c = false) :
    swappedStores [.Tuple [.Name x px, .Name y py, .Name z pz] k p] (.Tuple [a, b, c] k2 p2) env = pure (some [x, y, z]) := by
  have kx : env.kindOf x = some .local := hx
  have ky : env.kindOf y = some .local := hy
  have kz : env.kindOf z = some .local := hz
  have kb : env.blockKind = .function := by unfold Env.blockKind; rw [hk]; rfl
  have hl' : py.line = px.line := (beq_iff_eq.mp hl).symm
  have hl2' : pz.line = px.line := (beq_iff_eq.mp hl2).symm
  have e0 : (([Expr.Name x px, Expr.Name y py, Expr.Name z pz].head?.map (·.pos.line)).getD 0) = px.line := rfl
  have nm : nmL env [Expr.Name x px, Expr.Name y py, Expr.Name z pz] = [x, y, z] := by
    unfold nmL
    rw [e0]
    simp [kx, ky, kz, hl', hl2']
  have sym : ∀ {u v : Str}, (u == v) = false → (v == u) = false := fun {u v} h => by rw [beq_eq_false_iff_ne] at h ⊢; exact fun z => h z.symm
  have ed : [x, y, z].eraseDups = [x, y, z] := by
    simp [List.eraseDups_cons, sym ne, sym ne2, sym ne3]
  unfold swappedStores
  simp only
  refine (if_neg ?_).trans ((if_neg ?_).trans ((if_neg ?_).trans ((if_neg ?_).trans ((if_neg ?_).trans ?_))))
  · rw [kb]; simp
  · show ¬ (isStar a || (isStar b || (isStar c || false))) = true
    rw [s1, s2, s3]
    decide
  · show ¬ ((nmL env [Expr.Name x px, Expr.Name y py, Expr.Name z pz]).length != 3 || (nmL env [Expr.Name x px, Expr.Name y py, Expr.Name z pz]).eraseDups.length != (nmL env [Expr.Name x px, Expr.Name y py, Expr.Name z pz]).length) = true
    rw [nm, ed]
    simp
  · rw [h1]; decide
  · rw [h2]; decide
  · exact congrArg (fun l => pure (some l)) nm
end DL

set_option maxHeartbeats 1000000
namespace DL
open PySem PySem.Spec PyProof.Rows L2
section
variable {n : Nat} {F : Nat → Fn}
theorem ps_augF {X : Cx} {i : Nat} {x : Str} {e : Expr} {f : FE} {pos' pos : Pos} (hN : X.N.Nodup) (hi : X.N[i]? = some x) (hx : L2.Loc X.env.scope x) (he : PE X e (tFE X f)) (hf : X.fn x = true ∨ X.env.scope.names.lookup x = some .local) :
    PS X (.AugAssign (.Name x pos') .Add e pos) (tFS X (augF i f)) :=
  (ps_aug hN hi hx he ip_add hf).imp fun D σ H h => by
    obtain ⟨Z, ρ, E, h⟩ := h
    unfold augF at h
    split at h
    · rename_i a hs
      obtain ⟨v, e1, e2⟩ := E.val i _ hs
      cases e2.int_inv
      refine ⟨_, e1, Z, ρ, E, (Ask.bind h).mono fun q _ h v H1 p => ?_⟩
      obtain ⟨s, ρ1⟩ := q
      cases s with
      | val d =>
        cases d with
        | int b =>
          cases (show Rp _ _ _ _ _ from p.rs).int_inv
          refine ⟨a, b, rfl, rfl, h _ H1 ⟨p.er.put (.int (a + b)), p.st.trans Stp.put⟩⟩
        | _ => exact h.elim
      | _ => exact h.elim
    · exact h.elim
theorem no_setc {k : Kt} {e : Ex} {a : Expr} {b : List Comprehension} {c : Scope} {d : Pos} : Ex.chk k e (.SetComp a b c d) = false := by
  cases e with
  | bo b es => cases b <;> rfl
  | _ => rfl
theorem no_dictc {k : Kt} {e : Ex} {a a' : Expr} {b : List Comprehension} {c : Scope} {d : Pos} : Ex.chk k e (.DictComp a a' b c d) = false := by
  cases e with
  | bo b es => cases b <;> rfl
  | _ => rfl
mutual
theorem St.ok : ∀ (s : St) {k : Kt} {X : Cx} (hk : Ok k n F X) (x : Stmt), s.chk k x = true → PS X x (tFS X (s.den F))
  | .set i e, k, X, hk, x, h => by
    cases x with
    | Assign ts y p =>
      match ts, h with
      | [.Name x p2], h =>
        obtain ⟨h1, h4⟩ := and_of (show (((k.wr i x && e.chk k y) && !isStar y) && (swB k x p2 y || !isComp y || decide (k.sc.names.lookup x ≠ some .local))) = true from h)
        obtain ⟨h1, h3⟩ := and_of h1
        obtain ⟨h1, h2⟩ := and_of h1
        obtain ⟨w1, w2, w3⟩ := wr_of hk h1
        have nd : X.N.Nodup := by rw [hk.hN]; exact hk.nd
        have he := Ex.ok e hk y h2
        cases hc : isComp y with
        | false => exact ps_setF nd w1 w2 he (swaps_plain hc) w3
        | true =>
          rw [hc] at h4
          have h4 : (swB k x p2 y || false || decide (k.sc.names.lookup x ≠ some .local)) = true := h4
          rw [Bool.or_false, Bool.or_eq_true] at h4
          cases y with
          | ListComp elt gs scope q =>
            rcases h4 with h4 | h4
            · obtain ⟨g1, g3⟩ := and_of (show ((decide (k.sc.names.lookup x = some .local) && (p2.line == q.line)) && !(scope.names.any fun (n, k) => n == x && (k == .local || k == .cell))) = true from h4)
              obtain ⟨g1, g2⟩ := and_of g1
              have xl : X.env.scope.names.lookup x = some .local := by rw [hk.hsc]; exact of_decide_eq_true g1
              have kd : X.env.scope.kind = .function := by rw [hk.hsc]; exact hk.kd
              cases e with
              | lc it tg own ts e =>
                match gs, h2 with
                | [⟨t, iter, ifs, a⟩], hh =>
                  obtain ⟨q1, q9⟩ := and_of (show ((((((((decide (a = 0) && it.chk k t iter) && blkC k.N k.sc scope own) && tg.chk (k.blk scope) t) && tg.ns.all (fun i => decide (i ∈ own.map (·.2)))) && ts.chk (k.blk scope) ifs) && decide (ifs.length ≤ 1)) && e.chk (k.blk scope) elt) && !isSetE iter) = true from hh)
                  obtain ⟨q1, q8⟩ := and_of q1
                  obtain ⟨q1, q7⟩ := and_of q1
                  obtain ⟨q1, q6⟩ := and_of q1
                  obtain ⟨q1, q5⟩ := and_of q1
                  obtain ⟨q1, q4⟩ := and_of q1
                  obtain ⟨q1, q3⟩ := and_of q1
                  obtain ⟨q1, q2⟩ := and_of q1
                  obtain rfl := of_decide_eq_true q1
                  have bo := blkOk_by q3
                  have bo' : BlkOk X.N X.env.scope scope own := by rw [hk.hN, hk.hsc]; exact bo
                  refine ps_setLcF (ns := tg.ns) hk.calm nd w1 xl (sw_true kd xl g2 (not_of g3)) (It.ok it hk t iter q2) bo' (fun i hi => of_decide_eq_true (List.all_eq_true.mp q5 i hi)) (fun s H C cl fp => ?_) (fun s H C cl fp => ?_) (fun s H C cl fp => ?_) (fun x => folded_of (not_of q9) x)
                  · exact Tg.ok (hk.blk bo.kind s H C cl fp) tg t q4
                  · exact pts_ifsB (Tes.ok ts (hk.blk bo.kind s H C cl fp) ifs q6) (of_decide_eq_true q7)
                  · exact Ex.ok e (hk.blk bo.kind s H C cl fp) elt q8
                | [], h => cases h
                | ⟨_, _, _, _⟩ :: _ :: _, h => cases h
              | bo b es => cases b <;> cases h2
              | _ => cases h2
            · exact ps_setF nd w1 w2 he (sw_cell (by rw [hk.hsc]; exact of_decide_eq_true h4)) w3
          | SetComp => rw [no_setc] at h2; cases h2
          | DictComp => rw [no_dictc] at h2; cases h2
          | _ => cases hc
      | [], h => cases h
      | t :: _ :: _, h => cases t <;> cases h
    | _ => cases h
  | .asg e tg, k, X, hk, x, h => by
    cases x with
    | Assign ts y p =>
      match ts, h with
      | [t], h =>
        obtain ⟨h1, h3⟩ := and_of (show ((e.chk k y && tg.chk k t) && asgOk t y) = true from h)
        obtain ⟨g1, g2⟩ := and_of h1
        have ke := Ex.ok e hk y g1
        have kt := Tg.ok hk tg t g2
        clear h1 g1 g2
        cases t with
        | Tuple es a p2 =>
          refine ps_asgF ke kt sole_tup ?_ rfl
          cases y with
          | Tuple vs b p3 => exact stores_tup h3
          | _ => exact stores_other rfl
        | _ => cases h3
      | [], h => cases h
      | t :: _ :: _, h => cases t <;> cases h
    | _ => cases h
  | .par is es, k, X, hk, x, h => by
    cases x with
    | Assign ts y p =>
      match ts, y, h with
      | [.Tuple ts a p2], .Tuple vs b p3, h =>
        obtain ⟨h1, h2⟩ := and_of (show (es.chk k vs && (parOk k is ts vs || parOk2 k is ts vs)) = true from h)
        obtain ⟨e1, e2⟩ := Exs.ok es hk vs h1
        have pa := pa_listS e1 e2
        rw [← denS_eq] at pa
        have nd : X.N.Nodup := by rw [hk.hN]; exact hk.nd
        have kd : X.env.scope.kind = .function := by rw [hk.hsc]; exact hk.kd
        cases hp2 : parOk2 k is ts vs with
        | true =>
          match is, ts, vs, hp2, pa with
          | [i, j], [.Name x px, .Name y py], [u, v], h2, pa =>
            simp only [parOk2, Bool.and_eq_true, Bool.or_eq_true, decide_eq_true_eq, Bool.not_eq_true', decide_eq_false_iff_not] at h2
            obtain ⟨⟨⟨⟨g1, g2⟩, g3⟩, g4⟩, g5⟩ := h2
            obtain ⟨w1, w2, w3⟩ := wr_of hk g1
            obtain ⟨y1, y2, y3⟩ := wr_of hk g2
            rw [← hk.hsc] at g3
            exact ps_tupF hk.calm nd w1 y1 w2 y2 w3 y3 pa (stores_cell g3) sole_tup
        | false =>
        rw [hp2, Bool.or_false] at h2
        match is, ts, vs, h2, pa with
        | [i, j], [.Name x px, .Name y py], [u, v], h2, pa =>
          simp only [parOk, Bool.and_eq_true, decide_eq_true_eq, Bool.not_eq_true'] at h2
          obtain ⟨⟨⟨⟨⟨⟨⟨⟨⟨⟨g1, g2⟩, g3⟩, g4⟩, g5⟩, g6⟩, g7⟩, g8⟩, g9⟩, g10⟩, g11⟩ := h2
          rw [← hk.hN] at g1 g2
          rw [← hk.hsc] at g4 g5
          exact ps_parF hk.calm nd g1 g2 g3 g4 g5 pa (stores_par2 kd g4 g5 g6 g7 g8 g9 g10 g11) sole_tup
        | [i, j, l], [.Name x px, .Name y py, .Name z pz], [u, v, w], h2, pa =>
          simp only [parOk, Bool.and_eq_true, decide_eq_true_eq, Bool.not_eq_true'] at h2
          obtain ⟨⟨⟨⟨⟨⟨⟨⟨⟨⟨⟨⟨⟨⟨⟨⟨⟨⟨g1, g2⟩, g3⟩, g4⟩, g5⟩, g6⟩, g7⟩, g8⟩, g9⟩, g10⟩, g11⟩, g12⟩, g13⟩, g14⟩, g15⟩, g16⟩, g17⟩, g18⟩, g19⟩ := h2
          rw [← hk.hN] at g1 g2 g3
          rw [← hk.hsc] at g7 g8 g9
          exact ps_par3F hk.calm nd g1 g2 g3 g4 g5 g6 g7 g8 g9 pa (stores_par3 kd g7 g8 g9 g10 g11 g12 g13 g14 g15 g16 g17 g18 g19) sole_tup
    | _ => cases h
  | .setIx i o e, k, X, hk, x, h => by
    cases x with
    | Assign ts y p =>
      match ts, h with
      | [.Subscript (.Name x p2) z p3], h =>
        obtain ⟨h1, h4⟩ := and_of (show (((k.vis i x && o.chk k z) && e.chk k y) && !isSlice z) = true from h)
        obtain ⟨h1, h3⟩ := and_of h1
        obtain ⟨h1, h2⟩ := and_of h1
        obtain ⟨v1, v2, v3, v4⟩ := vis_of hk h1
        exact ps_setIxF v1 v2 v3 v4 (Ex.ok e hk y h3) (Op.ok o hk z h2) (asg_sub (not_of h4)) sole_sub stores_sub rfl
    | _ => cases h
  | .aug i e, k, X, hk, x, h => by
    cases x with
    | AugAssign t op y p =>
      cases t with
      | Name x p2 =>
        obtain ⟨h1, h4⟩ := and_of (show (((decide (op = .Add) && k.wr i x) && k.vis i x) && e.chk k y) = true from h)
        obtain ⟨h1, h3⟩ := and_of h1
        obtain ⟨h1, h2⟩ := and_of h1
        obtain rfl := of_decide_eq_true h1
        obtain ⟨w1, w2, w3⟩ := wr_of hk h2
        exact ps_augF (by rw [hk.hN]; exact hk.nd) w1 w2 (Ex.ok e hk y h4) w3
      | _ => cases h
    | _ => cases h
  | .ex e, k, X, hk, x, h => by
    cases x with
    | Expr y p =>
      obtain ⟨h1, h2⟩ := and_of (show (e.chk k y && !isComp y) = true from h)
      exact ps_dropF (Ex.ok e hk y h1) (swaps_plain (not_of h2))
    | _ => cases h
  | .ret e, k, X, hk, x, h => by
    cases x with
    | Return y p =>
      cases y with
      | some y => exact ps_retF (Ex.ok e hk y h)
      | none => cases h
    | _ => cases h
  | .retv i, k, X, hk, x, h => by
    cases x with
    | Return y p =>
      cases y with
      | some y =>
        cases y with
        | Name x p2 =>
          obtain ⟨v1, v2, v3, v4⟩ := vis_of hk (show k.vis i x = true from h)
          exact ps_retvF v1 v2 v3 v4
        | _ => cases h
      | none => cases h
    | _ => cases h
  | .retn, k, X, hk, x, h => by
    cases x with
    | Return y p =>
      cases y with
      | some y => cases h
      | none => exact ps_retnF
    | _ => cases h
  | .ite t a b, k, X, hk, x, h => by
    cases x with
    | If y ys zs p =>
      obtain ⟨h1, h3⟩ := and_of (show ((t.chk k y && a.chk k ys) && b.chk k zs) = true from h)
      obtain ⟨h1, h2⟩ := and_of h1
      exact ps_ifF (Te.ok t hk y h1) (Sts.ok a hk ys h2) (Sts.ok b hk zs h3)
    | _ => cases h
  | .wh t b, k, X, hk, x, h => by
    cases x with
    | While y ys zs p =>
      cases zs with
      | nil =>
        obtain ⟨h1, h2⟩ := and_of (show (t.chk k y && b.chk k ys) = true from h)
        exact ps_whF hk.hp (Te.ok t hk y h1) (Sts.ok b hk ys h2)
      | cons => cases h
    | _ => cases h
  | .for it tg b, k, X, hk, x, h => by
    cases x with
    | For t y ys zs p =>
      cases zs with
      | nil =>
        obtain ⟨h1, h4⟩ := and_of (show (((it.chk k t y && tg.chk k t) && b.chk k ys) && !isSetE y) = true from h)
        obtain ⟨h1, h3⟩ := and_of h1
        obtain ⟨h1, h2⟩ := and_of h1
        exact ps_forF hk.hp hk.calm (It.ok it hk t y h1) (Tg.ok hk tg t h2) (Sts.ok b hk ys h3) (fun x => folded_of (not_of h4) x)
      | cons => cases h
    | _ => cases h
  | .pass, k, X, hk, x, h => by
    cases x with
    | Pass p => exact ps_passF
    | _ => cases h
  | .brk, k, X, hk, x, h => by
    cases x with
    | Break p => exact ps_brkF
    | _ => cases h
  | .cnt, k, X, hk, x, h => by
    cases x with
    | Continue p => exact ps_ctF
    | _ => cases h
theorem Sts.ok : ∀ (s : Sts) {k : Kt} {X : Cx} (hk : Ok k n F X) (xs : List Stmt), s.chk k xs = true → PSs X xs (tFS X (s.den F))
  | .nil, k, X, hk, xs, h => by
    cases xs with
    | nil => exact pss_nilF
    | cons => cases h
  | .cons s r, k, X, hk, xs, h => by
    cases xs with
    | nil => cases h
    | cons x xs =>
      obtain ⟨h1, h2⟩ := and_of (show (s.chk k x && r.chk k xs) = true from h)
      exact pss_consF (St.ok s hk x h1) (Sts.ok r hk xs h2)
end
end
end DL

set_option maxHeartbeats 1000000
namespace DL
open PySem PySem.Spec PyProof.Rows L2

/-! ### a program -/
structure Df where
  name : Str
  ps : List Str
  N : List Str
  body : Sts
def fns (P : List Df) : Nat → Nat → Fn
  | 0, _ => fun _ => .stuck
  | n + 1, i => match P[i]? with
    | some d => fnF d.N.length (d.body.den (fns P n))
    | none => fun _ => .stuck
def dScope : Stmt → Scope
  | .FunctionDef (scope := s) .. => s
  | _ => ⟨.function, [], false, false, []⟩
def dBody : Stmt → List Stmt
  | .FunctionDef (body := b) .. => b
  | _ => []
def dArgs : Stmt → Arguments
  | .FunctionDef (args := a) .. => a
  | _ => ⟨[], [], none, [], [], none, []⟩
def scC (N P : List Str) (sc : Scope) : Bool :=
  decide (sc.kind = .function) && !sc.isCoroutine && !sc.isGenerator && decide N.Nodup && decide (N.take P.length = P) && P.all (fun x => decide (sc.names.lookup x = some .local) || decide (sc.names.lookup x = some .cell)) && sc.names.all (fun y => !decide (y.2 = .free))
theorem fnScope_by {N P : List Str} {sc : Scope} (h : scC N P sc = true) : FnScope N P sc := by
  unfold scC at h
  simp only [Bool.and_eq_true, Bool.not_eq_true', decide_eq_true_eq, List.all_eq_true, Bool.or_eq_true, decide_eq_false_iff_not] at h
  obtain ⟨⟨⟨⟨⟨⟨h1, h2⟩, h3⟩, h4⟩, h5⟩, h6⟩, h7⟩ := h
  exact ⟨h1, h2, h3, h4, h5, h6, h7⟩
def ktOf (bl : List Str) (T : List (Str × List Str)) (d : Df) (st : Stmt) : Kt := ⟨d.N, dScope st, fun _ => true, bl, T⟩
def tabOf (P : List Df) : List (Str × List Str) := P.map fun d => (d.name, d.ps)
/-- a def of the text is this one -/
def Df.chk (bl : List Str) (T : List (Str × List Str)) (d : Df) (st : Stmt) : Bool := scC d.N d.ps (dScope st) && d.body.chk (ktOf bl T d st) (dBody st)
/-- .. as it stands behind the top -/
structure Lies (K : PySem.W.Frag) (mg : Str → Option Value) (d : Df) (st : Stmt) : Prop where
  ex : ∃ (f : Addr) (oc : Value) (od : Option Addr) (dV kV doc pm : Value) (an : Option Addr) (cdv ct : Value) (osl : Array (Option Value)),
    K.lookup f = some ⟨oc, od, .func (PySem.W.fnOf d.name d.name (dArgs st) (dBody st) (dScope st) dV kV doc pm an cdv ct), osl⟩ ∧ PySem.W.codeIn K cdv d.name = true ∧ mg d.name = some (.ref f) ∧ PySem.W.keepIn K (.ref f) = true ∧
    BindAny K (PySem.W.fnOf d.name d.name (dArgs st) (dBody st) (dScope st) dV kV doc pm an cdv ct) d.ps

section
variable {P : Program} {w : World} {K : PySem.W.Frag} {mg : Str → Option Value} {base : Heap} {D : List Df} {bl : List Str}
theorem fn_at (hb : ∀ x ∈ bl, mg x = none) {n : Nat} (ih : ∀ (j : Nat) (e : Df), D[j]? = some e → CalAt P w K mg base n e.name e.ps (fns D n j)) {i : Nat} {d : Df} {st : Stmt} (hi : D[i]? = some d) (hc : d.chk bl (tabOf D) st = true)
    {f : Addr} {oc : Value} {od : Option Addr} {dV kV doc pm : Value} {an : Option Addr} {cdv ct : Value} {osl : Array (Option Value)}
    (lk : K.lookup f = some ⟨oc, od, .func (PySem.W.fnOf d.name d.name (dArgs st) (dBody st) (dScope st) dV kV doc pm an cdv ct), osl⟩) (hcd : PySem.W.codeIn K cdv d.name = true) :
    FnOk P w K mg base CX0 (n + 1) f (PySem.W.fnOf d.name d.name (dArgs st) (dBody st) (dScope st) dV kV doc pm an cdv ct) d.ps (spD w K d.ps.length (fns D (n + 1) i)) := by
  obtain ⟨c1, c2⟩ := and_of (show (scC d.N d.ps (dScope st) && d.body.chk (ktOf bl (tabOf D) d st) (dBody st)) = true from hc)
  have S := fnScope_by c1
  refine fn_of lk hcd S (fun vs H Q E h => h.1) (fun A outer s H vs Q E hr hsp => ?_)
  refine ⟨tFS _ (d.body.den (fns D n)), PSs.nox (Sts.ok (n := n) (k := ktOf bl (tabOf D) d st) d.body ?_ (dBody st) c2), ?_⟩
  · refine ⟨rfl, S.nd, rfl, S.kind, rfl, hr, PassesOwn.never, fun x _ => rfl, hb, fun j x ps hj => ?_⟩
    have hj : (D.map fun d => (d.name, d.ps))[j]? = some (x, ps) := hj
    rw [List.getElem?_map] at hj
    obtain ⟨e, he, hj⟩ := Option.map_eq_some_iff.mp hj
    cases hj
    exact ih j e he
  · refine body_ok (n := d.ps.length) (nslots := d.N.length) (E := E) rfl ?_
    have e : fns D (n + 1) i = fnF d.N.length (d.body.den (fns D n)) := by
      show (match D[i]? with | some d => fnF d.N.length (d.body.den (fns D n)) | none => fun _ => .stuck) = _
      rw [hi]
    rw [← e]
    exact hsp
theorem level (hb : ∀ x ∈ bl, mg x = none) (hD : ∀ (i : Nat) (d : Df), D[i]? = some d → ∃ st, d.chk bl (tabOf D) st = true ∧ Lies K mg d st) :
    ∀ (n i : Nat) (d : Df), D[i]? = some d → CalAt P w K mg base n d.name d.ps (fns D n i)
  | 0, i, d, hi => by
    obtain ⟨st, hc, hl⟩ := hD i d hi
    obtain ⟨f, oc, od, dV, kV, doc, pm, an, cdv, ct, osl, lk, hcd, hm, kp, ba⟩ := hl.ex
    refine ⟨f, _, ⟨fun vs H Q E h => h.1, fun A outer s H args us vs Q E hr he hb hv hs => ?_⟩, hm, kp, ba⟩
    obtain ⟨_, Z, ss, _, _, h⟩ := hs
    exact h.elim
  | n + 1, i, d, hi => by
    obtain ⟨st, hc, hl⟩ := hD i d hi
    obtain ⟨f, oc, od, dV, kV, doc, pm, an, cdv, ct, osl, lk, hcd, hm, kp, ba⟩ := hl.ex
    exact ⟨f, _, fn_at hb (fun j e => level hb hD n j e) hi hc lk hcd, hm, kp, ba⟩
/-- the law's def -/
theorem law_fn (hb : ∀ x ∈ bl, mg x = none) (hD : ∀ (i : Nat) (d : Df), D[i]? = some d → ∃ st, d.chk bl (tabOf D) st = true ∧ Lies K mg d st) {fa : Addr} {i : Nat} {d : Df} {x : Str} (n : Nat) (hi : D[i]? = some d) (hps : d.ps = [x]) (hfa : mg d.name = some (.ref fa)) (hin : ∃ s : Shared, K.In s.heap) :
    ∃ fd : FuncData, (∀ (s : Shared) (u : Value), K.In s.heap → BindsTo s fd ⟨[u], []⟩ [(x, u)]) ∧ ∀ base : Heap, FnOk P w K mg base CX0 (n + 1) fa fd [x] (spD w K 1 (fns D (n + 1) i)) := by
  obtain ⟨st, hc, hl⟩ := hD i d hi
  obtain ⟨f, oc, od, dV, kV, doc, pm, an, cdv, ct, osl, lk, hcd, hm, kp, ba⟩ := hl.ex
  rw [hfa] at hm
  cases hm
  refine ⟨PySem.W.fnOf d.name d.name (dArgs st) (dBody st) (dScope st) dV kV doc pm an cdv ct, fun s u k => ?_, fun base => ?_⟩
  · have := ba s [u] [] k (by rw [hps]; rfl)
    rw [hps] at this
    exact this
  · have := fn_at (P := P) (w := w) (base := base) hb (fun j e => level hb hD n j e) hi hc lk hcd
    rw [hps] at this
    exact this
end
/-- the script at the law's entry -/
theorem law_sp {ω : World} {K : PySem.W.Frag} {H : Hp} {a : Addr} {ns : List Int} {f : Fn} {outs : List S} {E : XK} (hs : SqL K H a (ns.map V.int)) (h : f [.val (.list (ns.map .int))] = .ok (.val (.bool true), outs)) : spD ω K 1 f [.ref a] H (fun v _ => v = .bl true) E := by
  have no : ∀ b, ¬ YY (fun _ => False) [S.val (.list (ns.map PyData.int))] [some (V.ref a)] b := fun b z => by
    rcases z with z | ⟨i, s, d, h1, h2, h3⟩
    · exact z
    · cases i with
      | zero => cases h1; cases h2
      | succ i => simp at h1
  refine ⟨rfl, fun _ => False, [.val (.list (ns.map .int))], ⟨rfl, fun _ z => z.elim, fun _ z => z.elim, fun i d hi => ?_, fun i s d hi m => ?_, fun i j s t d e b hi hj m1 m2 => ?_⟩, rfl, ?_⟩
  · cases i with
    | zero =>
      cases hi
      refine ⟨_, rfl, ?_⟩
      rcases hs with r | k
      · exact .lst r (no a) (ints_rp ns)
      · exact .lstK k (ints_rp ns)
    | succ i => simp at hi
  · cases i with
    | zero => cases hi; cases m
    | succ i => simp at hi
  · cases i with
    | zero => cases hi; cases m1
    | succ i => simp at hi
  · rw [h]
    intro v H1 pc
    obtain ⟨ρ1, σ1, _, _, _, rs⟩ := pc.ex
    exact Rp.bool_inv (show Rp _ _ _ _ _ from rs)
end DL

namespace DL
open PySem

/-! ### outcomes, as they are reckoned -/
section
variable {α β γ : Type}
theorem R.bind_cg {x y : R α} {f : α → R β} (h : x = y) : R.bind x f = R.bind y f := by rw [h]
theorem bindOk (a : α) (f : α → R β) : R.bind (.ok a) f = f a := rfl
theorem bindExc (c : Str) (d : D) (f : α → R β) : R.bind (.exc c d) f = .exc c d := rfl
theorem bindStuck (f : α → R β) : R.bind .stuck f = .stuck := rfl
theorem bindIte (c : Prop) [Decidable c] (x y : R α) (f : α → R β) : R.bind (if c then x else y) f = if c then R.bind x f else R.bind y f := by split <;> rfl
theorem bindBind (x : R α) (f : α → R β) (g : β → R γ) : R.bind (R.bind x f) g = R.bind x fun a => R.bind (f a) g := by cases x <;> rfl
theorem ofSome (a : α) : R.of (some a) = .ok a := rfl
theorem ofNone : R.of (none : Option α) = .stuck := rfl
/-- an outcome with which nothing is wrong -/
def R.W (r : R α) (Q : α → Prop) : Prop := match r with
  | .ok a => Q a
  | _ => False
theorem W_cg {x y : R α} {Q : α → Prop} (h : x = y) : R.W x Q = R.W y Q := by rw [h]
theorem W_ok (a : α) (Q : α → Prop) : R.W (.ok a) Q = Q a := rfl
theorem W_bind (x : R α) (f : α → R β) (Q : β → Prop) : R.W (R.bind x f) Q = R.W x fun a => R.W (f a) Q := by cases x <;> rfl
theorem W_ite (c : Prop) [Decidable c] (x y : R α) (Q : α → Prop) : R.W (if c then x else y) Q = if c then R.W x Q else R.W y Q := by split <;> rfl
theorem R.W.mono {r : R α} {Q Q' : α → Prop} (h : R.W r Q) (w : ∀ a, Q a → Q' a) : R.W r Q' := by
  cases r with
  | ok a => exact w a h
  | _ => exact h.elim
theorem R.W.ex {r : R α} {Q : α → Prop} (h : R.W r Q) : ∃ a, r = .ok a ∧ Q a := by
  cases r with
  | ok a => exact ⟨a, rfl, h⟩
  | _ => exact h.elim
theorem W_of {r : R α} {Q : α → Prop} {a : α} (e : r = .ok a) (h : Q a) : R.W r Q := by rw [e]; exact h
theorem W_eq {r : R α} {a : α} (h : R.W r fun b => b = a) : r = .ok a := by
  obtain ⟨b, h, e⟩ := h.ex
  rw [h, e]
end

/-! ### environments -/
def gt (ρ : En) (i : Nat) : Option S := ρ[i]?
theorem gt0 (s : S) (ρ : En) : gt (s :: ρ) 0 = some s := rfl
theorem gtS (s : S) (ρ : En) (i : Nat) : gt (s :: ρ) (i + 1) = gt ρ i := by unfold gt; rw [List.getElem?_cons_succ]
def st (ρ : En) (i : Nat) (s : S) : En := ρ.set i s
theorem st0 (s t : S) (ρ : En) : st (s :: ρ) 0 t = t :: ρ := rfl
theorem stS (s t : S) (ρ : En) (i : Nat) : st (s :: ρ) (i + 1) t = s :: st ρ i t := rfl
theorem gt_cg {ρ ρ' : En} {i : Nat} (h : ρ = ρ') : gt ρ i = gt ρ' i := by rw [h]
def wp (ρ : En) (vs : List Nat) : En := wipeE ρ vs
theorem wp_nil (ρ : En) : wp ρ [] = ρ := rfl
theorem wp_cons (ρ : En) (v : Nat) (vs : List Nat) : wp ρ (v :: vs) = st (wp ρ vs) v .un := rfl

/-! ### the meanings, applied -/
section
variable (F : Nat → Fn) (ρ : En)
/-- what stands behind a statement -/
def thn (g : En → R (Fl × En)) : Fl × En → R (Fl × En) := fun q => match q.1 with
  | .nx => g q.2
  | .bk => .ok (.bk, q.2)
  | .ct => .ok (.ct, q.2)
  | .rt s => .ok (.rt s, q.2)
theorem thn_nx (g : En → R (Fl × En)) : thn g (.nx, ρ) = g ρ := rfl
theorem thn_bk (g : En → R (Fl × En)) : thn g (.bk, ρ) = .ok (.bk, ρ) := rfl
theorem thn_ct (g : En → R (Fl × En)) : thn g (.ct, ρ) = .ok (.ct, ρ) := rfl
theorem thn_rt (g : En → R (Fl × En)) (s : S) : thn g (.rt s, ρ) = .ok (.rt s, ρ) := rfl
theorem sts_nil : Sts.den F .nil ρ = .ok (.nx, ρ) := rfl
theorem sts_cons (s : St) (r : Sts) : Sts.den F (.cons s r) ρ = (s.den F ρ).bind (thn (r.den F)) := rfl
theorem st_set (i : Nat) (e : Ex) : St.den F (.set i e) ρ = (e.den F ρ).bind fun q => .ok (.nx, st q.2 i q.1) := rfl
theorem st_asg (e : Ex) (tg : Tg) : St.den F (.asg e tg) ρ = (e.den F ρ).bind fun q => (R.of q.1.shr).bind fun d => (tg.den d q.2).bind fun ρ1 => .ok (.nx, ρ1) := rfl
theorem st_aug (i : Nat) (e : Ex) : St.den F (.aug i e) ρ = (match gt ρ i with
  | some (.val (.int a)) => (e.den F ρ).bind fun q => match q.1 with
    | .val (.int b) => .ok (.nx, st q.2 i (.val (.int (a + b))))
    | _ => .stuck
  | _ => .stuck) := rfl
theorem st_ex (e : Ex) : St.den F (.ex e) ρ = (e.den F ρ).bind fun q => .ok (.nx, q.2) := rfl
theorem st_ret (e : Ex) : St.den F (.ret e) ρ = (e.den F ρ).bind fun q => .ok (.rt q.1, q.2) := rfl
theorem st_retv (i : Nat) : St.den F (.retv i) ρ = (match gt ρ i with
  | some (.val d) => .ok (.rt (.val d), ρ)
  | some (.own d) => .ok (.rt (.own d), st ρ i .un)
  | _ => .stuck) := rfl
theorem st_retn : St.den F .retn ρ = .ok (.rt (.val .none), ρ) := rfl
theorem st_ite (t : Te) (a b : Sts) : St.den F (.ite t a b) ρ = (t.den F ρ).bind fun q => if q.1 = true then a.den F q.2 else b.den F q.2 := rfl
theorem st_wh (t : Te) (b : Sts) : St.den F (.wh t b) ρ = whL (t.den F) (b.den F) lots ρ := rfl
theorem st_for (it : It) (tg : Tg) (b : Sts) : St.den F (.for it tg b) ρ = (it.den F ρ).bind fun q => forL tg.den (b.den F) q.1 q.2 := rfl
theorem st_pass : St.den F .pass ρ = .ok (.nx, ρ) := rfl
theorem st_brk : St.den F .brk ρ = .ok (.bk, ρ) := rfl
theorem st_cnt : St.den F .cnt ρ = .ok (.ct, ρ) := rfl
theorem st_par2 (i j : Nat) (a b : Ex) : St.den F (.par [i, j] (.cons a (.cons b .nil))) ρ = (a.den F ρ).bind fun p => (b.den F p.2).bind fun q => .ok (.nx, st (st q.2 i p.1) j q.1) := by
  show R.bind (R.bind (a.den F ρ) _) _ = _
  rw [bindBind]; congr 1; funext p
  rw [bindBind]
  show R.bind (R.bind (b.den F p.2) _) _ = _
  rw [bindBind]; rfl
theorem st_par3 (i j k : Nat) (a b c : Ex) : St.den F (.par [i, j, k] (.cons a (.cons b (.cons c .nil)))) ρ = (a.den F ρ).bind fun p => (b.den F p.2).bind fun q => (c.den F q.2).bind fun r => .ok (.nx, st (st (st r.2 i p.1) j q.1) k r.1) := by
  show R.bind (R.bind (a.den F ρ) _) _ = _
  rw [bindBind]; congr 1; funext p
  rw [bindBind]
  show R.bind (R.bind (b.den F p.2) _) _ = _
  rw [bindBind]; congr 1; funext q
  rw [bindBind]
  show R.bind (R.bind (c.den F q.2) _) _ = _
  rw [bindBind]; rfl
/-- a place's or a datum's reading -/
def pg (ρ : En) (p : P) : R D := R.of (p.get ρ)
theorem st_setIx (k : Nat) (i : Op) (e : Ex) : St.den F (.setIx k i e) ρ = (e.den F ρ).bind fun q => (R.of q.1.shr).bind fun d => (R.of (myL q.2 k)).bind fun _ => (i.den F q.2).bind fun r => (pg r.2 r.1).bind fun i => (R.of (myL r.2 k)).bind fun s => match i with
  | .int i => (R.of (L2.ixN s.2.length i)).bind fun j => .ok (.nx, st r.2 k (s.1.wid (.list (s.2.set j d))))
  | _ => .stuck := rfl

/-! expressions -/
theorem ex_c (k : Const) : Ex.den F (.c k) ρ = .ok (.val (constD k), ρ) := rfl
theorem ex_v (i : Nat) : Ex.den F (.v i) ρ = (match gt ρ i with
  | some (.val d) => .ok (.val d, ρ)
  | some (.own d) => if isDict d = true then .stuck else .ok (.val d, st ρ i (.val d))
  | _ => .stuck) := rfl
theorem pg_at (i : Nat) : pg ρ (.at i) = R.of ((gt ρ i).bind S.data) := rfl
theorem pg_dv (d : D) : pg ρ (.dv d) = .ok d := rfl
def outS (s : S) (ρ : En) : R (S × En) := if s.out = true then .ok (s, ρ) else .stuck
theorem out_val (d : D) : outS (.val d) ρ = .ok (.val d, ρ) := rfl
theorem out_own (d : D) : outS (.own d) ρ = .ok (.own d, ρ) := rfl
theorem ex_bin (o : Operator) (a b : Op) : Ex.den F (.bin o a b) ρ = (a.den F ρ).bind fun p => (b.den F p.2).bind fun q => (pg q.2 p.1).bind fun d => (pg q.2 q.1).bind fun e => (R.of (opD o d e)).bind fun s => outS s q.2 := rfl
theorem ex_cmp (o : CmpOp) (a b : Op) : Ex.den F (.cmp o a b) ρ = (a.den F ρ).bind fun p => (b.den F p.2).bind fun q => (pg q.2 p.1).bind fun d => (pg q.2 q.1).bind fun e => (R.of (cmpD o d e)).bind fun s => outS s q.2 := rfl
theorem ex_ix (a b : Op) : Ex.den F (.ix a b) ρ = (a.den F ρ).bind fun p => (b.den F p.2).bind fun q => (pg q.2 p.1).bind fun d => (pg q.2 q.1).bind fun e => (R.of (ixD d e)).bind fun s => outS s q.2 := rfl
theorem ex_neg (a : Op) : Ex.den F (.neg a) ρ = (a.den F ρ).bind fun p => (pg p.2 p.1).bind fun d => (R.of (negD d)).bind fun s => outS s p.2 := rfl
theorem ex_nt (a : Ex) : Ex.den F (.nt a) ρ = (a.den F ρ).bind fun q => (R.of (q.1.shr.bind truD)).bind fun b => .ok (.val (.bool (!b)), q.2) := by
  show R.bind (R.bind (a.den F ρ) _) _ = _
  rw [bindBind]; congr 1; funext p
  rw [bindBind]; rfl
theorem ex_bo1 (k : Bool) (a : Ex) : Ex.den F (.bo k (.cons a .nil)) ρ = a.den F ρ := rfl
theorem ex_bo (k : Bool) (a b : Ex) (r : Exs) : Ex.den F (.bo k (.cons a (.cons b r))) ρ = (a.den F ρ).bind fun q => (R.of (q.1.shr.bind truD)).bind fun t => if t = k then Ex.den F (.bo k (.cons b r)) q.2 else .ok q := by
  cases k
  · show R.bind (a.den F ρ) _ = _
    congr 1; funext q; congr 1; funext t
    cases t <;> rfl
  · rfl
theorem ex_ite (t : Te) (a b : Ex) : Ex.den F (.ite t a b) ρ = (t.den F ρ).bind fun q => if q.1 = true then a.den F q.2 else b.den F q.2 := rfl
/-- the parts of a display -/
def exl (es : Exs) (ρ : En) : R (List D × En) := match es with
  | .nil => .ok ([], ρ)
  | .cons e r => (e.den F ρ).bind fun q => (R.of q.1.shr).bind fun d => (exl r q.2).bind fun s => .ok (d :: s.1, s.2)
theorem exl_nil : exl F .nil ρ = .ok ([], ρ) := rfl
theorem exl_cons (e : Ex) (r : Exs) : exl F (.cons e r) ρ = (e.den F ρ).bind fun q => (R.of q.1.shr).bind fun d => (exl F r q.2).bind fun s => .ok (d :: s.1, s.2) := rfl
theorem exl_eq : ∀ (es : Exs) (ρ : En), ((es.denL F ρ).bind fun q => (R.of (dvs q.1)).bind fun ds => .ok (ds, q.2)) = exl F es ρ
  | .nil, ρ => rfl
  | .cons e r, ρ => by
    show R.bind (R.bind (R.bind (e.den F ρ) _) _) _ = R.bind (e.den F ρ) _
    rw [bindBind, bindBind]; congr 1; funext q
    rw [bindBind]; congr 1; funext d
    rw [← exl_eq r q.2]
    show R.bind (R.bind (r.denL F q.2) _) _ = R.bind (R.bind (r.denL F q.2) _) _
    rw [bindBind, bindBind]; congr 1; funext z
    show R.bind (R.of (dvs (P.dv d :: z.1))) _ = _
    show R.bind (R.of ((dvs z.1).map (d :: ·))) _ = _
    cases dvs z.1 <;> rfl
theorem ex_tup (es : Exs) : Ex.den F (.tup es) ρ = (exl F es ρ).bind fun q => if q.1.length ≤ sizeLine then .ok (.val (.tuple q.1), q.2) else .stuck := by
  rw [← exl_eq]
  show R.bind (es.denL F ρ) _ = _
  rw [bindBind]; congr 1; funext q
  rw [bindBind]; congr 1; funext ds
  rw [bindOk]
  by_cases h : ds.length ≤ sizeLine <;> simp [h]
theorem ex_lst (es : Exs) : Ex.den F (.lst es) ρ = (exl F es ρ).bind fun q => if q.1.length ≤ sizeLine then .ok (.own (.list q.1), q.2) else .stuck := by
  rw [← exl_eq]
  show R.bind (es.denL F ρ) _ = _
  rw [bindBind]; congr 1; funext q
  rw [bindBind]; congr 1; funext ds
  rw [bindOk]
  by_cases h : ds.length ≤ sizeLine <;> simp [h]
/-- operands' readings -/
def pgs (ρ : En) (ps : List P) : R (List D) := R.of (getAll ρ ps)
theorem pgs_nil : pgs ρ [] = .ok [] := rfl
theorem pgs_cons (p : P) (ps : List P) : pgs ρ (p :: ps) = (pg ρ p).bind fun d => (pgs ρ ps).bind fun ds => .ok (d :: ds) := by
  show R.of ((p.get ρ).bind fun d => (getAll ρ ps).map (d :: ·)) = (R.of (p.get ρ)).bind fun d => (R.of (getAll ρ ps)).bind _
  cases p.get ρ with
  | none => rfl
  | some d => cases getAll ρ ps <;> rfl
theorem ops_nil : Ops.den F .nil ρ = .ok ([], ρ) := rfl
theorem ops_cons (a : Op) (r : Ops) : Ops.den F (.cons a r) ρ = (a.den F ρ).bind fun q => (r.den F q.2).bind fun s => .ok (q.1 :: s.1, s.2) := rfl
theorem ex_bi (b : Bi) (as : Ops) : Ex.den F (.bi b as) ρ = (as.den F ρ).bind fun q => (pgs q.2 q.1).bind fun ds => (R.of (b.run ds)).bind fun s => outS s q.2 := rfl
theorem ex_isa (T : Ty) (a : Op) : Ex.den F (.isa T a) ρ = (a.den F ρ).bind fun p => (pg p.2 p.1).bind fun d => (R.of (if notDict d = true then some (.val (.bool (isaD T d))) else none)).bind fun s => outS s p.2 := rfl
theorem ex_call (x : Nat) (as : Ops) : Ex.den F (.call x as) ρ = (as.den F ρ).bind fun q => callS as.len (F x) q.2 q.1 := rfl
theorem ex_callK (x : Nat) (as ks : Ops) : Ex.den F (.callK x as ks) ρ = (as.den F ρ).bind fun p => if p.1.length = as.len then (ks.den F p.2).bind fun q => callS (as.len + ks.len) (F x) q.2 (p.1 ++ q.1) else .stuck := by
  show R.bind (R.bind (as.den F ρ) _) _ = _
  rw [bindBind]; congr 1; funext p
  by_cases h : p.1.length = as.len
  · rw [if_pos h, if_pos (by simp [h]), bindBind]; rfl
  · rw [if_neg h, if_neg (by simp [h])]; rfl
theorem ex_lc (it : It) (tg : Tg) (own : List (Str × Nat)) (ts : Tes) (e : Ex) : Ex.den F (.lc it tg own ts e) ρ = (it.den F ρ).bind fun q => (lcL tg.den (ifsB (ts.den F)) (e.den F) (own.map (·.2)) q.1 q.2).bind fun r => .ok (.own (.list r.1), backE r.2 q.2 (own.map (·.2))) := rfl
theorem ex_app (k : Nat) (e : Ex) : Ex.den F (.app k e) ρ = (R.of (myL ρ k)).bind fun _ => (e.den F ρ).bind fun q => (R.of q.1.shr).bind fun d => (R.of (myL q.2 k)).bind fun s => if s.2.length < sizeLine then .ok (.val .none, st q.2 k (s.1.wid (.list (s.2 ++ [d])))) else .stuck := by
  show R.bind _ _ = R.bind _ _
  congr 1; funext _; congr 1; funext q; congr 1; funext d; congr 1; funext s
  by_cases h : s.2.length < sizeLine <;> simp [h, st]
theorem ex_ext (k : Nat) (e : Ex) : Ex.den F (.ext k e) ρ = (R.of (myL ρ k)).bind fun _ => (e.den F ρ).bind fun q => match q.1 with
  | .own (.list es) => (R.of (myL q.2 k)).bind fun s => if s.2.length + es.length ≤ sizeLine then .ok (.val .none, st q.2 k (s.1.wid (.list (s.2 ++ es)))) else .stuck
  | _ => .stuck := by
  show R.bind _ _ = R.bind _ _
  congr 1; funext _; congr 1; funext q
  obtain ⟨z, ρ0⟩ := q
  cases z with
  | own d =>
    cases d with
    | list es =>
      show R.bind _ _ = R.bind _ _
      congr 1; funext s
      by_cases h : s.2.length + es.length ≤ sizeLine <;> simp [h, st]
    | _ => rfl
  | _ => rfl
theorem myL_gt (k : Nat) : myL ρ k = (gt ρ k).bind fun s => match s.mine with
  | some (.list ds) => some (s, ds)
  | _ => none := rfl
theorem ex_pop (k : Nat) : Ex.den F (.pop k) ρ = (R.of (myL ρ k)).bind fun s => (R.of s.2[s.2.length - 1]?).bind fun d => .ok (.val d, st ρ k (s.1.wid (.list s.2.dropLast))) := rfl
theorem ex_rl1 (t : Bool) (a : Op) : Ex.den F (.rl1 t a) ρ = (a.den F ρ).bind fun p => (pg p.2 p.1).bind fun d => (R.of (rl1D t d)).bind fun s => outS s p.2 := rfl
theorem ex_rl2 (t : Bool) (a b : Op) : Ex.den F (.rl2 t a b) ρ = (a.den F ρ).bind fun p => (b.den F p.2).bind fun q => (pg q.2 p.1).bind fun d => (pg q.2 q.1).bind fun e => (R.of (rl2D t d e)).bind fun s => outS s q.2 := rfl
theorem ex_sset (a : Op) : Ex.den F (.sset a) ρ = (a.den F ρ).bind fun p => (pg p.2 p.1).bind fun d => (R.of (ssetD d)).bind fun s => outS s p.2 := rfl
theorem ex_dctL (a : Op) : Ex.den F (.dctL a) ρ = (a.den F ρ).bind fun p => (pg p.2 p.1).bind fun d => (R.of (dctLD d)).bind fun s => outS s p.2 := rfl
theorem ex_dctT (k : Nat) : Ex.den F (.dctT k) ρ = (match (gt ρ k).bind S.mine with
  | some (.tuple ds) => (R.of (pairsD ds)).bind fun kvs => .ok (.own (.dict (mkDict kvs)), ρ)
  | _ => .stuck) := rfl
theorem ex_dget (k : Nat) (a b : Op) : Ex.den F (.dget k a b) ρ = (R.of (((gt ρ k).bind S.mine).bind fun d => if isDict d = true then some d else none)).bind fun _ => (a.den F ρ).bind fun p => (b.den F p.2).bind fun q => (pg q.2 p.1).bind fun kd => (pg q.2 q.1).bind fun dd => match (gt q.2 k).bind S.mine with
  | some (.dict kvs) => if keyOk kd = true then (match q.1 with
    | .dv _ => .ok (.val ((lookD kvs kd).getD dd), q.2)
    | _ => .stuck) else .stuck
  | _ => .stuck := rfl
theorem ex_sun (a b : Op) : Ex.den F (.sun a b) ρ = (a.den F ρ).bind fun p => (R.of ((p.1.get p.2).bind tupI)).bind fun ns => if ns.length ≤ 30 then ((b.den F p.2).bind fun q => (R.of ((q.1.get q.2).bind tupI)).bind fun ms => if ms.length ≤ 30 then .ok (.own (.list ((DLr.sortU DLr.ltI (ns ++ ms)).map .int)), q.2) else .stuck) else .stuck := by
  show R.bind (a.den F ρ) _ = _
  congr 1; funext p; congr 1; funext ns
  by_cases h : ns.length ≤ 30
  · rw [if_pos h, if_pos (by simp [h])]
    congr 1; funext q; congr 1; funext ms
    by_cases h2 : ms.length ≤ 30
    · rw [if_pos h2, if_pos (by simp [h2])]
    · rw [if_neg h2, if_neg (by simp [h2])]
  · rw [if_neg h, if_neg (by simp [h])]
theorem op_at (i : Nat) : Op.den F (.at i) ρ = (R.of ((gt ρ i).bind S.full)).bind fun _ => .ok (.at i, ρ) := rfl
theorem op_ex (e : Ex) : Op.den F (.ex e) ρ = (e.den F ρ).bind fun q => (R.of q.1.shr).bind fun d => .ok (.dv d, q.2) := rfl
theorem te_e (x : Ex) : Te.den F (.e x) ρ = (x.den F ρ).bind fun q => (R.of (q.1.shr.bind truD)).bind fun b => .ok (b, q.2) := rfl
theorem te_at (i : Nat) : Te.den F (.at i) ρ = (R.of (((gt ρ i).bind S.data).bind truD)).bind fun b => .ok (b, ρ) := rfl
theorem te_cmp (o : CmpOp) (a b : Op) : Te.den F (.cmp o a b) ρ = (Ex.den F (.cmp o a b) ρ).bind fun q => (R.of (q.1.shr.bind truD)).bind fun b => .ok (b, q.2) := rfl
theorem te_nt (t : Te) : Te.den F (.nt t) ρ = (t.den F ρ).bind fun q => .ok (!q.1, q.2) := rfl
theorem te_bo1 (k : Bool) (a : Te) : Te.den F (.bo k (.cons a .nil)) ρ = a.den F ρ := rfl
theorem te_bo (k : Bool) (a b : Te) (r : Tes) : Te.den F (.bo k (.cons a (.cons b r))) ρ = (a.den F ρ).bind fun q => if q.1 = k then Te.den F (.bo k (.cons b r)) q.2 else .ok (!k, q.2) := by
  cases k
  · show R.bind (a.den F ρ) _ = _
    congr 1; funext q
    cases q.1 <;> rfl
  · show R.bind (a.den F ρ) _ = _
    congr 1
theorem ifs_nil : ifsB (Tes.den F .nil) ρ = .ok (true, ρ) := rfl
theorem ifs_one (t : Te) : ifsB (Tes.den F (.cons t .nil)) ρ = t.den F ρ := rfl
theorem it_seq (e : Ex) : It.den F (.seq e) ρ = (e.den F ρ).bind fun q => (R.of (q.1.shr.bind itemsOf)).bind fun ds => .ok (ds, q.2) := rfl
theorem it_enum (e : Ex) : It.den F (.enum e) ρ = (e.den F ρ).bind fun q => (R.of (q.1.shr.bind itemsOf)).bind fun ds => .ok (numb 0 ds, q.2) := rfl
theorem it_rev (e : Ex) : It.den F (.rev e) ρ = (e.den F ρ).bind fun q => (R.of (q.1.shr.bind itemsOf)).bind fun ds => if ds.length ≤ 1000000 then .ok (ds.reverse, q.2) else .stuck := by
  show R.bind (e.den F ρ) _ = _
  congr 1; funext q; congr 1; funext ds
  by_cases h : ds.length ≤ 1000000 <;> simp [h]
theorem it_zip (as : Ops) : It.den F (.zip as) ρ = (as.den F ρ).bind fun q => (R.of ((dvs q.1).bind zip2D)).bind fun ds => .ok (ds, q.2) := rfl
theorem it_rng (as : Ops) : It.den F (.rng as) ρ = (as.den F ρ).bind fun q => (pgs q.2 q.1).bind fun ds => (R.of ((match as.len with | 1 => range1D | 2 => range2D | _ => range3D) ds)).bind fun ds => .ok (ds, q.2) := by
  show R.bind (as.den F ρ) _ = _
  congr 1; funext q
  show R.bind (R.of ((getAll q.2 q.1).bind _)) _ = R.bind (R.of (getAll q.2 q.1)) _
  cases getAll q.2 q.1 <;> rfl
theorem ops_len0 : Ops.len .nil = 0 := rfl
theorem ops_lenS (a : Op) (r : Ops) : Ops.len (.cons a r) = r.len + 1 := rfl
theorem ex_sl (a : Op) (lo hi : Oo) : Ex.den F (.sl a lo hi) ρ = (a.den F ρ).bind fun p => (ptF (lo.den F) p.2).bind fun l => (R.of (optI l.2 l.1)).bind fun i => (ptF (hi.den F) l.2).bind fun h => (R.of (optI h.2 h.1)).bind fun j => (pg h.2 p.1).bind fun d => (R.of (slD d i j)).bind fun s => outS s h.2 := rfl
theorem pt_no : ptF (Oo.den F .no) ρ = .ok (none, ρ) := rfl
theorem pt_so (a : Op) : ptF (Oo.den F (.so a)) ρ = (a.den F ρ).bind fun q => .ok (some q.1, q.2) := rfl
theorem optI_none : optI ρ none = some none := rfl
theorem optI_dv (i : Int) : optI ρ (some (.dv (.int i))) = some (some i) := rfl
theorem optI_at (i : Nat) : optI ρ (some (.at i)) = (match (gt ρ i).bind S.data with
    | some (.int i) => some (some i)
    | _ => none) := rfl
theorem tg_nm (i : Nat) (d : D) : Tg.den (.nm i) d ρ = .ok (st ρ i (.val d)) := rfl
theorem tg_tup (ts : Tgs) (ds : List D) : Tg.den (.tup ts) (.tuple ds) ρ = if ds.length = ts.len then ts.den ds ρ else .stuck := by
  show (if decide (ds.length = ts.len) = true then _ else _) = _
  by_cases h : ds.length = ts.len
  · rw [if_pos h, if_pos (by simp [h])]
  · rw [if_neg h, if_neg (by simp [h])]
theorem tgs_nil : Tgs.den .nil [] ρ = .ok ρ := rfl
theorem tgs_cons (t : Tg) (r : Tgs) (d : D) (ds : List D) : Tgs.den (.cons t r) (d :: ds) ρ = (t.den d ρ).bind fun ρ1 => r.den ds ρ1 := rfl
theorem tgs_len0 : Tgs.len .nil = 0 := rfl
theorem tgs_lenS (t : Tg) (r : Tgs) : Tgs.len (.cons t r) = r.len + 1 := rfl
end
section
variable {F : Nat → Fn} {ρ ρ' : En}
theorem sts_cg {a : Sts} (h : ρ = ρ') : Sts.den F a ρ = Sts.den F a ρ' := by rw [h]
theorem st_cg {a : St} (h : ρ = ρ') : St.den F a ρ = St.den F a ρ' := by rw [h]
theorem ex_cg {a : Ex} (h : ρ = ρ') : Ex.den F a ρ = Ex.den F a ρ' := by rw [h]
theorem op_cg {a : Op} (h : ρ = ρ') : Op.den F a ρ = Op.den F a ρ' := by rw [h]
theorem te_cg {a : Te} (h : ρ = ρ') : Te.den F a ρ = Te.den F a ρ' := by rw [h]
theorem it_cg {a : It} (h : ρ = ρ') : It.den F a ρ = It.den F a ρ' := by rw [h]
theorem ops_cg {a : Ops} (h : ρ = ρ') : Ops.den F a ρ = Ops.den F a ρ' := by rw [h]
theorem exl_cg {a : Exs} (h : ρ = ρ') : exl F a ρ = exl F a ρ' := by rw [h]
theorem lcL_cg {tg : FT} {tt : FB} {te : FE} {vs : List Nat} {ds ds' : List D} (h1 : ds = ds') (h : ρ = ρ') : lcL tg tt te vs ds ρ = lcL tg tt te vs ds' ρ' := by rw [h, h1]
theorem forL_cg {tg : FT} {b : FS} {ds ds' : List D} (h1 : ds = ds') (h : ρ = ρ') : forL tg b ds ρ = forL tg b ds' ρ' := by rw [h, h1]
theorem whL_cg {c : FB} {b : FS} {n : Nat} (h : ρ = ρ') : whL c b n ρ = whL c b n ρ' := by rw [h]
end

/-! ### calls -/
/-- a def's value, of data alone -/
def rv (f : Fn) (ds : List D) : R S := (f (ds.map .val)).bind fun r => .ok r.1
theorem argsS_dv (ρ : En) : ∀ ds : List D, argsS ρ (ds.map .dv) = some (ds.map .val)
  | [] => rfl
  | d :: ds => by
    show ((some (S.val d)).bind fun s => (argsS ρ (ds.map .dv)).map (s :: ·)) = _
    rw [argsS_dv ρ ds]; rfl
theorem atIx_dv : ∀ ds : List D, (ds.map P.dv).filterMap atIx = []
  | [] => rfl
  | d :: ds => by
    rw [List.map_cons, List.filterMap_cons]
    exact atIx_dv ds
theorem outFor_dv (i : Nat) : ∀ (ds : List D) (outs : List S), outFor i (ds.map .dv) outs = none
  | [], outs => by cases outs <;> rfl
  | d :: ds, [] => rfl
  | d :: ds, o :: outs => outFor_dv i ds outs
theorem backS_dv (ds : List D) (outs : List S) : ∀ (i : Nat) (ρ : En), backS (ds.map .dv) outs i ρ = ρ
  | _, [] => rfl
  | i, s :: ρ => by
    rw [backS, backS_dv ds outs (i + 1) ρ]
    congr 1
    unfold backS1
    rw [outFor_dv]
    cases s.mine <;> rfl
theorem call_dv {n : Nat} {f : Fn} {ρ : En} {ds : List D} (h : ds.length = n) : callS n f ρ (ds.map .dv) = (rv f ds).bind fun s => .ok (s, ρ) := by
  unfold callS rv
  rw [argsS_dv, atIx_dv]
  show (if _ then _ else _) = _
  rw [if_pos (by simp [h]), bindBind]
  cases f (ds.map .val) with
  | ok r => show R.ok _ = R.ok _; rw [backS_dv]
  | exc c d => rfl
  | stuck => rfl
section
variable {f : Fn} {ρ : En}
theorem call_0 : callS 0 f ρ [] = (rv f []).bind fun s => .ok (s, ρ) := call_dv (ds := []) rfl
theorem call_1 (a : D) : callS 1 f ρ [.dv a] = (rv f [a]).bind fun s => .ok (s, ρ) := call_dv (ds := [a]) rfl
theorem call_2 (a b : D) : callS 2 f ρ [.dv a, .dv b] = (rv f [a, b]).bind fun s => .ok (s, ρ) := call_dv (ds := [a, b]) rfl
theorem call_3 (a b c : D) : callS 3 f ρ [.dv a, .dv b, .dv c] = (rv f [a, b, c]).bind fun s => .ok (s, ρ) := call_dv (ds := [a, b, c]) rfl
theorem call_4 (a b c d : D) : callS 4 f ρ [.dv a, .dv b, .dv c, .dv d] = (rv f [a, b, c, d]).bind fun s => .ok (s, ρ) := call_dv (ds := [a, b, c, d]) rfl
theorem call_5 (a b c d e : D) : callS 5 f ρ [.dv a, .dv b, .dv c, .dv d, .dv e] = (rv f [a, b, c, d, e]).bind fun s => .ok (s, ρ) := call_dv (ds := [a, b, c, d, e]) rfl
theorem call_6 (a b c d e g : D) : callS 6 f ρ [.dv a, .dv b, .dv c, .dv d, .dv e, .dv g] = (rv f [a, b, c, d, e, g]).bind fun s => .ok (s, ρ) := call_dv (ds := [a, b, c, d, e, g]) rfl
end
/-- a body's value -/
def rtv : Fl × En → R S := fun q => match q.1 with
  | .rt s => .ok s
  | .nx => .ok (.val .none)
  | _ => .stuck
theorem rtv_rt (s : S) (ρ : En) : rtv (.rt s, ρ) = .ok s := rfl
theorem rtv_nx (ρ : En) : rtv (.nx, ρ) = .ok (.val .none) := rfl
theorem lent_val : ∀ (ds : List D) (ρ : En), lentOk (ds.map .val) ρ = true
  | [], _ => rfl
  | d :: ds, [] => lent_val ds []
  | d :: ds, s :: ρ => by
    have := lent_val ds ρ
    cases s <;> exact this
theorem rv_def {P : List Df} {n i : Nat} {d : Df} (hi : P[i]? = some d) (ds : List D) : rv (fns P (n + 1) i) ds = (d.body.den (fns P n) (ds.map .val ++ List.replicate (d.N.length - ds.length) .un)).bind rtv := by
  have e : fns P (n + 1) i = fnF d.N.length (d.body.den (fns P n)) := by
    show (match P[i]? with | some d => fnF d.N.length (d.body.den (fns P n)) | none => fun _ => .stuck) = _
    rw [hi]
  rw [e]
  unfold rv fnF
  rw [bindBind, List.length_map]
  congr 1
  funext q
  rw [lent_val]
  obtain ⟨z, ρ0⟩ := q
  cases z <;> rfl

/-! .. of slots that there are -/
section
variable (F : Nat → Fn) (ρ : En)
theorem thn_nx_ (s0 : S) (g : En → R (Fl × En)) : thn g (.nx, (s0 :: ρ)) = g (s0 :: ρ) := thn_nx (s0 :: ρ) g
theorem thn_bk_ (s0 : S) (g : En → R (Fl × En)) : thn g (.bk, (s0 :: ρ)) = .ok (.bk, (s0 :: ρ)) := thn_bk (s0 :: ρ) g
theorem thn_ct_ (s0 : S) (g : En → R (Fl × En)) : thn g (.ct, (s0 :: ρ)) = .ok (.ct, (s0 :: ρ)) := thn_ct (s0 :: ρ) g
theorem thn_rt_ (s0 : S) (g : En → R (Fl × En)) (s : S) : thn g (.rt s, (s0 :: ρ)) = .ok (.rt s, (s0 :: ρ)) := thn_rt (s0 :: ρ) g s
theorem sts_nil_ (s0 : S) : Sts.den F .nil (s0 :: ρ) = .ok (.nx, (s0 :: ρ)) := sts_nil F (s0 :: ρ) 
theorem sts_cons_ (s0 : S) (s : St) (r : Sts) : Sts.den F (.cons s r) (s0 :: ρ) = (s.den F (s0 :: ρ)).bind (thn (r.den F)) := sts_cons F (s0 :: ρ) s r
theorem st_set_ (s0 : S) (i : Nat) (e : Ex) : St.den F (.set i e) (s0 :: ρ) = (e.den F (s0 :: ρ)).bind fun q => .ok (.nx, st q.2 i q.1) := st_set F (s0 :: ρ) i e
theorem st_asg_ (s0 : S) (e : Ex) (tg : Tg) : St.den F (.asg e tg) (s0 :: ρ) = (e.den F (s0 :: ρ)).bind fun q => (R.of q.1.shr).bind fun d => (tg.den d q.2).bind fun ρ1 => .ok (.nx, ρ1) := st_asg F (s0 :: ρ) e tg
theorem st_aug_ (s0 : S) (i : Nat) (e : Ex) : St.den F (.aug i e) (s0 :: ρ) = (match gt (s0 :: ρ) i with
  | some (.val (.int a)) => (e.den F (s0 :: ρ)).bind fun q => match q.1 with
    | .val (.int b) => .ok (.nx, st q.2 i (.val (.int (a + b))))
    | _ => .stuck
  | _ => .stuck) := st_aug F (s0 :: ρ) i e
theorem st_ex_ (s0 : S) (e : Ex) : St.den F (.ex e) (s0 :: ρ) = (e.den F (s0 :: ρ)).bind fun q => .ok (.nx, q.2) := st_ex F (s0 :: ρ) e
theorem st_ret_ (s0 : S) (e : Ex) : St.den F (.ret e) (s0 :: ρ) = (e.den F (s0 :: ρ)).bind fun q => .ok (.rt q.1, q.2) := st_ret F (s0 :: ρ) e
theorem st_retv_ (s0 : S) (i : Nat) : St.den F (.retv i) (s0 :: ρ) = (match gt (s0 :: ρ) i with
  | some (.val d) => .ok (.rt (.val d), (s0 :: ρ))
  | some (.own d) => .ok (.rt (.own d), st (s0 :: ρ) i .un)
  | _ => .stuck) := st_retv F (s0 :: ρ) i
theorem st_retn_ (s0 : S) : St.den F .retn (s0 :: ρ) = .ok (.rt (.val .none), (s0 :: ρ)) := st_retn F (s0 :: ρ) 
theorem st_ite_ (s0 : S) (t : Te) (a b : Sts) : St.den F (.ite t a b) (s0 :: ρ) = (t.den F (s0 :: ρ)).bind fun q => if q.1 = true then a.den F q.2 else b.den F q.2 := st_ite F (s0 :: ρ) t a b
theorem st_wh_ (s0 : S) (t : Te) (b : Sts) : St.den F (.wh t b) (s0 :: ρ) = whL (t.den F) (b.den F) lots (s0 :: ρ) := st_wh F (s0 :: ρ) t b
theorem st_for_ (s0 : S) (it : It) (tg : Tg) (b : Sts) : St.den F (.for it tg b) (s0 :: ρ) = (it.den F (s0 :: ρ)).bind fun q => forL tg.den (b.den F) q.1 q.2 := st_for F (s0 :: ρ) it tg b
theorem st_pass_ (s0 : S) : St.den F .pass (s0 :: ρ) = .ok (.nx, (s0 :: ρ)) := st_pass F (s0 :: ρ) 
theorem st_brk_ (s0 : S) : St.den F .brk (s0 :: ρ) = .ok (.bk, (s0 :: ρ)) := st_brk F (s0 :: ρ) 
theorem st_cnt_ (s0 : S) : St.den F .cnt (s0 :: ρ) = .ok (.ct, (s0 :: ρ)) := st_cnt F (s0 :: ρ) 
theorem st_par2_ (s0 : S) (i j : Nat) (a b : Ex) : St.den F (.par [i, j] (.cons a (.cons b .nil))) (s0 :: ρ) = (a.den F (s0 :: ρ)).bind fun p => (b.den F p.2).bind fun q => .ok (.nx, st (st q.2 i p.1) j q.1) := st_par2 F (s0 :: ρ) i j a b
theorem st_par3_ (s0 : S) (i j k : Nat) (a b c : Ex) : St.den F (.par [i, j, k] (.cons a (.cons b (.cons c .nil)))) (s0 :: ρ) = (a.den F (s0 :: ρ)).bind fun p => (b.den F p.2).bind fun q => (c.den F q.2).bind fun r => .ok (.nx, st (st (st r.2 i p.1) j q.1) k r.1) := st_par3 F (s0 :: ρ) i j k a b c
theorem st_setIx_ (s0 : S) (k : Nat) (i : Op) (e : Ex) : St.den F (.setIx k i e) (s0 :: ρ) = (e.den F (s0 :: ρ)).bind fun q => (R.of q.1.shr).bind fun d => (R.of (myL q.2 k)).bind fun _ => (i.den F q.2).bind fun r => (pg r.2 r.1).bind fun i => (R.of (myL r.2 k)).bind fun s => match i with
  | .int i => (R.of (L2.ixN s.2.length i)).bind fun j => .ok (.nx, st r.2 k (s.1.wid (.list (s.2.set j d))))
  | _ => .stuck := st_setIx F (s0 :: ρ) k i e
theorem ex_c_ (s0 : S) (k : Const) : Ex.den F (.c k) (s0 :: ρ) = .ok (.val (constD k), (s0 :: ρ)) := ex_c F (s0 :: ρ) k
theorem ex_v_ (s0 : S) (i : Nat) : Ex.den F (.v i) (s0 :: ρ) = (match gt (s0 :: ρ) i with
  | some (.val d) => .ok (.val d, (s0 :: ρ))
  | some (.own d) => if isDict d = true then .stuck else .ok (.val d, st (s0 :: ρ) i (.val d))
  | _ => .stuck) := ex_v F (s0 :: ρ) i
theorem pg_at_ (s0 : S) (i : Nat) : pg (s0 :: ρ) (.at i) = R.of ((gt (s0 :: ρ) i).bind S.data) := pg_at (s0 :: ρ) i
theorem pg_dv_ (s0 : S) (d : D) : pg (s0 :: ρ) (.dv d) = .ok d := pg_dv (s0 :: ρ) d
theorem out_val_ (s0 : S) (d : D) : outS (.val d) (s0 :: ρ) = .ok (.val d, (s0 :: ρ)) := out_val (s0 :: ρ) d
theorem out_own_ (s0 : S) (d : D) : outS (.own d) (s0 :: ρ) = .ok (.own d, (s0 :: ρ)) := out_own (s0 :: ρ) d
theorem ex_bin_ (s0 : S) (o : Operator) (a b : Op) : Ex.den F (.bin o a b) (s0 :: ρ) = (a.den F (s0 :: ρ)).bind fun p => (b.den F p.2).bind fun q => (pg q.2 p.1).bind fun d => (pg q.2 q.1).bind fun e => (R.of (opD o d e)).bind fun s => outS s q.2 := ex_bin F (s0 :: ρ) o a b
theorem ex_cmp_ (s0 : S) (o : CmpOp) (a b : Op) : Ex.den F (.cmp o a b) (s0 :: ρ) = (a.den F (s0 :: ρ)).bind fun p => (b.den F p.2).bind fun q => (pg q.2 p.1).bind fun d => (pg q.2 q.1).bind fun e => (R.of (cmpD o d e)).bind fun s => outS s q.2 := ex_cmp F (s0 :: ρ) o a b
theorem ex_ix_ (s0 : S) (a b : Op) : Ex.den F (.ix a b) (s0 :: ρ) = (a.den F (s0 :: ρ)).bind fun p => (b.den F p.2).bind fun q => (pg q.2 p.1).bind fun d => (pg q.2 q.1).bind fun e => (R.of (ixD d e)).bind fun s => outS s q.2 := ex_ix F (s0 :: ρ) a b
theorem ex_neg_ (s0 : S) (a : Op) : Ex.den F (.neg a) (s0 :: ρ) = (a.den F (s0 :: ρ)).bind fun p => (pg p.2 p.1).bind fun d => (R.of (negD d)).bind fun s => outS s p.2 := ex_neg F (s0 :: ρ) a
theorem ex_nt_ (s0 : S) (a : Ex) : Ex.den F (.nt a) (s0 :: ρ) = (a.den F (s0 :: ρ)).bind fun q => (R.of (q.1.shr.bind truD)).bind fun b => .ok (.val (.bool (!b)), q.2) := ex_nt F (s0 :: ρ) a
theorem ex_bo1_ (s0 : S) (k : Bool) (a : Ex) : Ex.den F (.bo k (.cons a .nil)) (s0 :: ρ) = a.den F (s0 :: ρ) := ex_bo1 F (s0 :: ρ) k a
theorem ex_bo_ (s0 : S) (k : Bool) (a b : Ex) (r : Exs) : Ex.den F (.bo k (.cons a (.cons b r))) (s0 :: ρ) = (a.den F (s0 :: ρ)).bind fun q => (R.of (q.1.shr.bind truD)).bind fun t => if t = k then Ex.den F (.bo k (.cons b r)) q.2 else .ok q := ex_bo F (s0 :: ρ) k a b r
theorem ex_ite_ (s0 : S) (t : Te) (a b : Ex) : Ex.den F (.ite t a b) (s0 :: ρ) = (t.den F (s0 :: ρ)).bind fun q => if q.1 = true then a.den F q.2 else b.den F q.2 := ex_ite F (s0 :: ρ) t a b
theorem exl_nil_ (s0 : S) : exl F .nil (s0 :: ρ) = .ok ([], (s0 :: ρ)) := exl_nil F (s0 :: ρ) 
theorem exl_cons_ (s0 : S) (e : Ex) (r : Exs) : exl F (.cons e r) (s0 :: ρ) = (e.den F (s0 :: ρ)).bind fun q => (R.of q.1.shr).bind fun d => (exl F r q.2).bind fun s => .ok (d :: s.1, s.2) := exl_cons F (s0 :: ρ) e r
theorem ex_tup_ (s0 : S) (es : Exs) : Ex.den F (.tup es) (s0 :: ρ) = (exl F es (s0 :: ρ)).bind fun q => if q.1.length ≤ sizeLine then .ok (.val (.tuple q.1), q.2) else .stuck := ex_tup F (s0 :: ρ) es
theorem ex_lst_ (s0 : S) (es : Exs) : Ex.den F (.lst es) (s0 :: ρ) = (exl F es (s0 :: ρ)).bind fun q => if q.1.length ≤ sizeLine then .ok (.own (.list q.1), q.2) else .stuck := ex_lst F (s0 :: ρ) es
theorem pgs_nil_ (s0 : S) : pgs (s0 :: ρ) [] = .ok [] := pgs_nil (s0 :: ρ) 
theorem pgs_cons_ (s0 : S) (p : P) (ps : List P) : pgs (s0 :: ρ) (p :: ps) = (pg (s0 :: ρ) p).bind fun d => (pgs (s0 :: ρ) ps).bind fun ds => .ok (d :: ds) := pgs_cons (s0 :: ρ) p ps
theorem ops_nil_ (s0 : S) : Ops.den F .nil (s0 :: ρ) = .ok ([], (s0 :: ρ)) := ops_nil F (s0 :: ρ) 
theorem ops_cons_ (s0 : S) (a : Op) (r : Ops) : Ops.den F (.cons a r) (s0 :: ρ) = (a.den F (s0 :: ρ)).bind fun q => (r.den F q.2).bind fun s => .ok (q.1 :: s.1, s.2) := ops_cons F (s0 :: ρ) a r
theorem ex_bi_ (s0 : S) (b : Bi) (as : Ops) : Ex.den F (.bi b as) (s0 :: ρ) = (as.den F (s0 :: ρ)).bind fun q => (pgs q.2 q.1).bind fun ds => (R.of (b.run ds)).bind fun s => outS s q.2 := ex_bi F (s0 :: ρ) b as
theorem ex_isa_ (s0 : S) (T : Ty) (a : Op) : Ex.den F (.isa T a) (s0 :: ρ) = (a.den F (s0 :: ρ)).bind fun p => (pg p.2 p.1).bind fun d => (R.of (if notDict d = true then some (.val (.bool (isaD T d))) else none)).bind fun s => outS s p.2 := ex_isa F (s0 :: ρ) T a
theorem ex_call_ (s0 : S) (x : Nat) (as : Ops) : Ex.den F (.call x as) (s0 :: ρ) = (as.den F (s0 :: ρ)).bind fun q => callS as.len (F x) q.2 q.1 := ex_call F (s0 :: ρ) x as
theorem ex_callK_ (s0 : S) (x : Nat) (as ks : Ops) : Ex.den F (.callK x as ks) (s0 :: ρ) = (as.den F (s0 :: ρ)).bind fun p => if p.1.length = as.len then (ks.den F p.2).bind fun q => callS (as.len + ks.len) (F x) q.2 (p.1 ++ q.1) else .stuck := ex_callK F (s0 :: ρ) x as ks
theorem ex_lc_ (s0 : S) (it : It) (tg : Tg) (own : List (Str × Nat)) (ts : Tes) (e : Ex) : Ex.den F (.lc it tg own ts e) (s0 :: ρ) = (it.den F (s0 :: ρ)).bind fun q => (lcL tg.den (ifsB (ts.den F)) (e.den F) (own.map (·.2)) q.1 q.2).bind fun r => .ok (.own (.list r.1), backE r.2 q.2 (own.map (·.2))) := ex_lc F (s0 :: ρ) it tg own ts e
theorem ex_app_ (s0 : S) (k : Nat) (e : Ex) : Ex.den F (.app k e) (s0 :: ρ) = (R.of (myL (s0 :: ρ) k)).bind fun _ => (e.den F (s0 :: ρ)).bind fun q => (R.of q.1.shr).bind fun d => (R.of (myL q.2 k)).bind fun s => if s.2.length < sizeLine then .ok (.val .none, st q.2 k (s.1.wid (.list (s.2 ++ [d])))) else .stuck := ex_app F (s0 :: ρ) k e
theorem ex_ext_ (s0 : S) (k : Nat) (e : Ex) : Ex.den F (.ext k e) (s0 :: ρ) = (R.of (myL (s0 :: ρ) k)).bind fun _ => (e.den F (s0 :: ρ)).bind fun q => match q.1 with
  | .own (.list es) => (R.of (myL q.2 k)).bind fun s => if s.2.length + es.length ≤ sizeLine then .ok (.val .none, st q.2 k (s.1.wid (.list (s.2 ++ es)))) else .stuck
  | _ => .stuck := ex_ext F (s0 :: ρ) k e
theorem myL_gt_ (s0 : S) (k : Nat) : myL (s0 :: ρ) k = (gt (s0 :: ρ) k).bind fun s => match s.mine with
  | some (.list ds) => some (s, ds)
  | _ => none := myL_gt (s0 :: ρ) k
theorem ex_pop_ (s0 : S) (k : Nat) : Ex.den F (.pop k) (s0 :: ρ) = (R.of (myL (s0 :: ρ) k)).bind fun s => (R.of s.2[s.2.length - 1]?).bind fun d => .ok (.val d, st (s0 :: ρ) k (s.1.wid (.list s.2.dropLast))) := ex_pop F (s0 :: ρ) k
theorem ex_rl1_ (s0 : S) (t : Bool) (a : Op) : Ex.den F (.rl1 t a) (s0 :: ρ) = (a.den F (s0 :: ρ)).bind fun p => (pg p.2 p.1).bind fun d => (R.of (rl1D t d)).bind fun s => outS s p.2 := ex_rl1 F (s0 :: ρ) t a
theorem ex_rl2_ (s0 : S) (t : Bool) (a b : Op) : Ex.den F (.rl2 t a b) (s0 :: ρ) = (a.den F (s0 :: ρ)).bind fun p => (b.den F p.2).bind fun q => (pg q.2 p.1).bind fun d => (pg q.2 q.1).bind fun e => (R.of (rl2D t d e)).bind fun s => outS s q.2 := ex_rl2 F (s0 :: ρ) t a b
theorem ex_sset_ (s0 : S) (a : Op) : Ex.den F (.sset a) (s0 :: ρ) = (a.den F (s0 :: ρ)).bind fun p => (pg p.2 p.1).bind fun d => (R.of (ssetD d)).bind fun s => outS s p.2 := ex_sset F (s0 :: ρ) a
theorem ex_dctL_ (s0 : S) (a : Op) : Ex.den F (.dctL a) (s0 :: ρ) = (a.den F (s0 :: ρ)).bind fun p => (pg p.2 p.1).bind fun d => (R.of (dctLD d)).bind fun s => outS s p.2 := ex_dctL F (s0 :: ρ) a
theorem ex_dctT_ (s0 : S) (k : Nat) : Ex.den F (.dctT k) (s0 :: ρ) = (match (gt (s0 :: ρ) k).bind S.mine with
  | some (.tuple ds) => (R.of (pairsD ds)).bind fun kvs => .ok (.own (.dict (mkDict kvs)), (s0 :: ρ))
  | _ => .stuck) := ex_dctT F (s0 :: ρ) k
theorem ex_dget_ (s0 : S) (k : Nat) (a b : Op) : Ex.den F (.dget k a b) (s0 :: ρ) = (R.of (((gt (s0 :: ρ) k).bind S.mine).bind fun d => if isDict d = true then some d else none)).bind fun _ => (a.den F (s0 :: ρ)).bind fun p => (b.den F p.2).bind fun q => (pg q.2 p.1).bind fun kd => (pg q.2 q.1).bind fun dd => match (gt q.2 k).bind S.mine with
  | some (.dict kvs) => if keyOk kd = true then (match q.1 with
    | .dv _ => .ok (.val ((lookD kvs kd).getD dd), q.2)
    | _ => .stuck) else .stuck
  | _ => .stuck := ex_dget F (s0 :: ρ) k a b
theorem ex_sun_ (s0 : S) (a b : Op) : Ex.den F (.sun a b) (s0 :: ρ) = (a.den F (s0 :: ρ)).bind fun p => (R.of ((p.1.get p.2).bind tupI)).bind fun ns => if ns.length ≤ 30 then ((b.den F p.2).bind fun q => (R.of ((q.1.get q.2).bind tupI)).bind fun ms => if ms.length ≤ 30 then .ok (.own (.list ((DLr.sortU DLr.ltI (ns ++ ms)).map .int)), q.2) else .stuck) else .stuck := ex_sun F (s0 :: ρ) a b
theorem op_at_ (s0 : S) (i : Nat) : Op.den F (.at i) (s0 :: ρ) = (R.of ((gt (s0 :: ρ) i).bind S.full)).bind fun _ => .ok (.at i, (s0 :: ρ)) := op_at F (s0 :: ρ) i
theorem op_ex_ (s0 : S) (e : Ex) : Op.den F (.ex e) (s0 :: ρ) = (e.den F (s0 :: ρ)).bind fun q => (R.of q.1.shr).bind fun d => .ok (.dv d, q.2) := op_ex F (s0 :: ρ) e
theorem te_e_ (s0 : S) (x : Ex) : Te.den F (.e x) (s0 :: ρ) = (x.den F (s0 :: ρ)).bind fun q => (R.of (q.1.shr.bind truD)).bind fun b => .ok (b, q.2) := te_e F (s0 :: ρ) x
theorem te_at_ (s0 : S) (i : Nat) : Te.den F (.at i) (s0 :: ρ) = (R.of (((gt (s0 :: ρ) i).bind S.data).bind truD)).bind fun b => .ok (b, (s0 :: ρ)) := te_at F (s0 :: ρ) i
theorem te_cmp_ (s0 : S) (o : CmpOp) (a b : Op) : Te.den F (.cmp o a b) (s0 :: ρ) = (Ex.den F (.cmp o a b) (s0 :: ρ)).bind fun q => (R.of (q.1.shr.bind truD)).bind fun b => .ok (b, q.2) := te_cmp F (s0 :: ρ) o a b
theorem te_nt_ (s0 : S) (t : Te) : Te.den F (.nt t) (s0 :: ρ) = (t.den F (s0 :: ρ)).bind fun q => .ok (!q.1, q.2) := te_nt F (s0 :: ρ) t
theorem te_bo1_ (s0 : S) (k : Bool) (a : Te) : Te.den F (.bo k (.cons a .nil)) (s0 :: ρ) = a.den F (s0 :: ρ) := te_bo1 F (s0 :: ρ) k a
theorem te_bo_ (s0 : S) (k : Bool) (a b : Te) (r : Tes) : Te.den F (.bo k (.cons a (.cons b r))) (s0 :: ρ) = (a.den F (s0 :: ρ)).bind fun q => if q.1 = k then Te.den F (.bo k (.cons b r)) q.2 else .ok (!k, q.2) := te_bo F (s0 :: ρ) k a b r
theorem ifs_nil_ (s0 : S) : ifsB (Tes.den F .nil) (s0 :: ρ) = .ok (true, (s0 :: ρ)) := ifs_nil F (s0 :: ρ) 
theorem ifs_one_ (s0 : S) (t : Te) : ifsB (Tes.den F (.cons t .nil)) (s0 :: ρ) = t.den F (s0 :: ρ) := ifs_one F (s0 :: ρ) t
theorem it_seq_ (s0 : S) (e : Ex) : It.den F (.seq e) (s0 :: ρ) = (e.den F (s0 :: ρ)).bind fun q => (R.of (q.1.shr.bind itemsOf)).bind fun ds => .ok (ds, q.2) := it_seq F (s0 :: ρ) e
theorem it_enum_ (s0 : S) (e : Ex) : It.den F (.enum e) (s0 :: ρ) = (e.den F (s0 :: ρ)).bind fun q => (R.of (q.1.shr.bind itemsOf)).bind fun ds => .ok (numb 0 ds, q.2) := it_enum F (s0 :: ρ) e
theorem it_rev_ (s0 : S) (e : Ex) : It.den F (.rev e) (s0 :: ρ) = (e.den F (s0 :: ρ)).bind fun q => (R.of (q.1.shr.bind itemsOf)).bind fun ds => if ds.length ≤ 1000000 then .ok (ds.reverse, q.2) else .stuck := it_rev F (s0 :: ρ) e
theorem it_zip_ (s0 : S) (as : Ops) : It.den F (.zip as) (s0 :: ρ) = (as.den F (s0 :: ρ)).bind fun q => (R.of ((dvs q.1).bind zip2D)).bind fun ds => .ok (ds, q.2) := it_zip F (s0 :: ρ) as
theorem it_rng_ (s0 : S) (as : Ops) : It.den F (.rng as) (s0 :: ρ) = (as.den F (s0 :: ρ)).bind fun q => (pgs q.2 q.1).bind fun ds => (R.of ((match as.len with | 1 => range1D | 2 => range2D | _ => range3D) ds)).bind fun ds => .ok (ds, q.2) := it_rng F (s0 :: ρ) as
theorem ex_sl_ (s0 : S) (a : Op) (lo hi : Oo) : Ex.den F (.sl a lo hi) (s0 :: ρ) = (a.den F (s0 :: ρ)).bind fun p => (ptF (lo.den F) p.2).bind fun l => (R.of (optI l.2 l.1)).bind fun i => (ptF (hi.den F) l.2).bind fun h => (R.of (optI h.2 h.1)).bind fun j => (pg h.2 p.1).bind fun d => (R.of (slD d i j)).bind fun s => outS s h.2 := ex_sl F (s0 :: ρ) a lo hi
theorem pt_no_ (s0 : S) : ptF (Oo.den F .no) (s0 :: ρ) = .ok (none, (s0 :: ρ)) := pt_no F (s0 :: ρ) 
theorem pt_so_ (s0 : S) (a : Op) : ptF (Oo.den F (.so a)) (s0 :: ρ) = (a.den F (s0 :: ρ)).bind fun q => .ok (some q.1, q.2) := pt_so F (s0 :: ρ) a
theorem optI_none_ (s0 : S) : optI (s0 :: ρ) none = some none := optI_none (s0 :: ρ) 
theorem optI_dv_ (s0 : S) (i : Int) : optI (s0 :: ρ) (some (.dv (.int i))) = some (some i) := optI_dv (s0 :: ρ) i
theorem optI_at_ (s0 : S) (i : Nat) : optI (s0 :: ρ) (some (.at i)) = (match (gt (s0 :: ρ) i).bind S.data with
    | some (.int i) => some (some i)
    | _ => none) := optI_at (s0 :: ρ) i
theorem tg_nm_ (s0 : S) (i : Nat) (d : D) : Tg.den (.nm i) d (s0 :: ρ) = .ok (st (s0 :: ρ) i (.val d)) := tg_nm (s0 :: ρ) i d
theorem tg_tup_ (s0 : S) (ts : Tgs) (ds : List D) : Tg.den (.tup ts) (.tuple ds) (s0 :: ρ) = if ds.length = ts.len then ts.den ds (s0 :: ρ) else .stuck := tg_tup (s0 :: ρ) ts ds
theorem tgs_nil_ (s0 : S) : Tgs.den .nil [] (s0 :: ρ) = .ok (s0 :: ρ) := tgs_nil (s0 :: ρ) 
theorem tgs_cons_ (s0 : S) (t : Tg) (r : Tgs) (d : D) (ds : List D) : Tgs.den (.cons t r) (d :: ds) (s0 :: ρ) = (t.den d (s0 :: ρ)).bind fun ρ1 => r.den ds ρ1 := tgs_cons (s0 :: ρ) t r d ds
end
end DL

namespace DL
open PySem

/-! ### comprehensions -/
section
variable {tg : FT} {tt : FB} {te : FE} {vs : List Nat}
/-- one turn -/
def lcS (tg : FT) (tt : FB) (te : FE) (d : D) (ρ : En) : R (Option D × En) := (tg d ρ).bind fun ρ1 => (tt ρ1).bind fun b => if b.1 = true then (te b.2).bind fun s => (R.of s.1.shr).bind fun e => .ok (some e, s.2) else .ok (none, b.2)
theorem lcL_nil (ρ : En) : lcL tg tt te vs [] ρ = .ok ([], ρ) := rfl
theorem lcL_cons (d : D) (ds : List D) (ρ : En) : lcL tg tt te vs (d :: ds) ρ = (lcS tg tt te d (wp ρ vs)).bind fun r => (lcL tg tt te vs ds r.2).bind fun z => .ok (r.1.toList ++ z.1, z.2) := by
  show (tg d (wp ρ vs)).bind _ = _
  unfold lcS
  rw [bindBind]; congr 1; funext ρ1
  rw [bindBind]; congr 1; funext b
  obtain ⟨k, ρ2⟩ := b
  cases k with
  | false =>
    show lcL tg tt te vs ds ρ2 = R.bind (lcL tg tt te vs ds ρ2) _
    cases lcL tg tt te vs ds ρ2 <;> rfl
  | true =>
    show (te ρ2).bind _ = R.bind (R.bind (te ρ2) _) _
    rw [bindBind]; congr 1; funext s
    rw [bindBind]; rfl
theorem lc_pure {α : Type} (en : α → D) (f : α → Option D) {W : En} : ∀ (xs : List α) (ρ : En), wp ρ vs = W → (∀ x ∈ xs, R.W (lcS tg tt te (en x) W) fun r => r.1 = f x ∧ wp r.2 vs = W) →
    ∃ ρ', lcL tg tt te vs (xs.map en) ρ = .ok (xs.filterMap f, ρ') ∧ wp ρ' vs = W
  | [], ρ, h0, _ => ⟨ρ, rfl, h0⟩
  | x :: xs, ρ, h0, hs => by
    obtain ⟨r, h1, h2, h3⟩ := (hs x (List.mem_cons_self ..)).ex
    obtain ⟨ρ', h4, h5⟩ := lc_pure en f xs r.2 h3 fun y hy => hs y (List.mem_cons_of_mem _ hy)
    refine ⟨ρ', ?_, h5⟩
    rw [List.map_cons, lcL_cons, h0, h1, bindOk, h4, bindOk, h2, List.filterMap_cons]
    cases f x <;> rfl
theorem back_eq {ρ ρ' : En} (h : wp ρ' vs = wp ρ vs) : backE ρ' ρ vs = ρ := by
  have hl : ρ'.length = ρ.length := by rw [← wipeE_len ρ' vs, ← wipeE_len ρ vs]; exact congrArg _ h
  apply List.ext_getElem?
  intro i
  by_cases hi : i ∈ vs
  · exact backE_in ρ' ρ hl hi
  · rw [backE_out _ _ hi, ← wipeE_out ρ' hi, ← wipeE_out ρ hi]
    exact congrArg (fun z => z[i]?) h
end
section
variable {F : Nat → Fn} {it : It} {tg : Tg} {own : List (Str × Nat)} {ts : Tes} {e : Ex} {ρ ρ1 : En}
/-- a comprehension that changes nothing -/
theorem ev_lc {α : Type} (en : α → D) (f : α → Option D) (xs : List α) (hi : It.den F it ρ = .ok (xs.map en, ρ1))
    (hs : ∀ x ∈ xs, R.W (lcS tg.den (ifsB (ts.den F)) (e.den F) (en x) (wp ρ1 (own.map (·.2)))) fun r => r.1 = f x ∧ wp r.2 (own.map (·.2)) = wp ρ1 (own.map (·.2))) :
    Ex.den F (.lc it tg own ts e) ρ = .ok (.own (.list (xs.filterMap f)), ρ1) := by
  rw [ex_lc, hi, bindOk]
  obtain ⟨ρ', h1, h2⟩ := lc_pure (vs := own.map (·.2)) en f xs ρ1 rfl hs
  rw [h1, bindOk, back_eq h2]
/-- .. each item gives one -/
theorem ev_lcM {α : Type} (en : α → D) (f : α → D) (xs : List α) (hi : It.den F it ρ = .ok (xs.map en, ρ1))
    (hs : ∀ x ∈ xs, R.W (lcS tg.den (ifsB (ts.den F)) (e.den F) (en x) (wp ρ1 (own.map (·.2)))) fun r => r.1 = some (f x) ∧ wp r.2 (own.map (·.2)) = wp ρ1 (own.map (·.2))) :
    Ex.den F (.lc it tg own ts e) ρ = .ok (.own (.list (xs.map f)), ρ1) := by
  rw [ev_lc en (fun x => some (f x)) xs hi hs]; congr 4; clear hs hi
  induction xs with
  | nil => rfl
  | cons x xs ih => rw [List.filterMap_cons, List.map_cons]; simp [ih]
/-- .. some items give one -/
theorem ev_lcF {α : Type} (en : α → D) (p : α → Bool) (f : α → D) (xs : List α) (hi : It.den F it ρ = .ok (xs.map en, ρ1))
    (hs : ∀ x ∈ xs, R.W (lcS tg.den (ifsB (ts.den F)) (e.den F) (en x) (wp ρ1 (own.map (·.2)))) fun r => r.1 = (if p x = true then some (f x) else none) ∧ wp r.2 (own.map (·.2)) = wp ρ1 (own.map (·.2))) :
    Ex.den F (.lc it tg own ts e) ρ = .ok (.own (.list ((xs.filter p).map f)), ρ1) := by
  rw [ev_lc en (fun x => if p x = true then some (f x) else none) xs hi hs]
  congr 4
  clear hs hi
  induction xs with
  | nil => rfl
  | cons x xs ih =>
    rw [List.filterMap_cons, List.filter_cons]
    cases p x <;> simp [ih]
theorem W_lcL {α : Type} (en : α → D) (xs : List α) {vs : List Nat} {Q : List D × En → Prop} (J : List D → List α → En → Prop) (h0 : J [] xs ρ)
    (hs : ∀ out x r ρ, J out (x :: r) ρ → R.W (lcS tg.den (ifsB (ts.den F)) (e.den F) (en x) (wp ρ vs)) fun z => J (out ++ z.1.toList) r z.2)
    (hq : ∀ out ρ', J out [] ρ' → Q (out, ρ')) : R.W (lcL tg.den (ifsB (ts.den F)) (e.den F) vs (xs.map en) ρ) Q := by
  have main : ∀ (xs : List α) (out : List D) (ρ : En), J out xs ρ → R.W (lcL tg.den (ifsB (ts.den F)) (e.den F) vs (xs.map en) ρ) fun z => J (out ++ z.1) [] z.2 := by
    intro xs
    induction xs with
    | nil => intro out ρ h; rw [List.map_nil, lcL_nil, W_ok, List.append_nil]; exact h
    | cons x xs ih =>
      intro out ρ h
      rw [List.map_cons, lcL_cons, W_bind]
      refine (hs out x xs ρ h).mono fun z hz => ?_
      rw [W_bind]
      refine (ih _ _ hz).mono fun y hy => ?_
      rw [W_ok, ← List.append_assoc]
      exact hy
  exact (main xs [] ρ h0).mono fun z hz => hq _ _ (by rw [List.nil_append] at hz; exact hz)
/-- a comprehension, turn by turn: J of what is made, what is left, the slots -/
theorem W_lc {α : Type} (en : α → D) (xs : List α) {Q : S × En → Prop} (J : List D → List α → En → Prop) (hi : R.W (It.den F it ρ) fun q => q.1 = xs.map en ∧ J [] xs q.2 ∧ q.2 = ρ1)
    (hs : ∀ out x r ρ, J out (x :: r) ρ → R.W (lcS tg.den (ifsB (ts.den F)) (e.den F) (en x) (wp ρ (own.map (·.2)))) fun z => J (out ++ z.1.toList) r z.2)
    (hq : ∀ out ρ', J out [] ρ' → Q (.own (.list out), backE ρ' ρ1 (own.map (·.2)))) : R.W (Ex.den F (.lc it tg own ts e) ρ) Q := by
  rw [ex_lc]
  obtain ⟨q, h1, h2, h3, h4⟩ := hi.ex
  rw [h1, bindOk, h2, h4]
  rw [h4] at h3
  have main : ∀ (xs : List α) (out : List D) (ρ : En), J out xs ρ → R.W (lcL tg.den (ifsB (ts.den F)) (e.den F) (own.map (·.2)) (xs.map en) ρ) fun z => J (out ++ z.1) [] z.2 := by
    intro xs
    induction xs with
    | nil => intro out ρ h; rw [List.map_nil, lcL_nil, W_ok, List.append_nil]; exact h
    | cons x xs ih =>
      intro out ρ h
      rw [List.map_cons, lcL_cons, W_bind]
      refine (hs out x xs ρ h).mono fun z hz => ?_
      rw [W_bind]
      refine (ih _ _ hz).mono fun y hy => ?_
      rw [W_ok, ← List.append_assoc]
      exact hy
  rw [W_bind]
  exact (main xs [] ρ1 h3).mono fun z hz => hq _ _ (by rw [List.nil_append] at hz; exact hz)

/-! ### loops -/
/-- how a turn ends -/
def lp (J : En → Prop) (Q : Fl × En → Prop) : Fl × En → Prop := fun r => match r.1 with
  | .nx => J r.2
  | .ct => J r.2
  | .bk => Q (.nx, r.2)
  | .rt s => Q (.rt s, r.2)
theorem lp_nx (J : En → Prop) (Q : Fl × En → Prop) (ρ : En) : lp J Q (.nx, ρ) = J ρ := rfl
theorem lp_ct (J : En → Prop) (Q : Fl × En → Prop) (ρ : En) : lp J Q (.ct, ρ) = J ρ := rfl
theorem lp_bk (J : En → Prop) (Q : Fl × En → Prop) (ρ : En) : lp J Q (.bk, ρ) = Q (.nx, ρ) := rfl
theorem lp_rt (J : En → Prop) (Q : Fl × En → Prop) (s : S) (ρ : En) : lp J Q (.rt s, ρ) = Q (.rt s, ρ) := rfl
theorem W_for {α : Type} (en : α → D) {b : Sts} {Q : Fl × En → Prop} (J : List α → En → Prop)
    (hs : ∀ x r ρ, J (x :: r) ρ → R.W (tg.den (en x) ρ) fun ρ1 => R.W (b.den F ρ1) (lp (J r) Q)) (hq : ∀ ρ, J [] ρ → Q (.nx, ρ)) :
    ∀ (xs : List α) (ρ : En), J xs ρ → R.W (forL tg.den (b.den F) (xs.map en) ρ) Q
  | [], ρ, h => hq ρ h
  | x :: xs, ρ, h => by
    show R.W (R.bind (tg.den (en x) ρ) _) Q
    rw [W_bind]
    refine (hs x xs ρ h).mono fun ρ1 h1 => ?_
    rw [W_bind]
    refine h1.mono fun r hr => ?_
    obtain ⟨z, ρ2⟩ := r
    cases z with
    | nx => exact W_for en J hs hq xs ρ2 hr
    | ct => exact W_for en J hs hq xs ρ2 hr
    | bk => exact hr
    | rt s => exact hr
/-- a loop that folds -/
theorem for_fold {α β τ : Type} (en : α → D) {b : Sts} (E : β → τ → En) (g : β → α → β) (P : β → Prop) : ∀ (xs : List α) (a : β) (t : τ), P a → 
    (∀ a x t, x ∈ xs → P a → P (g a x) ∧ ∃ t', (tg.den (en x) (E a t)).bind (b.den F) = .ok (.nx, E (g a x) t')) →
    P (xs.foldl g a) ∧ ∃ t', forL tg.den (b.den F) (xs.map en) (E a t) = .ok (.nx, E (xs.foldl g a) t')
  | [], a, t, p, _ => ⟨p, t, rfl⟩
  | x :: xs, a, t, p, h => by
    obtain ⟨p1, t1, h1⟩ := h a x t (List.mem_cons_self ..) p
    obtain ⟨p2, t2, h2⟩ := for_fold en E g P xs (g a x) t1 p1 fun a y t hy => h a y t (List.mem_cons_of_mem _ hy)
    refine ⟨p2, t2, ?_⟩
    show R.bind (tg.den (en x) (E a t)) _ = _
    rw [List.foldl_cons, ← h2]
    cases e : tg.den (en x) (E a t) with
    | ok ρ1 =>
      rw [e, bindOk] at h1
      rw [bindOk, h1]
      rfl
    | exc c d => rw [e] at h1; cases h1
    | stuck => rw [e] at h1; cases h1
theorem W_wh {c : Te} {b : Sts} {Q : Fl × En → Prop} (J : Nat → En → Prop)
    (hs : ∀ m ρ, J m ρ → R.W (c.den F ρ) fun q => if q.1 = true then R.W (b.den F q.2) (lp (fun ρ' => ∃ m', m' < m ∧ J m' ρ') Q) else Q (.nx, q.2)) :
    ∀ (n m : Nat) (ρ : En), m < n → J m ρ → R.W (whL (c.den F) (b.den F) n ρ) Q
  | 0, m, ρ, hm, h => absurd hm (Nat.not_lt_zero _)
  | n + 1, m, ρ, hm, h => by
    show R.W (R.bind (c.den F ρ) _) Q
    rw [W_bind]
    refine (hs m ρ h).mono fun q h1 => ?_
    obtain ⟨k, ρ1⟩ := q
    cases k with
    | false => exact h1
    | true =>
      show R.W (R.bind (b.den F ρ1) _) Q
      rw [W_bind]
      refine R.W.mono (show R.W (b.den F ρ1) _ from h1) fun r hr => ?_
      obtain ⟨z, ρ2⟩ := r
      cases z with
      | nx => obtain ⟨m', h1, h2⟩ := hr; exact W_wh J hs n m' ρ2 (by omega) h2
      | ct => obtain ⟨m', h1, h2⟩ := hr; exact W_wh J hs n m' ρ2 (by omega) h2
      | bk => exact hr
      | rt s => exact hr
end

/-! ### slots -/
theorem full_val (d : D) : S.full (.val d) = some d := rfl
theorem full_own (d : D) : S.full (.own d) = some d := rfl
theorem full_bor (d : D) : S.full (.bor d) = some d := rfl
theorem data_val (d : D) : S.data (.val d) = some d := rfl
theorem data_ownL (ds : List D) : S.data (.own (.list ds)) = some (.list ds) := rfl
theorem data_borL (ds : List D) : S.data (.bor (.list ds)) = some (.list ds) := rfl
theorem shr_val (d : D) : S.shr (.val d) = some d := rfl
theorem shr_ownL (ds : List D) : S.shr (.own (.list ds)) = some (.list ds) := rfl
theorem shr_ownT (ds : List D) : S.shr (.own (.tuple ds)) = some (.tuple ds) := rfl
theorem mine_own (d : D) : S.mine (.own d) = some d := rfl
theorem mine_bor (d : D) : S.mine (.bor d) = some d := rfl
theorem wid_own (d e : D) : S.wid (.own d) e = .own e := rfl
theorem wid_bor (d e : D) : S.wid (.bor d) e = .bor e := rfl
theorem isD_list (ds : List D) : isDict (.list ds) = false := rfl
theorem isD_tup (ds : List D) : isDict (.tuple ds) = false := rfl
theorem isD_int (i : Int) : isDict (.int i) = false := rfl
theorem isD_bool (i : Bool) : isDict (.bool i) = false := rfl
theorem isD_none : isDict .none = false := rfl
theorem isD_str (x : Str) : isDict (.str x) = false := rfl
theorem isD_dict (x : List (D × D)) : isDict (.dict x) = true := rfl
theorem con_int (i : Int) : constD (.int i) = .int i := rfl
theorem con_bool (i : Bool) : constD (.bool i) = .bool i := rfl
theorem con_none : constD .none = .none := rfl
theorem con_str (x : Str) : constD (.str x) = .str x := rfl

/-! ### operations on data -/
/-- numbers that are not too great -/
def sm (i : Int) : Prop := i.natAbs < 2 ^ 2000
theorem sm_big {i : Int} (h : sm i) : i.natAbs < big := lt_big (Nat.lt_of_lt_of_le h (Nat.pow_le_pow_right (by decide) (by decide)))
theorem sm_of {i : Int} {k : Nat} (h : i.natAbs < 2 ^ k) (hk : k ≤ 2000) : sm i := Nat.lt_of_lt_of_le h (Nat.pow_le_pow_right (by decide) hk)
theorem o_add (i j : Int) : opD .Add (.int i) (.int j) = some (.val (.int (i + j))) := rfl
theorem o_sub (i j : Int) : opD .Sub (.int i) (.int j) = some (.val (.int (i - j))) := rfl
theorem o_mul {i j : Int} (hi : sm i) (hj : sm j) : opD .Mult (.int i) (.int j) = some (.val (.int (i * j))) := by
  show (if _ then _ else _) = _
  rw [if_pos ⟨sm_big hi, sm_big hj⟩]
theorem o_fdiv {i j : Int} (h : 0 < j) (hj : sm j) : opD .FloorDiv (.int i) (.int j) = some (.val (.int (i / j))) := by
  show (if _ then _ else _) = _
  rw [if_pos ⟨h, sm_big hj⟩]
theorem o_mod {i j : Int} (h : 0 < j) : opD .Mod (.int i) (.int j) = some (.val (.int (i % j))) := by
  show (if _ then _ else _) = _
  rw [if_pos h]
theorem o_pow {i j : Int} (h : 0 ≤ j ∧ j ≤ 1000000 ∧ i.natAbs < 2 ^ 64) : opD .Pow (.int i) (.int j) = some (.val (.int (i ^ j.toNat))) := by
  show (if _ then _ else _) = _
  rw [if_pos h]
theorem o_addT {xs ys : List D} (h : xs.length + ys.length ≤ sizeLine) : opD .Add (.tuple xs) (.tuple ys) = some (.val (.tuple (xs ++ ys))) := by
  show (if _ then _ else _) = _
  rw [if_pos h]
theorem o_addL {xs ys : List D} (h : xs.length + ys.length ≤ sizeLine) : opD .Add (.list xs) (.list ys) = some (.own (.list (xs ++ ys))) := by
  show (if _ then _ else _) = _
  rw [if_pos h]
theorem o_mulT {xs : List D} {k : Int} (h : xs.length ≤ 1000 ∧ k ≤ 1000 ∧ -1000 ≤ k) : opD .Mult (.tuple xs) (.int k) = some (.val (.tuple (List.replicate k.toNat xs).flatten)) := by
  show (if _ then _ else _) = _
  rw [if_pos h]
theorem o_mulL {xs : List D} {k : Int} (h : xs.length * k.toNat ≤ sizeLine ∧ k ≤ 1000000 ∧ -1000000 ≤ k) : opD .Mult (.list xs) (.int k) = some (.own (.list (List.replicate k.toNat xs).flatten)) := by
  show (if _ then _ else _) = _
  rw [if_pos h]
theorem neg_int (i : Int) : negD (.int i) = some (.val (.int (-i))) := rfl

/-! ### comparisons -/
/-- what may be compared -/
def okD (d : D) : Bool := SeqAt.shaped d && !isDict d
theorem okD_int (i : Int) : okD (.int i) = true := by simp [okD, SeqAt.shaped, PyData.canLay0, PyData.depth, isDict]
theorem okD_bool (i : Bool) : okD (.bool i) = true := by simp [okD, SeqAt.shaped, PyData.canLay0, PyData.depth, isDict]
theorem okD_none : okD .none = true := by simp [okD, SeqAt.shaped, PyData.canLay0, PyData.depth, isDict]
theorem cmp_eq {d e : D} (h1 : okD d = true) (h2 : okD e = true) : cmpD .Eq d e = some (.val (.bool (PyData.eqv d e))) := by
  unfold okD at h1 h2
  simp only [Bool.and_eq_true, Bool.not_eq_true'] at h1 h2
  simp [cmpD, h1.2, h2.2, cmpB, eqD, h1.1, h2.1]
theorem cmp_ne {d e : D} (h1 : okD d = true) (h2 : okD e = true) : cmpD .NotEq d e = some (.val (.bool (!PyData.eqv d e))) := by
  unfold okD at h1 h2
  simp only [Bool.and_eq_true, Bool.not_eq_true'] at h1 h2
  simp [cmpD, h1.2, h2.2, cmpB, eqD, h1.1, h2.1]
theorem cmp_inT {d : D} {ds : List D} (h1 : okD d = true) (h2 : okD (.tuple ds) = true) : cmpD .In d (.tuple ds) = some (.val (.bool (ds.any fun z => PyData.eqv z d))) := by
  unfold okD at h1 h2
  simp only [Bool.and_eq_true, Bool.not_eq_true'] at h1 h2
  simp [cmpD, h1.2, h2.2, cmpB, inD, h1.1, h2.1]
theorem cmp_inL {d : D} {ds : List D} (h1 : okD d = true) (h2 : okD (.list ds) = true) : cmpD .In d (.list ds) = some (.val (.bool (ds.any fun z => PyData.eqv z d))) := by
  unfold okD at h1 h2
  simp only [Bool.and_eq_true, Bool.not_eq_true'] at h1 h2
  simp [cmpD, h1.2, h2.2, cmpB, inD, h1.1, h2.1]
theorem cmp_ninT {d : D} {ds : List D} (h1 : okD d = true) (h2 : okD (.tuple ds) = true) : cmpD .NotIn d (.tuple ds) = some (.val (.bool (!ds.any fun z => PyData.eqv z d))) := by
  unfold okD at h1 h2
  simp only [Bool.and_eq_true, Bool.not_eq_true'] at h1 h2
  simp [cmpD, h1.2, h2.2, cmpB, inD, h1.1, h2.1]
theorem cmp_ninL {d : D} {ds : List D} (h1 : okD d = true) (h2 : okD (.list ds) = true) : cmpD .NotIn d (.list ds) = some (.val (.bool (!ds.any fun z => PyData.eqv z d))) := by
  unfold okD at h1 h2
  simp only [Bool.and_eq_true, Bool.not_eq_true'] at h1 h2
  simp [cmpD, h1.2, h2.2, cmpB, inD, h1.1, h2.1]
theorem shp_int (i : Int) : SeqAt.shaped (.int i) = true := by simp [SeqAt.shaped, PyData.canLay0, PyData.depth]
theorem c_lt (i j : Int) : cmpD .Lt (.int i) (.int j) = some (.val (.bool (decide (i < j)))) := by simp [cmpD, isDict, cmpB, ltD, shp_int, ordD, intOp]
theorem c_le (i j : Int) : cmpD .LtE (.int i) (.int j) = some (.val (.bool (decide (i ≤ j)))) := by simp [cmpD, isDict, cmpB, ltD, shp_int, ordD, intOp]
theorem c_gt (i j : Int) : cmpD .Gt (.int i) (.int j) = some (.val (.bool (decide (j < i)))) := by simp [cmpD, isDict, cmpB, ltD, shp_int, ordD, intOp]
theorem c_ge (i j : Int) : cmpD .GtE (.int i) (.int j) = some (.val (.bool (decide (j ≤ i)))) := by simp [cmpD, isDict, cmpB, ltD, shp_int, ordD, intOp]
theorem c_eq (i j : Int) : cmpD .Eq (.int i) (.int j) = some (.val (.bool (decide (i = j)))) := by
  rw [cmp_eq (okD_int i) (okD_int j)]; simp [PyData.eqv]; rfl
theorem c_ne (i j : Int) : cmpD .NotEq (.int i) (.int j) = some (.val (.bool (!decide (i = j)))) := by
  rw [cmp_ne (okD_int i) (okD_int j)]; simp [PyData.eqv]; rfl
theorem is_non (d : D) : cmpD .Is d .none = if isDict d = true then none else some (.val (.bool (match d with | .none => true | _ => false))) := by
  cases d <;> simp [cmpD, isDict, cmpB, sameD]
theorem isn_non (d : D) : cmpD .IsNot d .none = if isDict d = true then none else some (.val (.bool (match d with | .none => false | _ => true))) := by
  cases d <;> simp [cmpD, isDict, cmpB, sameD]
theorem is_bool (d : D) (k : Bool) : cmpD .Is d (.bool k) = if isDict d = true then none else some (.val (.bool (match d with | .bool j => decide (j = k) | _ => false))) := by
  cases d <;> simp [cmpD, isDict, cmpB, sameD]
  cases k <;> simp
theorem c_eqB (a b : Bool) : cmpD .Eq (.bool a) (.bool b) = some (.val (.bool (decide (a = b)))) := by
  rw [cmp_eq (okD_bool a) (okD_bool b)]; simp [PyData.eqv]; cases b <;> simp

/-! ### built-ins -/
theorem bu_lenT (ds : List D) : Bi.run .len [.tuple ds] = some (.val (.int ds.length)) := rfl
theorem bu_lenL (ds : List D) : Bi.run .len [.list ds] = some (.val (.int ds.length)) := rfl
theorem bu_abs (i : Int) : Bi.run .abs [.int i] = some (.val (.int (if i < 0 then -i else i))) := rfl
theorem bu_int (i : Int) : Bi.run .int [.int i] = some (.val (.int i)) := rfl
theorem bu_tupL (ds : List D) : Bi.run .tuple [.list ds] = some (.val (.tuple ds)) := rfl
theorem bu_tupT (ds : List D) : Bi.run .tuple [.tuple ds] = some (.val (.tuple ds)) := rfl
theorem bu_tupN (ds : List D) : Bi.run .tupleN [.list ds] = some (.own (.tuple ds)) := rfl
theorem bu_lstL (ds : List D) : Bi.run .list [.list ds] = some (.own (.list ds)) := rfl
theorem bu_lstT (ds : List D) : Bi.run .list [.tuple ds] = some (.own (.list ds)) := rfl
theorem bu_max2 (i j : Int) : Bi.run .max [.int i, .int j] = some (.val (.int (if j > i then j else i))) := rfl
theorem bu_min2 (i j : Int) : Bi.run .min [.int i, .int j] = some (.val (.int (if j < i then j else i))) := rfl
theorem bu_all (bs : List Bool) : Bi.run .all [.list (bs.map .bool)] = some (.val (.bool (bs.all id))) := by
  show (boolsOf _).map _ = _
  rw [show boolsOf (bs.map PyData.bool) = some bs by
    induction bs with
    | nil => rfl
    | cons b bs ih => show (boolsOf (bs.map PyData.bool)).map (b :: ·) = _; rw [ih]; rfl]
  rfl
theorem bu_any (bs : List Bool) : Bi.run .any [.list (bs.map .bool)] = some (.val (.bool (bs.any id))) := by
  show (boolsOf _).map _ = _
  rw [show boolsOf (bs.map PyData.bool) = some bs by
    induction bs with
    | nil => rfl
    | cons b bs ih => show (boolsOf (bs.map PyData.bool)).map (b :: ·) = _; rw [ih]; rfl]
  rfl
theorem bu_sumT (ts : List (List D)) (h : ts.flatten.length ≤ sizeLine) : Bi.run .sum [.tuple (ts.map .tuple), .tuple []] = some (.val (.tuple ts.flatten)) := by
  show (tupsOf (ts.map .tuple)).bind flatD = _
  rw [tupsOf_map]
  show (if _ then _ else _) = _
  rw [if_pos h]
theorem bu_sumL (ts : List (List D)) (h : ts.flatten.length ≤ sizeLine) : Bi.run .sum [.list (ts.map .tuple), .tuple []] = some (.val (.tuple ts.flatten)) := by
  show (tupsOf (ts.map .tuple)).bind flatD = _
  rw [tupsOf_map]
  show (if _ then _ else _) = _
  rw [if_pos h]
theorem bu_srt {ds : List D} (h : srtOk ds = true) : Bi.run .sorted [.list ds] = some (.own (.list (sortD ds))) := by
  show (if _ then _ else _) = _
  rw [if_pos h]
theorem t_none : truD .none = some false := rfl
theorem t_bool (b : Bool) : truD (.bool b) = some b := rfl
theorem t_int (i : Int) : truD (.int i) = some (i != 0) := rfl
theorem t_list (ds : List D) : truD (.list ds) = some (!ds.isEmpty) := rfl
theorem t_tup (ds : List D) : truD (.tuple ds) = some (!ds.isEmpty) := rfl
theorem i_list (ds : List D) : itemsOf (.list ds) = some ds := rfl
theorem i_tup (ds : List D) : itemsOf (.tuple ds) = some ds := rfl
theorem x_list (ds : List D) (i : Int) : ixD (.list ds) (.int i) = (L2.atI ds i).map .val := rfl
theorem x_tup (ds : List D) (i : Int) : ixD (.tuple ds) (.int i) = (L2.atI ds i).map .val := rfl
theorem at_0 (a : D) (r : List D) : L2.atI (a :: r) 0 = some a := by
  unfold L2.atI L2.ixN
  rw [if_pos (by decide), if_pos (by rw [List.length_cons]; omega)]
  rfl
theorem at_1 (a b : D) (r : List D) : L2.atI (a :: b :: r) 1 = some b := by
  unfold L2.atI L2.ixN
  rw [if_pos (by decide), if_pos (by simp only [List.length_cons]; omega)]
  rfl
theorem at_2 (a b c : D) (r : List D) : L2.atI (a :: b :: c :: r) 2 = some c := by
  unfold L2.atI L2.ixN
  rw [if_pos (by decide), if_pos (by simp only [List.length_cons]; omega)]
  rfl
theorem at_3 (a b c d : D) (r : List D) : L2.atI (a :: b :: c :: d :: r) 3 = some d := by
  unfold L2.atI L2.ixN
  rw [if_pos (by decide), if_pos (by simp only [List.length_cons]; omega)]
  rfl
theorem at_map {α : Type} (en : α → D) {xs : List α} {i : Nat} (h : i < xs.length) : L2.atI (xs.map en) (i : Int) = some (en xs[i]) :=
  L2.atI_nat (by rw [List.getElem?_map, List.getElem?_eq_getElem h]; rfl)
theorem at_mapZ {α : Type} (en : α → D) {xs : List α} {i : Int} (h0 : 0 ≤ i) (h : i.toNat < xs.length) : L2.atI (xs.map en) i = some (en xs[i.toNat]) := by
  have := at_map en h
  rwa [Int.toNat_of_nonneg h0] at this
theorem ixn_lit {n : Nat} {i : Int} (h0 : 0 ≤ i) (h : i < n) : L2.ixN n i = some i.toNat := by
  unfold L2.ixN
  rw [if_pos h0, if_pos h]
theorem ixn_0 (n : Nat) : L2.ixN (n + 1) 0 = some 0 := ixn_lit (by decide) (by omega)
theorem ixn_1 (n : Nat) : L2.ixN (n + 2) 1 = some 1 := ixn_lit (by decide) (by omega)
theorem ixn_2 (n : Nat) : L2.ixN (n + 3) 2 = some 2 := ixn_lit (by decide) (by omega)
theorem isa_def (T : Ty) (d : D) : isaD T d = (match T, d with
  | .int, .int _ => true
  | .int, .bool _ => true
  | .bool, .bool _ => true
  | .str, .str _ => true
  | .tuple, .tuple _ => true
  | .list, .list _ => true
  | _, _ => false) := by cases T <;> cases d <;> rfl
theorem r_1 {n : Nat} (h : n ≤ 1000000) : range1D [.int (n : Int)] = some ((List.range n).map fun (i : Nat) => .int (i : Int)) := by
  show (if lim62 (n : Int) = true then _ else _) = _
  rw [if_pos (by unfold lim62; simp; omega)]
  unfold rngD
  simp
theorem r_2 {i j : Int} (h : -1000000 ≤ i ∧ i ≤ 1000000 ∧ -1000000 ≤ j ∧ j ≤ 1000000) : range2D [.int i, .int j] = some ((List.range (j - i).toNat).map fun (k : Nat) => .int (i + (k : Int))) := by
  show (if (lim62 i && lim62 j) = true then _ else _) = _
  rw [if_pos (by unfold lim62; simp; omega)]
  unfold rngD
  simp
theorem r_3 {i j : Int} (h : -1000000 ≤ i ∧ i ≤ 1000000 ∧ -1000000 ≤ j ∧ j ≤ 1000000) : range3D [.int i, .int j, .int (-1)] = some ((List.range (i - j).toNat).map fun (k : Nat) => .int (i - (k : Int))) := by
  show (if (lim62 i && lim62 j && _) = true then _ else _) = _
  rw [if_pos (by unfold lim62; simp; omega)]
  unfold rngD
  simp only [Int.mul_neg, Int.mul_one]
  rfl
theorem l_1 {n : Nat} (h : n ≤ 1000000) : rl1D false (.int (n : Int)) = some (.own (.list ((List.range n).map fun (i : Nat) => .int (i : Int)))) := by
  show (if lim62 (n : Int) = true then _ else _) = _
  rw [if_pos (by unfold lim62; simp; omega)]
  simp [rlMk, rngD]
theorem l_1t {n : Nat} (h : n ≤ 1000000) : rl1D true (.int (n : Int)) = some (.val (.tuple ((List.range n).map fun (i : Nat) => .int (i : Int)))) := by
  show (if lim62 (n : Int) = true then _ else _) = _
  rw [if_pos (by unfold lim62; simp; omega)]
  simp [rlMk, rngD]
theorem numb_map {α : Type} (en : α → D) : ∀ (xs : List α) (k : Nat), numb k (xs.map en) = (xs.zipIdx k).map fun p => .tuple [.int (p.2 : Int), en p.1]
  | [], k => rfl
  | x :: xs, k => by
    rw [List.map_cons, numb, numb_map en xs (k + 1), List.zipIdx_cons, List.map_cons]
theorem zip_map {α β : Type} (en : α → D) (en' : β → D) : ∀ (xs : List α) (ys : List β), zipD (xs.map en) (ys.map en') = (xs.zip ys).map fun p => .tuple [en p.1, en' p.2]
  | [], ys => by cases ys <;> rfl
  | x :: xs, [] => rfl
  | x :: xs, y :: ys => by
    show _ :: zipD (xs.map en) (ys.map en') = _
    rw [zip_map en en' xs ys]; rfl
theorem z2_L (xs ys : List D) : zip2D [.list xs, .list ys] = some (zipD xs ys) := rfl
theorem z2_T (xs ys : List D) : zip2D [.tuple xs, .tuple ys] = some (zipD xs ys) := rfl
theorem dvs_nil : dvs [] = some [] := rfl
theorem dvs_cons (d : D) (ps : List P) : dvs (.dv d :: ps) = (dvs ps).map (d :: ·) := rfl
theorem szl {n : Nat} (h : n ≤ 16777216) : n ≤ sizeLine := h
theorem szl' {n : Nat} (h : n < 16777216) : n < sizeLine := h
theorem sz_0 : (0 ≤ sizeLine) = True := eq_true (szl (by decide))
theorem sz_1 : (1 ≤ sizeLine) = True := eq_true (szl (by decide))
theorem sz_2 : (2 ≤ sizeLine) = True := eq_true (szl (by decide))
theorem sz_3 : (3 ≤ sizeLine) = True := eq_true (szl (by decide))
theorem sz_4 : (4 ≤ sizeLine) = True := eq_true (szl (by decide))
theorem sz_5 : (5 ≤ sizeLine) = True := eq_true (szl (by decide))
theorem sz_6 : (6 ≤ sizeLine) = True := eq_true (szl (by decide))
theorem sz_7 : (7 ≤ sizeLine) = True := eq_true (szl (by decide))
theorem sz_8 : (8 ≤ sizeLine) = True := eq_true (szl (by decide))
theorem sz_9 : (9 ≤ sizeLine) = True := eq_true (szl (by decide))
theorem sz_10 : (10 ≤ sizeLine) = True := eq_true (szl (by decide))
theorem sz_11 : (11 ≤ sizeLine) = True := eq_true (szl (by decide))
theorem sz_12 : (12 ≤ sizeLine) = True := eq_true (szl (by decide))
end DL

namespace DL
open PySem

/-! ### plain data, of few levels -/
/-- fit to be compared: no dicts, k levels at most -/
def fl (k : Nat) (d : D) : Prop := PyData.canLay0 d = true ∧ d.depth ≤ k ∧ isDict d = false
theorem fl_ok {k : Nat} {d : D} (h : fl k d) (hk : k ≤ 64) : okD d = true := by
  unfold okD SeqAt.shaped
  rw [h.1, h.2.2, decide_eq_true (Nat.le_trans h.2.1 hk)]; rfl
theorem fl_int (k : Nat) (i : Int) : fl k (.int i) := ⟨by simp [PyData.canLay0], by simp [PyData.depth], rfl⟩
theorem fl_bool (k : Nat) (i : Bool) : fl k (.bool i) := ⟨by simp [PyData.canLay0], by simp [PyData.depth], rfl⟩
theorem fl_none (k : Nat) : fl k .none := ⟨by simp [PyData.canLay0], by simp [PyData.depth], rfl⟩
theorem fl_all {k : Nat} : ∀ {ds : List D}, (∀ d ∈ ds, fl k d) → PyData.canLayAll0 ds = true ∧ PyData.depthAll ds ≤ k
  | [], _ => ⟨by simp [PyData.canLayAll0], by simp [PyData.depthAll]⟩
  | d :: ds, h => by
    have h1 := h d (List.mem_cons_self ..)
    have h2 := fl_all (ds := ds) fun e he => h e (List.mem_cons_of_mem _ he)
    exact ⟨by simp [PyData.canLayAll0, h1.1, h2.1], by simp only [PyData.depthAll]; have := h1.2.1; have := h2.2; omega⟩
theorem fl_tup {k : Nat} {ds : List D} (h : ∀ d ∈ ds, fl k d) : fl (k + 1) (.tuple ds) := by
  obtain ⟨h1, h2⟩ := fl_all h
  exact ⟨by simp [PyData.canLay0, h1], by simp only [PyData.depth]; omega, rfl⟩
theorem fl_list {k : Nat} {ds : List D} (h : ∀ d ∈ ds, fl k d) : fl (k + 1) (.list ds) := by
  obtain ⟨h1, h2⟩ := fl_all h
  exact ⟨by simp [PyData.canLay0, h1], by simp only [PyData.depth]; omega, rfl⟩
theorem fl_map {α : Type} {k : Nat} {en : α → D} {xs : List α} (h : ∀ x ∈ xs, fl k (en x)) : ∀ d ∈ xs.map en, fl k d := fun d hd => by
  obtain ⟨x, hx, rfl⟩ := List.mem_map.mp hd
  exact h x hx

/-! ### lots and families as data -/
def tI (l : List Int) : D := .tuple (l.map .int)
def tT (L : List (List Int)) : D := .tuple (L.map tI)
theorem fl_tI (l : List Int) : fl 1 (tI l) := fl_tup (fl_map fun _ _ => fl_int 0 _)
theorem fl_tT (L : List (List Int)) : fl 2 (tT L) := fl_tup (fl_map fun l _ => fl_tI l)
theorem ok_I (l : List Int) : okD (.tuple (l.map .int)) = true := fl_ok (fl_tI l) (by decide)
theorem ok_IL (l : List Int) : okD (.list (l.map .int)) = true := fl_ok (fl_list (k := 0) (fl_map fun _ _ => fl_int 0 _)) (by decide)
theorem ok_tI (l : List Int) : okD (tI l) = true := fl_ok (fl_tI l) (by decide)
theorem ok_nilL : okD (.list []) = true := fl_ok (fl_list (k := 0) fun _ h => by simp at h) (by decide)
theorem ok_nilT : okD (.tuple []) = true := fl_ok (fl_tup (k := 0) fun _ h => by simp at h) (by decide)
theorem eqvAll_int : ∀ a b : List Int, PyData.eqvAll (a.map .int) (b.map .int) = decide (a = b)
  | [], [] => by simp [PyData.eqvAll]
  | [], y :: ys => by simp [PyData.eqvAll]
  | x :: xs, [] => by simp [PyData.eqvAll]
  | x :: xs, y :: ys => by
    simp only [List.map_cons, PyData.eqvAll, PyData.eqv, eqvAll_int xs ys, List.cons.injEq]
    by_cases h : x = y <;> simp [h]
theorem eqv_tI (a b : List Int) : PyData.eqv (tI a) (tI b) = decide (a = b) := by simp only [tI, PyData.eqv, eqvAll_int]
theorem eqvAll_map {α : Type} [DecidableEq α] (en : α → D) (he : ∀ x y, PyData.eqv (en x) (en y) = decide (x = y)) : ∀ a b : List α, PyData.eqvAll (a.map en) (b.map en) = decide (a = b)
  | [], [] => by simp [PyData.eqvAll]
  | [], y :: ys => by simp [PyData.eqvAll]
  | x :: xs, [] => by simp [PyData.eqvAll]
  | x :: xs, y :: ys => by
    simp only [List.map_cons, PyData.eqvAll, he, eqvAll_map en he xs ys, List.cons.injEq]
    by_cases h : x = y <;> simp [h]
theorem any_en {α : Type} [DecidableEq α] (en : α → D) (he : ∀ x y, PyData.eqv (en x) (en y) = decide (x = y)) (l : List α) (x : α) : ((l.map en).any fun z => PyData.eqv z (en x)) = decide (x ∈ l) := by
  induction l with
  | nil => simp
  | cons y l ih =>
    rw [List.map_cons, List.any_cons, ih, he]
    by_cases h : x = y
    · subst h; simp
    · simp [h, Ne.symm h, eq_comm]
theorem eqv_int (x y : Int) : PyData.eqv (.int x) (.int y) = decide (x = y) := by simp only [PyData.eqv]; by_cases h : x = y <;> simp [h]
theorem any_int (l : List Int) (x : Int) : ((l.map PyData.int).any fun z => PyData.eqv z (.int x)) = decide (x ∈ l) := any_en .int eqv_int l x
theorem in_I (l : List Int) (x : Int) : cmpD .In (.int x) (.tuple (l.map .int)) = some (.val (.bool (decide (x ∈ l)))) := by
  rw [cmp_inT (okD_int x) (ok_I l), any_int]
theorem nin_I (l : List Int) (x : Int) : cmpD .NotIn (.int x) (.tuple (l.map .int)) = some (.val (.bool (!decide (x ∈ l)))) := by
  rw [cmp_ninT (okD_int x) (ok_I l), any_int]
theorem in_L (l : List Int) (x : Int) : cmpD .In (.int x) (.list (l.map .int)) = some (.val (.bool (decide (x ∈ l)))) := by
  rw [cmp_inL (okD_int x) (ok_IL l), any_int]
theorem nin_L (l : List Int) (x : Int) : cmpD .NotIn (.int x) (.list (l.map .int)) = some (.val (.bool (!decide (x ∈ l)))) := by
  rw [cmp_ninL (okD_int x) (ok_IL l), any_int]
/-- [..] == [] -/
theorem eq_nilL {k : Nat} {ds : List D} (h : ∀ d ∈ ds, fl k d) (hk : k ≤ 60) : cmpD .Eq (.list ds) (.list []) = some (.val (.bool ds.isEmpty)) := by
  rw [cmp_eq (fl_ok (fl_list h) (by omega)) ok_nilL]
  cases ds <;> simp [PyData.eqv, PyData.eqvAll]
theorem ne_nilL {k : Nat} {ds : List D} (h : ∀ d ∈ ds, fl k d) (hk : k ≤ 60) : cmpD .NotEq (.list ds) (.list []) = some (.val (.bool (!ds.isEmpty))) := by
  rw [cmp_ne (fl_ok (fl_list h) (by omega)) ok_nilL]
  cases ds <;> simp [PyData.eqv, PyData.eqvAll]
theorem eq_nilT {k : Nat} {ds : List D} (h : ∀ d ∈ ds, fl k d) (hk : k ≤ 60) : cmpD .Eq (.tuple ds) (.tuple []) = some (.val (.bool ds.isEmpty)) := by
  rw [cmp_eq (fl_ok (fl_tup h) (by omega)) ok_nilT]
  cases ds <;> simp [PyData.eqv, PyData.eqvAll]
theorem ne_nilT {k : Nat} {ds : List D} (h : ∀ d ∈ ds, fl k d) (hk : k ≤ 60) : cmpD .NotEq (.tuple ds) (.tuple []) = some (.val (.bool (!ds.isEmpty))) := by
  rw [cmp_ne (fl_ok (fl_tup h) (by omega)) ok_nilT]
  cases ds <;> simp [PyData.eqv, PyData.eqvAll]
/-- a row of ones -/
theorem ones_eq {α : Type} (l : List α) : cmpD .Eq (.list (l.map fun _ => .int 1)) (.list []) = some (.val (.bool l.isEmpty)) := by
  rw [eq_nilL (k := 0) (fl_map fun _ _ => fl_int 0 1) (by decide)]
  cases l <;> rfl
theorem ones_ne {α : Type} (l : List α) : cmpD .NotEq (.list (l.map fun _ => .int 1)) (.list []) = some (.val (.bool (!l.isEmpty))) := by
  rw [ne_nilL (k := 0) (fl_map fun _ _ => fl_int 0 1) (by decide)]
  cases l <;> rfl
theorem filter_empty {α : Type} (p : α → Bool) (l : List α) : (l.filter fun x => !p x).isEmpty = l.all p := by
  induction l with
  | nil => rfl
  | cons x l ih => rw [List.filter_cons, List.all_cons]; cases h : p x <;> simp [h, ih]
theorem filter_any {α : Type} (p : α → Bool) (l : List α) : (!(l.filter p).isEmpty) = l.any p := by
  induction l with
  | nil => rfl
  | cons x l ih => rw [List.filter_cons, List.any_cons]; cases h : p x <;> simp [h, ih]
theorem tupI_I (l : List Int) : tupI (.tuple (l.map .int)) = some l := by show intsOf _ = _; simp
theorem ex_sunG (F : Nat → Fn) (ρ : En) (a b : Op) : Ex.den F (.sun a b) ρ = (a.den F ρ).bind fun p => (pg p.2 p.1).bind fun d => (R.of (tupI d)).bind fun ns => if ns.length ≤ 30 then ((b.den F p.2).bind fun q => (pg q.2 q.1).bind fun e => (R.of (tupI e)).bind fun ms => if ms.length ≤ 30 then .ok (.own (.list ((DLr.sortU DLr.ltI (ns ++ ms)).map .int)), q.2) else .stuck) else .stuck := by
  rw [ex_sun]
  congr 1; funext p
  show R.bind (R.of ((p.1.get p.2).bind tupI)) _ = R.bind (R.of (p.1.get p.2)) _
  cases p.1.get p.2 with
  | none => rfl
  | some d =>
    show R.bind (R.of (tupI d)) _ = R.bind (R.of (tupI d)) _
    congr 1; funext ns
    split
    · congr 1; funext q
      show R.bind (R.of ((q.1.get q.2).bind tupI)) _ = R.bind (R.of (q.1.get q.2)) _
      cases q.1.get q.2 <;> rfl
    · rfl

/-! ### ints within bounds, each once -/
theorem nodup_len : ∀ (m : Nat) (l : List Int), l.Nodup → (∀ x ∈ l, 0 ≤ x ∧ x < m) → l.length ≤ m
  | 0, l, _, h => by
    cases l with
    | nil => simp
    | cons x l => have := h x (List.mem_cons_self ..); omega
  | m + 1, l, nd, h => by
    have h1 := nodup_len m (l.filter fun x => decide (x ≠ (m : Int))) (nd.filter _) fun x hx => by
      obtain ⟨hx, hn⟩ := List.mem_filter.mp hx
      have := h x hx
      have hn : x ≠ (m : Int) := of_decide_eq_true hn
      omega
    have h2 : ∀ l : List Int, l.Nodup → l.length ≤ (l.filter fun x => decide (x ≠ (m : Int))).length + 1 := by
      intro l
      induction l with
      | nil => intro _; simp
      | cons y l ih =>
        intro nd
        rw [List.nodup_cons] at nd
        by_cases e : y = (m : Int)
        · have hno : l.filter (fun x => decide (x ≠ (m : Int))) = l := List.filter_eq_self.mpr fun x hx => decide_eq_true fun z => nd.1 (by rw [e, ← z]; exact hx)
          rw [List.filter_cons, if_neg (by simp [e]), hno]; simp
        · rw [List.filter_cons, if_pos (by simp [e])]
          have := ih nd.2
          simp only [List.length_cons]; omega
    have := h2 l nd
    omega
theorem sortU_nodup (l : List Int) : (DLr.sortU DLr.ltI l).Nodup := by
  have := DLr.sortU_sorted DLr.strictI l
  refine List.Pairwise.imp ?_ this
  intro a b h e
  subst e
  simp [DLr.ltI] at h
theorem mem_sU {l : List Int} {x : Int} : x ∈ DLr.sortU DLr.ltI l ↔ x ∈ l := DLr.mem_sortU DLr.strictI
theorem sortU_len_le {α : Type} (lt : α → α → Bool) : ∀ l : List α, (DLr.sortU lt l).length ≤ l.length
  | [] => Nat.le_refl _
  | x :: l => by
    have ih := sortU_len_le lt l
    have : ∀ (m : List α), (DLr.insU lt x m).length ≤ m.length + 1 := by
      intro m
      induction m with
      | nil => simp [DLr.insU]
      | cons y m ihm =>
        unfold DLr.insU
        split
        · simp
        · split
          · simp only [List.length_cons]; omega
          · simp
    show (DLr.insU lt x (DLr.sortU lt l)).length ≤ _
    have := this (DLr.sortU lt l)
    simp only [List.length_cons]; omega
end DL
namespace DL
open PySem
/-! ### data without lists and dicts -/
mutual
def plD : D → Bool
  | .none => true
  | .bool _ => true
  | .int _ => true
  | .str _ => false
  | .tuple ds => plDs ds
  | .list _ => false
  | .dict _ => false
def plDs : List D → Bool
  | [] => true
  | d :: ds => plD d && plDs ds
end
theorem plDs_all : ∀ {ds : List D}, plDs ds = true ↔ ∀ d ∈ ds, plD d = true
  | [] => by simp [plDs]
  | d :: ds => by simp [plDs, plDs_all (ds := ds)]
theorem depth_mem : ∀ {ds : List D} {d : D}, d ∈ ds → d.depth ≤ PyData.depthAll ds
  | e :: ds, d, h => by
    simp only [PyData.depthAll]
    rcases List.mem_cons.mp h with rfl | h
    · omega
    · have := depth_mem h; omega
theorem zip_self : ∀ ds : List D, zipD ds ds = ds.map fun d => .tuple [d, d]
  | [] => rfl
  | d :: ds => by
    show _ :: zipD ds ds = _
    rw [zip_self ds]; rfl
theorem pl_int (i : Int) : plD (.int i) = true := by simp [plD]
theorem pl_none : plD .none = true := by simp [plD]
theorem pl_bool (b : Bool) : plD (.bool b) = true := by simp [plD]
theorem pl_tup {ds : List D} (h : ∀ d ∈ ds, plD d = true) : plD (.tuple ds) = true := by rw [plD]; exact plDs_all.mpr h
theorem pl_map {α : Type} {en : α → D} {xs : List α} (h : ∀ x ∈ xs, plD (en x) = true) : plD (.tuple (xs.map en)) = true := pl_tup fun d hd => by
  obtain ⟨x, hx, rfl⟩ := List.mem_map.mp hd
  exact h x hx
theorem dp_tup {ds : List D} {k : Nat} (h : ∀ d ∈ ds, d.depth ≤ k) : (PyData.tuple ds).depth ≤ k + 1 := by
  simp only [PyData.depth]
  have : PyData.depthAll ds ≤ k := by
    revert h
    induction ds with
    | nil => intro _; simp [PyData.depthAll]
    | cons d ds ih =>
      intro h
      simp only [PyData.depthAll]
      have := h d (List.mem_cons_self ..)
      have := ih fun e he => h e (List.mem_cons_of_mem _ he)
      omega
  omega
theorem dp_map {α : Type} {en : α → D} {xs : List α} {k : Nat} (h : ∀ x ∈ xs, (en x).depth ≤ k) : (PyData.tuple (xs.map en)).depth ≤ k + 1 := dp_tup fun d hd => by
  obtain ⟨x, hx, rfl⟩ := List.mem_map.mp hd
  exact h x hx
theorem dp_int (i : Int) : (PyData.int i).depth = 0 := by simp [PyData.depth]
theorem dp_none : (PyData.none).depth = 0 := by simp [PyData.depth]
theorem dp_bool (b : Bool) : (PyData.bool b).depth = 0 := by simp [PyData.depth]
end DL
namespace DL
def inn (a b : List Int) : Bool := a.all fun x => decide (x ∈ b)
theorem inn_iff {a b : List Int} : inn a b = true ↔ ∀ x ∈ a, x ∈ b := by simp [inn]
def mayB (L : List (List Int)) (lot : List Int) : Bool := L.any (inn lot)
theorem may_iff {L : List (List Int)} {lot : List Int} : mayB L lot = true ↔ ∃ l ∈ L, inn lot l = true := by simp [mayB]
end DL
namespace DL
open PySem
theorem lst_tT (L : List (List Int)) : Bi.run .list [tT L] = some (.own (.list (L.map tI))) := rfl
theorem tup_tT (L : List (List Int)) : Bi.run .tuple [.list (L.map tI)] = some (.val (tT L)) := rfl
theorem len_tT (L : List (List Int)) : Bi.run .len [tT L] = some (.val (.int L.length)) := by unfold tT; rw [bu_lenT, List.length_map]
theorem len_tI (L : List Int) : Bi.run .len [tI L] = some (.val (.int L.length)) := by unfold tI; rw [bu_lenT, List.length_map]
theorem it_tT (L : List (List Int)) : itemsOf (tT L) = some (L.map tI) := rfl
theorem it_tI (L : List Int) : itemsOf (tI L) = some (L.map .int) := rfl
theorem in_tI (l : List Int) (x : Int) : cmpD .In (.int x) (tI l) = some (.val (.bool (decide (x ∈ l)))) := in_I l x
theorem nin_tI (l : List Int) (x : Int) : cmpD .NotIn (.int x) (tI l) = some (.val (.bool (!decide (x ∈ l)))) := nin_I l x
theorem isD_tI (l : List Int) : isDict (tI l) = false := rfl
theorem isD_tT (l : List (List Int)) : isDict (tT l) = false := rfl
end DL

namespace DL
open PySem

/-! ### calls that lend their first place -/
theorem backS_at (k : Nat) (ds : List D) (o : S) (outs : List S) : ∀ (i : Nat) (ρ : En), i ≤ k → backS (.at k :: ds.map .dv) (o :: outs) i ρ = (match gt ρ (k - i) with
    | some s => (match s.mine, o with
      | some _, .bor d' => st ρ (k - i) (s.wid d')
      | _, _ => ρ)
    | none => ρ)
  | i, [], h => by unfold gt; simp [backS]
  | i, s :: ρ, h => by
    have key : ∀ j, outFor j (.at k :: ds.map P.dv) (o :: outs) = if j = k then some o else none := fun j => by
      show (if j = k then some o else outFor j (ds.map .dv) outs) = _
      rw [outFor_dv]
    have rest : ∀ (ρ : En) (j : Nat), k < j → backS (.at k :: ds.map .dv) (o :: outs) j ρ = ρ := by
      intro ρ
      induction ρ with
      | nil => intro j _; rfl
      | cons t ρ ih =>
        intro j hj
        rw [backS, ih (j + 1) (by omega)]
        congr 1
        unfold backS1
        rw [key, if_neg (by omega)]
        cases t.mine <;> rfl
    rw [backS]
    by_cases e : i = k
    · subst e
      rw [rest ρ (i + 1) (by omega), Nat.sub_self, gt0]
      show _ = (match s.mine, o with
      | some _, .bor d' => st (s :: ρ) 0 (s.wid d')
      | _, _ => s :: ρ)
      unfold backS1
      rw [key, if_pos rfl]
      cases hm : s.mine with
      | none => rfl
      | some d => cases o <;> rfl
    · have h1 : k - i = (k - (i + 1)) + 1 := by omega
      have h0 : backS1 (.at k :: ds.map .dv) (o :: outs) i s = s := by
        unfold backS1
        rw [key, if_neg e]
        cases s.mine <;> rfl
      rw [h0, backS_at k ds o outs (i + 1) ρ (by omega), h1, gtS]
      cases gt ρ (k - (i + 1)) with
      | none => rfl
      | some t =>
        clear key rest h0
        cases ht : t.mine with
        | none => simp only [ht]
        | some d => cases o <;> simp only [ht] <;> rfl
theorem call_at {n : Nat} {f : Fn} {ρ : En} {k : Nat} {ds : List D} {s : S} {d : D} (hs : gt ρ k = some s) (hm : s = .own d ∨ s = .bor d) (hn : ds.length + 1 = n) :
    callS n f ρ (.at k :: ds.map .dv) = (f (.bor d :: ds.map .val)).bind fun r => .ok (r.1, match r.2 with
      | .bor d' :: _ => st ρ k (s.wid d')
      | _ => ρ) := by
  have hmine : s.mine = some d := by rcases hm with rfl | rfl <;> rfl
  have e1 : argsS ρ (.at k :: ds.map .dv) = some (.bor d :: ds.map .val) := by
    show ((argS ρ (.at k)).bind fun s => (argsS ρ (ds.map .dv)).map (s :: ·)) = _
    rw [argsS_dv]
    have : argS ρ (.at k) = some (.bor d) := by
      show (match gt ρ k with
        | some (.val d) => some (S.val d)
        | some (.own d) => some (.bor d)
        | some (.bor d) => some (.bor d)
        | _ => none) = _
      rw [hs]
      rcases hm with rfl | rfl <;> rfl
    rw [this]; rfl
  unfold callS
  rw [e1, ofSome, bindOk]
  have e2 : (P.at k :: ds.map P.dv).filterMap atIx = [k] := by
    rw [List.filterMap_cons]
    show k :: _ = _
    rw [atIx_dv]
  rw [e2, if_pos (by simp [hn])]
  cases f (.bor d :: ds.map .val) with
  | exc c d => rfl
  | stuck => rfl
  | ok r =>
    rw [bindOk, bindOk]
    obtain ⟨v, outs⟩ := r
    cases outs with
    | nil =>
      show R.ok (v, backS (.at k :: ds.map .dv) [] 0 ρ) = R.ok (v, ρ)
      congr 2
      have : ∀ (ρ : En) (i : Nat), backS (.at k :: ds.map .dv) [] i ρ = ρ := by
        intro ρ
        induction ρ with
        | nil => intro i; rfl
        | cons t ρ ih =>
          intro i
          rw [backS, ih (i + 1)]
          congr 1
          unfold backS1
          cases t.mine <;> rfl
      exact this ρ 0
    | cons o outs =>
      show R.ok (v, backS (.at k :: ds.map .dv) (o :: outs) 0 ρ) = R.ok (v, _)
      rw [backS_at k ds o outs 0 ρ (Nat.zero_le _), Nat.sub_zero, hs]
      show R.ok (v, (match s.mine, o with
        | some _, .bor d' => st ρ k (s.wid d')
        | _, _ => ρ)) = _
      rw [hmine]
      cases o <;> rfl

/-! ### the box that draws come from -/
def bx (b : Int × Int) : D := .list [.int b.1, .int b.2]
def okB (b : Int × Int) : Prop := 0 ≤ b.2 ∧ b.2 < 2147483600
theorem okB_mk {g s : Int} (h : 0 ≤ s) (h2 : s < 2147483600) : okB (g, s) := ⟨h, h2⟩
/-- a def that draws from its first place -/
def Bx (f : Fn) (ds : List D) (Q : S → Prop) : Prop := ∀ b, okB b → R.W (f (.bor (bx b) :: ds.map .val)) fun r => Q r.1 ∧ ∃ b' rest, okB b' ∧ r.2 = .bor (bx b') :: rest
theorem Bx.mono {f : Fn} {ds : List D} {Q Q' : S → Prop} (h : Bx f ds Q) (w : ∀ s, Q s → Q' s) : Bx f ds Q' := fun b hb => (h b hb).mono fun r hr => ⟨w _ hr.1, hr.2⟩
theorem W_callB {n : Nat} {f : Fn} {ρ : En} {k : Nat} {ps : List P} {s : S} {b : Int × Int} {Q' : S → Prop} {Q : S × En → Prop} (ds : List D) (h : Bx f ds Q') (hp : ps = .at k :: ds.map .dv) (hs : gt ρ k = some s) (hm : s = .own (bx b) ∨ s = .bor (bx b)) (hn : ds.length + 1 = n) (hb : okB b)
    (hq : ∀ v b', okB b' → Q' v → Q (v, st ρ k (s.wid (bx b')))) : R.W (callS n f ρ ps) Q := by
  rw [hp, call_at hs hm hn, W_bind]
  refine (h b hb).mono fun r hr => ?_
  obtain ⟨h1, b', rest, h2, h3⟩ := hr
  rw [W_ok, h3]
  exact hq r.1 b' h2 h1
def bxR (Q : S → Prop) : Fl × En → Prop := fun q => ∃ v b' rest, (q.1 = .rt v ∨ (q.1 = .nx ∧ v = .val .none)) ∧ okB b' ∧ q.2 = .bor (bx b') :: rest ∧ Q v
theorem bxR_rt {Q : S → Prop} {v : S} {b : Int × Int} {rest : En} (hb : okB b) (h : Q v) : bxR Q (.rt v, .bor (bx b) :: rest) := ⟨v, b, rest, .inl rfl, hb, rfl, h⟩
theorem Bx_def {P : List Df} {n i : Nat} {d : Df} (hi : P[i]? = some d) {ds : List D} {Q : S → Prop} (h : ∀ b, okB b → R.W (d.body.den (fns P n) (.bor (bx b) :: (ds.map .val ++ List.replicate (d.N.length - (ds.length + 1)) .un))) (bxR Q)) : Bx (fns P (n + 1) i) ds Q := by
  intro b hb
  have e : fns P (n + 1) i = fnF d.N.length (d.body.den (fns P n)) := by
    show (match P[i]? with | some d => fnF d.N.length (d.body.den (fns P n)) | none => fun _ => .stuck) = _
    rw [hi]
  rw [e]
  unfold fnF
  rw [W_bind, List.length_cons, List.length_map]
  refine (h b hb).mono fun q hq => ?_
  obtain ⟨v, b', rest, h1, h2, h3, h4⟩ := hq
  obtain ⟨z, ρ⟩ := q
  have h3 : ρ = .bor (bx b') :: rest := h3
  subst h3
  have hl : lentOk (.bor (bx b) :: ds.map .val) (.bor (bx b') :: rest) = true := lent_val ds rest
  show R.W (if lentOk (.bor (bx b) :: ds.map .val) (.bor (bx b') :: rest) = true then _ else _) _
  rw [if_pos hl]
  rcases h1 with h1 | ⟨h1, rfl⟩
  · have h1 : z = .rt v := h1
    subst h1
    exact ⟨h4, b', _, h2, rfl⟩
  · have h1 : z = .nx := h1
    subst h1
    exact ⟨h4, b', _, h2, rfl⟩
def Sts.hd : Sts → St
  | .nil => .pass
  | .cons s _ => s
def Sts.tl : Sts → Sts
  | .nil => .nil
  | .cons _ r => r
end DL

namespace DL
open PySem

theorem ne_tI (a b : List Int) : cmpD .NotEq (tI a) (tI b) = some (.val (.bool (!decide (a = b)))) := by
  rw [cmp_ne (ok_tI a) (ok_tI b), eqv_tI]
theorem eq_tI (a b : List Int) : cmpD .Eq (tI a) (tI b) = some (.val (.bool (decide (a = b)))) := by
  rw [cmp_eq (ok_tI a) (ok_tI b), eqv_tI]
theorem sset_L {L : List (List Int)} (h : L.length ≤ 62) : ssetD (.list (L.map tI)) = some (.own (.list ((DLr.sortU DLr.ltL L).map tI))) := by
  show (rowsD (L.map DLr.enT)).bind _ = _
  rw [rowsD_map]
  show (if _ then _ else _) = _
  rw [if_pos h]; rfl
theorem sset_I {l : List Int} (h : l.length ≤ 62) : ssetD (.tuple (l.map .int)) = some (.own (.list ((DLr.sortU DLr.ltI l).map .int))) := by
  show (intsOf (l.map PyData.int)).bind _ = _
  rw [intsOf_map]
  show (if _ then _ else _) = _
  rw [if_pos h]
theorem mem_sL {L : List (List Int)} {x : List Int} : x ∈ DLr.sortU DLr.ltL L ↔ x ∈ L := DLr.mem_sortU DLr.strictL
/-- the houses 0 .. m - 1 -/
def rgI (m : Nat) : List Int := (List.range m).map fun (i : Nat) => (i : Int)
theorem rgI_map (m : Nat) : ((List.range m).map fun (i : Nat) => PyData.int (i : Int)) = (rgI m).map .int := by unfold rgI; rw [List.map_map]; rfl
theorem mem_rgI {m : Nat} {x : Int} : x ∈ rgI m ↔ 0 ≤ x ∧ x < m := by
  unfold rgI
  rw [List.mem_map]
  constructor
  · rintro ⟨i, hi, rfl⟩
    have := List.mem_range.mp hi
    omega
  · intro ⟨h1, h2⟩
    exact ⟨x.toNat, List.mem_range.mpr (by omega), by omega⟩
theorem rgI_len (m : Nat) : (rgI m).length = m := by unfold rgI; simp
theorem rgI_lt (m : Nat) : (rgI m).Pairwise (· < ·) := by
  unfold rgI
  rw [List.pairwise_map]
  refine List.Pairwise.imp ?_ List.pairwise_lt_range
  intro a b h; omega
theorem nodup_lt {l : List Int} (h : l.Pairwise (· < ·)) : l.Nodup := List.Pairwise.imp (fun h e => by omega) h
theorem sub_of : ∀ {b a : List Int}, a.Pairwise (· < ·) → b.Pairwise (· < ·) → (∀ x ∈ a, x ∈ b) → a.Sublist b
  | [], a, _, _, h => by
    cases a with
    | nil => exact List.Sublist.refl _
    | cons x a => exact absurd (h x (List.mem_cons_self ..)) (by simp)
  | y :: b, [], _, _, _ => List.nil_sublist _
  | y :: b, x :: a, ha, hb, h => by
    rw [List.pairwise_cons] at ha hb
    rcases List.mem_cons.mp (h x (List.mem_cons_self ..)) with e | hx
    · subst e
      refine List.Sublist.cons_cons _ (sub_of ha.2 hb.2 fun z hz => ?_)
      rcases List.mem_cons.mp (h z (List.mem_cons_of_mem _ hz)) with e | hz2
      · have := ha.1 z hz; omega
      · exact hz2
    · refine List.Sublist.cons _ (sub_of (List.pairwise_cons.mpr ha) hb.2 fun z hz => ?_)
      rcases List.mem_cons.mp (h z hz) with e | hz2
      · subst e
        have h1 := hb.1 x hx
        rcases List.mem_cons.mp hz with e | hz3
        · omega
        · have := ha.1 z hz3; omega
      · exact hz2
theorem sortU_lt (l : List Int) : (DLr.sortU DLr.ltI l).Pairwise (· < ·) := List.Pairwise.imp (fun h => by simpa [DLr.ltI] using h) (DLr.sortU_sorted DLr.strictI l)
/-- lists that are mapped ones in another order -/
theorem perm_map {α β : Type} (en : α → β) : ∀ {ds : List β} {xs : List α}, ds.Perm (xs.map en) → ∃ ys : List α, ys.Perm xs ∧ ds = ys.map en := by
  have aux : ∀ {ds es : List β}, ds.Perm es → ∀ xs : List α, es = xs.map en → ∃ ys : List α, ys.Perm xs ∧ ds = ys.map en := by
    intro ds es h
    induction h with
    | nil => intro xs e; cases xs with
      | nil => exact ⟨[], .nil, rfl⟩
      | cons x xs => simp at e
    | cons d h ih => intro xs e; cases xs with
      | nil => simp at e
      | cons x xs =>
        simp only [List.map_cons, List.cons.injEq] at e
        obtain ⟨ys, p, e2⟩ := ih xs e.2
        exact ⟨x :: ys, p.cons x, by rw [e2, e.1]; rfl⟩
    | swap d e' l => intro xs e; cases xs with
      | nil => simp at e
      | cons x xs => cases xs with
        | nil => simp at e
        | cons y xs =>
          simp only [List.map_cons, List.cons.injEq] at e
          exact ⟨y :: x :: xs, .swap .., by rw [e.1, e.2.1, e.2.2]; rfl⟩
    | trans h1 h2 ih1 ih2 => intro xs e
                             obtain ⟨ys, p, e2⟩ := ih2 xs e
                             obtain ⟨zs, p2, e3⟩ := ih1 ys e2
                             exact ⟨zs, p2.trans p, e3⟩
  intro ds xs h
  exact aux h xs rfl
theorem sortD_perm (ds : List D) : (sortD ds).Perm ds := List.mergeSort_perm _ _
theorem alikeAll_int : ∀ a b : List Int, PySem.W.alikeAll (a.map .int) (b.map .int) = true
  | [], b => by simp [PySem.W.alikeAll]
  | x :: a, [] => by simp [PySem.W.alikeAll]
  | x :: a, y :: b => by simp [PySem.W.alikeAll, PySem.W.alike, alikeAll_int a b]
end DL
namespace DL
open PySem
/-! ### all lots of some houses -/
def allS (rows : List (List Int)) (h : Int) : List (List Int) := rows ++ rows.map (· ++ [h])
def allR (U : List Int) : List (List Int) := U.foldl allS [[]]
theorem allR_snoc (U : List Int) (h : Int) : allR (U ++ [h]) = allS (allR U) h := by unfold allR; rw [List.foldl_append]; rfl
theorem allR_len (U : List Int) : (allR U).length = 2 ^ U.length := by
  have : ∀ (U : List Int) (r : List (List Int)), (U.foldl allS r).length = r.length * 2 ^ U.length := by
    intro U
    induction U with
    | nil => intro r; simp
    | cons h U ih =>
      intro r
      rw [List.foldl_cons, ih]
      unfold allS
      rw [List.length_append, List.length_map, List.length_cons, Nat.pow_succ, ← Nat.two_mul, Nat.mul_comm 2 r.length, Nat.mul_assoc, Nat.mul_comm 2]
  rw [allR, this]; simp
theorem allR_nil (U : List Int) : [] ∈ allR U := by
  have : ∀ (U : List Int) (r : List (List Int)), [] ∈ r → [] ∈ U.foldl allS r := by
    intro U
    induction U with
    | nil => intro r h; exact h
    | cons h U ih => intro r hr; exact ih _ (List.mem_append_left _ hr)
  exact this U [[]] (by simp)
theorem srt_rows (rows : List (List Int)) : srtOk (rows.map fun r => .tuple [.int r.length, tI r]) = true := by
  unfold srtOk
  simp only [Bool.and_eq_true, List.all_eq_true, Bool.or_eq_true]
  refine ⟨⟨?_, .inl ?_⟩, ?_⟩
  · intro d hd e he
    obtain ⟨r, _, rfl⟩ := List.mem_map.mp hd
    obtain ⟨q, _, rfl⟩ := List.mem_map.mp he
    simp [PySem.W.alike, PySem.W.alikeAll, tI, alikeAll_int]
  · intro d hd
    obtain ⟨r, _, rfl⟩ := List.mem_map.mp hd
    rfl
  · intro d hd
    obtain ⟨r, _, rfl⟩ := List.mem_map.mp hd
    have h1 : fl 2 (.tuple [.int r.length, tI r]) := fl_tup (k := 1) fun d hd => by
      simp at hd
      rcases hd with rfl | rfl
      · exact fl_int _ _
      · exact fl_tI r
    exact decide_eq_true (Nat.le_trans h1.2.1 (by decide))
/-! ### rows of places that do not fall -/
def rngZ (i j : Int) : List Int := (List.range (j - i).toNat).map fun (k : Nat) => i + (k : Int)
theorem rngZ_map (i j : Int) : ((List.range (j - i).toNat).map fun (k : Nat) => PyData.int (i + (k : Int))) = (rngZ i j).map .int := by unfold rngZ; rw [List.map_map]; rfl
theorem mem_rngZ {i j x : Int} : x ∈ rngZ i j ↔ i ≤ x ∧ x < j := by
  unfold rngZ
  rw [List.mem_map]
  constructor
  · rintro ⟨k, hk, rfl⟩
    have := List.mem_range.mp hk
    omega
  · intro ⟨h1, h2⟩
    exact ⟨(x - i).toNat, List.mem_range.mpr (by omega), by omega⟩
def lastZ (row : List Int) : Int := row.getLast?.getD 0
def rowS (m : Int) (row : List Int) : List (List Int) := (rngZ (lastZ row) m).map fun p => row ++ [p]
def rowsP (m : Int) : Nat → List (List Int)
  | 0 => [[]]
  | c + 1 => (rowsP m c).flatMap (rowS m)
theorem rowsP_in {m : Int} (hm : 0 ≤ m) : ∀ {c : Nat} {row : List Int}, row ∈ rowsP m c → row.length = c ∧ ∀ p ∈ row, 0 ≤ p ∧ p < m
  | 0, row, h => by simp [rowsP] at h; subst h; simp
  | c + 1, row, h => by
    obtain ⟨q, hq, h⟩ := List.mem_flatMap.mp h
    obtain ⟨p, hp, rfl⟩ := List.mem_map.mp h
    obtain ⟨h1, h2⟩ := rowsP_in hm hq
    have hp := mem_rngZ.mp hp
    have hl : 0 ≤ lastZ q := by
      unfold lastZ
      cases e : q.getLast? with
      | none => simp
      | some z => exact (h2 z (List.mem_of_getLast? e)).1
    refine ⟨by simp [h1], fun z hz => ?_⟩
    rcases List.mem_append.mp hz with hz | hz
    · exact h2 z hz
    · simp at hz; subst hz; omega
theorem rowS_len {m : Int} {row : List Int} (hm : m ≤ 9) (h : ∀ p ∈ row, 0 ≤ p ∧ p < m) : (rowS m row).length ≤ 9 := by
  unfold rowS rngZ
  rw [List.length_map, List.length_map, List.length_range]
  have hl : 0 ≤ lastZ row := by
    unfold lastZ
    cases e : row.getLast? with
    | none => simp
    | some z => exact (h z (List.mem_of_getLast? e)).1
  omega
theorem flatMap_len {α β : Type} {f : α → List β} {k : Nat} : ∀ {xs : List α}, (∀ x ∈ xs, (f x).length ≤ k) → (xs.flatMap f).length ≤ k * xs.length
  | [], _ => by simp
  | x :: xs, h => by
    rw [List.flatMap_cons, List.length_append, List.length_cons, Nat.mul_succ]
    have := h x (List.mem_cons_self ..)
    have := flatMap_len (xs := xs) fun y hy => h y (List.mem_cons_of_mem _ hy)
    omega
theorem rowsP_len {m : Int} (h0 : 0 ≤ m) (hm : m ≤ 9) : ∀ c : Nat, (rowsP m c).length ≤ 9 ^ c
  | 0 => by simp [rowsP]
  | c + 1 => by
    have h1 := rowsP_len h0 hm c
    have h2 := flatMap_len (f := rowS m) (k := 9) (xs := rowsP m c) fun row hr => rowS_len hm (rowsP_in h0 hr).2
    show ((rowsP m c).flatMap (rowS m)).length ≤ 9 ^ (c + 1)
    rw [Nat.pow_succ]; omega
def pickL (L : List (List Int)) (row : List Int) : List (List Int) := row.map fun p => L[p.toNat]?.getD []
theorem at_pick {L : List (List Int)} {p : Int} (h0 : 0 ≤ p) (h : p < L.length) : L2.atI (L.map tI) p = some (tI (L[p.toNat]?.getD [])) := by
  rw [at_mapZ tI h0 (by omega), List.getElem?_eq_getElem (by omega)]; rfl
theorem last_at {row : List Int} (h : row ≠ []) : L2.atI (row.map PyData.int) ((row.length : Int) - 1) = some (.int (lastZ row)) := by
  have hl : 0 < row.length := List.length_pos_iff.mpr h
  rw [at_mapZ .int (by omega) (by omega)]
  unfold lastZ
  rw [List.getLast?_eq_getElem?]
  have : ((row.length : Int) - 1).toNat = row.length - 1 := by omega
  rw [List.getElem?_eq_getElem (by omega)]
  simp [this]
def covD : Option (List (List Int)) → D
  | none => .none
  | some L => tT L
/-- the first row of places whose lots hold a lot -/
def covL (L : List (List Int)) (lot : List Int) (c : Nat) : Option (List (List Int)) := ((rowsP (L.length : Int) c).find? fun row => inn lot (pickL L row).flatten).map (pickL L)
end DL
namespace DL
open PySem
/-! ### the next row of places -/
def nxA (m : Int) (p : List Int) : Nat → Option (List Int)
  | 0 => none
  | k + 1 => if p[k]?.getD 0 + 1 < m then some (p.take k ++ List.replicate (p.length - k) (p[k]?.getD 0 + 1)) else nxA m p k
def nxP (m : Int) (p : List Int) : Option (List Int) := nxA m p p.length
def chainOk (m c : Nat) : Bool := ((rowsP m c)[0]? == some (List.replicate c 0)) && (List.range (rowsP m c).length).all fun i => nxP m ((rowsP m c)[i]?.getD []) == (rowsP m c)[i + 1]?
theorem chain3 : ∀ m : Nat, 1 ≤ m → m ≤ 9 → chainOk m 3 = true := by
  have : ∀ m ∈ List.range' 1 9, chainOk m 3 = true := by decide +kernel
  intro m h1 h2
  exact this m (List.mem_range'_1.mpr ⟨h1, by omega⟩)
theorem chain_0 {m c : Nat} (h : chainOk m c = true) : (rowsP m c)[0]? = some (List.replicate c 0) := by
  unfold chainOk at h
  rw [Bool.and_eq_true] at h
  exact eq_of_beq h.1
theorem chain_s {m c : Nat} (h : chainOk m c = true) {i : Nat} (hi : i < (rowsP m c).length) : nxP m ((rowsP m c)[i]) = (rowsP m c)[i + 1]? := by
  unfold chainOk at h
  rw [Bool.and_eq_true, List.all_eq_true] at h
  have := eq_of_beq (h.2 i (List.mem_range.mpr hi))
  rwa [List.getElem?_eq_getElem hi] at this
def heldL (L : List (List Int)) (row : List Int) : List Int := row.foldl (fun held p => DLr.sortU DLr.ltI (held ++ (L[p.toNat]?.getD []))) []
theorem mem_held {L : List (List Int)} {row : List Int} {x : Int} : x ∈ heldL L row ↔ x ∈ (pickL L row).flatten := by
  have : ∀ (row : List Int) (h : List Int), x ∈ row.foldl (fun held p => DLr.sortU DLr.ltI (held ++ (L[p.toNat]?.getD []))) h ↔ x ∈ h ∨ x ∈ (pickL L row).flatten := by
    intro row
    induction row with
    | nil => intro h; simp [pickL]
    | cons p row ih =>
      intro h
      rw [List.foldl_cons, ih, mem_sU]
      simp [pickL, or_assoc]
  rw [heldL, this]; simp
theorem inn_held {L : List (List Int)} {row lot : List Int} : inn lot (heldL L row) = inn lot (pickL L row).flatten := by
  unfold inn
  congr 1
  funext x
  rw [decide_eq_decide]
  exact mem_held
def optT : Option (List Int) → D
  | none => .none
  | some p => tI p
theorem take_cut (ds : List D) {k : Int} (h : 0 ≤ k) : cutD ds none (some k) = ds.take k.toNat := by
  unfold cutD
  have e2 : HT.sIx ds.length 0 none = 0 := rfl
  have e3 : HT.sIx ds.length ds.length (some k) = min k.toNat ds.length := by
    have := HT.sIx_nat ds.length ds.length k.toNat
    rwa [Int.toNat_of_nonneg h] at this
  rw [e2, e3, List.drop_zero, Nat.sub_zero]
  exact List.take_eq_take_iff.mpr (by simp)
theorem sl_to (ds : List D) {k : Int} (h : 0 ≤ k) : slD (.tuple ds) none (some k) = some (.val (.tuple (ds.take k.toNat))) := by
  show some (S.val (.tuple (cutD ds none (some k)))) = _
  rw [take_cut ds h]
theorem sl_toL (ds : List D) {k : Int} (h : 0 ≤ k) : slD (.list ds) none (some k) = some (.own (.list (ds.take k.toNat))) := by
  show some (S.own (.list (cutD ds none (some k)))) = _
  rw [take_cut ds h]
theorem drop_cut (ds : List D) {k : Int} (h : 0 ≤ k) : cutD ds (some k) none = ds.drop k.toNat := by
  unfold cutD
  have e2 : HT.sIx ds.length ds.length none = ds.length := rfl
  have e3 : HT.sIx ds.length 0 (some k) = min k.toNat ds.length := by
    have := HT.sIx_nat ds.length 0 k.toNat
    rwa [Int.toNat_of_nonneg h] at this
  rw [e2, e3]
  by_cases hk : k.toNat ≤ ds.length
  · rw [Nat.min_eq_left hk]
    exact List.take_of_length_le (by simp)
  · rw [Nat.min_eq_right (by omega), List.drop_length, List.drop_of_length_le (by omega)]; simp
theorem sl_from (ds : List D) {k : Int} (h : 0 ≤ k) : slD (.tuple ds) (some k) none = some (.val (.tuple (ds.drop k.toNat))) := by
  show some (S.val (.tuple (cutD ds (some k) none))) = _
  rw [drop_cut ds h]
theorem sl_fromL (ds : List D) {k : Int} (h : 0 ≤ k) : slD (.list ds) (some k) none = some (.own (.list (ds.drop k.toNat))) := by
  show some (S.own (.list (cutD ds (some k) none))) = _
  rw [drop_cut ds h]
theorem rep_flat (k : Nat) (d : D) : (List.replicate k [d]).flatten = List.replicate k d := by
  induction k with
  | zero => rfl
  | succ k ih => rw [List.replicate_succ, List.flatten_cons, ih, List.replicate_succ]; rfl
end DL

namespace DL
open PySem

/-! ### fractions -/
abbrev Fr := Int × Int
def fr (f : Fr) : D := .tuple [.int f.1, .int f.2]
def blw (f g : Fr) : Bool := decide (f.1 * g.2 < g.1 * f.2)
def bf (k : Nat) (f : Fr) : Prop := f.1.natAbs < 2 ^ k ∧ 0 < f.2 ∧ f.2.natAbs < 2 ^ k
theorem bf.mono {j k : Nat} {f : Fr} (h : bf j f) (hk : j ≤ k) : bf k f :=
  ⟨Nat.lt_of_lt_of_le h.1 (Nat.pow_le_pow_right (by decide) hk), h.2.1, Nat.lt_of_lt_of_le h.2.2 (Nat.pow_le_pow_right (by decide) hk)⟩
theorem bf.s1 {k : Nat} {f : Fr} (h : bf k f) (hk : k ≤ 2000) : sm f.1 := sm_of h.1 hk
theorem bf.s2 {k : Nat} {f : Fr} (h : bf k f) (hk : k ≤ 2000) : sm f.2 := sm_of h.2.2 hk
def lowF (a b : Int) : Fr := (a / (Int.gcd a b : Int), b / (Int.gcd a b : Int))
def midF (f g : Fr) : Fr := lowF (f.1 * g.2 + g.1 * f.2) (2 * f.2 * g.2)
theorem gcd_pos {a b : Int} (h : 0 < b) : 0 < (Int.gcd a b : Int) := by
  have : 0 < Int.gcd a b := Nat.gcd_pos_of_pos_right _ (by omega)
  omega
theorem lowF_bf {a b : Int} {k : Nat} (ha : a.natAbs < 2 ^ k) (hb : 0 < b) (hb2 : b.natAbs < 2 ^ k) : bf k (lowF a b) := by
  have hg := gcd_pos (a := a) hb
  have h1 : (Int.gcd a b : Int) ∣ a := Int.gcd_dvd_left ..
  have h2 : (Int.gcd a b : Int) ∣ b := Int.gcd_dvd_right ..
  refine ⟨?_, ?_, ?_⟩
  · refine Nat.lt_of_le_of_lt ?_ ha
    show (a / _).natAbs ≤ _
    rw [Int.natAbs_ediv_of_dvd h1]
    exact Nat.div_le_self _ _
  · show 0 < b / _
    exact Int.ediv_pos_of_pos_of_dvd hb (by omega) h2
  · refine Nat.lt_of_le_of_lt ?_ hb2
    show (b / _).natAbs ≤ _
    rw [Int.natAbs_ediv_of_dvd h2]
    exact Nat.div_le_self _ _
theorem mul_lt {a b : Int} {j k : Nat} (ha : a.natAbs < 2 ^ j) (hb : b.natAbs < 2 ^ k) : (a * b).natAbs < 2 ^ (j + k) := by
  rw [Int.natAbs_mul, Nat.pow_add]
  exact Nat.mul_lt_mul'' ha hb
theorem add_lt {a b : Int} {k : Nat} (ha : a.natAbs < 2 ^ k) (hb : b.natAbs < 2 ^ k) : (a + b).natAbs < 2 ^ (k + 1) := by
  rw [Nat.pow_succ]
  omega
theorem midF_bf {k : Nat} {f g : Fr} (hf : bf k f) (hg : bf k g) : bf (2 * k + 1) (midF f g) := by
  unfold midF
  have e : 2 * k + 1 = k + k + 1 := by omega
  rw [e]
  have h2 := mul_lt hf.2.2 hg.2.2
  refine lowF_bf (add_lt (mul_lt hf.1 hg.2.2) (mul_lt hg.1 hf.2.2)) (Int.mul_pos (by have := hf.2.1; omega) hg.2.1) ?_
  rw [Int.mul_assoc, Int.natAbs_mul, Nat.pow_succ]
  show 2 * _ < _
  omega
/-- .. worth the same -/
theorem lowF_eq {a b : Int} (hb : 0 < b) : (lowF a b).1 * b = a * (lowF a b).2 := by
  have hg := gcd_pos (a := a) hb
  obtain ⟨c, hc⟩ : (Int.gcd a b : Int) ∣ a := Int.gcd_dvd_left ..
  obtain ⟨d, hd⟩ : (Int.gcd a b : Int) ∣ b := Int.gcd_dvd_right ..
  unfold lowF
  show a / _ * b = a * (b / _)
  have e1 : a / (Int.gcd a b : Int) = c := by
    have := Int.mul_ediv_cancel_left c (show (Int.gcd a b : Int) ≠ 0 by omega)
    rw [← hc] at this; exact this
  have e2 : b / (Int.gcd a b : Int) = d := by
    have := Int.mul_ediv_cancel_left d (show (Int.gcd a b : Int) ≠ 0 by omega)
    rw [← hd] at this; exact this
  rw [e1, e2]
  generalize (Int.gcd a b : Int) = g at *
  rw [hc, hd]
  grind
theorem fl_fr (f : Fr) : fl 1 (fr f) := fl_tup fun d hd => by
  simp at hd
  rcases hd with rfl | rfl <;> exact fl_int _ _
theorem x_fr0 (f : Fr) : ixD (fr f) (.int 0) = some (.val (.int f.1)) := by unfold fr; rw [x_tup, at_0]; rfl
theorem x_fr1 (f : Fr) : ixD (fr f) (.int 1) = some (.val (.int f.2)) := by unfold fr; rw [x_tup, at_1]; rfl
def mostF (x : Fr) (xs : List Fr) : Fr := xs.foldl (fun b o => if blw b o = true then o else b) x
def leastF (x : Fr) (xs : List Fr) : Fr := xs.foldl (fun b o => if blw o b = true then o else b) x
theorem mostF_mem (xs : List Fr) : ∀ x, mostF x xs ∈ x :: xs := by
  induction xs with
  | nil => intro x; simp [mostF]
  | cons y xs ih =>
    intro x
    have h := ih (if blw x y = true then y else x)
    show mostF (if blw x y = true then y else x) xs ∈ _
    rcases List.mem_cons.mp h with h | h
    · rw [h]; split <;> simp
    · simp [h]
theorem leastF_mem (xs : List Fr) : ∀ x, leastF x xs ∈ x :: xs := by
  induction xs with
  | nil => intro x; simp [leastF]
  | cons y xs ih =>
    intro x
    have h := ih (if blw y x = true then y else x)
    show leastF (if blw y x = true then y else x) xs ∈ _
    rcases List.mem_cons.mp h with h | h
    · rw [h]; split <;> simp
    · simp [h]
end DL
namespace DL
open PySem
/-! ### fractions by what they are worth -/
def qv (f : Fr) : Rat := (f.1 : Rat) / (f.2 : Rat)
theorem castp {a : Int} (h : 0 < a) : (0 : Rat) < (a : Rat) := by simpa using Rat.intCast_lt_intCast.mpr h
theorem q_lt {a b c d : Int} (hb : 0 < b) (hd : 0 < d) : ((a : Rat) / b < (c : Rat) / d) ↔ a * d < c * b := by
  have hb' := castp hb
  have hd' := castp hd
  rw [Rat.div_lt_iff hb', ← Rat.intCast_lt_intCast, Rat.intCast_mul, Rat.intCast_mul]
  have e : (c : Rat) / d * b = (c * b) / d := by grind
  rw [e, Rat.lt_div_iff hd']
theorem blw_q {f g : Fr} (hf : 0 < f.2) (hg : 0 < g.2) : blw f g = true ↔ qv f < qv g := by
  unfold blw qv
  rw [decide_eq_true_eq, q_lt hf hg]
theorem blw_nq {f g : Fr} (hf : 0 < f.2) (hg : 0 < g.2) : blw f g = false ↔ qv g ≤ qv f := by
  rw [← Bool.not_eq_true, blw_q hf hg]; grind
theorem q_low {a b : Int} (hb : 0 < b) : qv (lowF a b) = (a : Rat) / b := by
  have e := lowF_eq (a := a) hb
  have h2 : 0 < (lowF a b).2 := (lowF_bf (a := a) (k := a.natAbs + b.natAbs) (Nat.lt_of_le_of_lt (by omega) Nat.lt_two_pow_self) hb (Nat.lt_of_le_of_lt (by omega) Nat.lt_two_pow_self)).2.1
  have hb' := castp hb
  have hd' := castp h2
  unfold qv
  have e2 : ((lowF a b).1 : Rat) * b = a * ((lowF a b).2 : Rat) := by rw [← Rat.intCast_mul, ← Rat.intCast_mul, e]
  grind
theorem q_mid {f g : Fr} (hf : 0 < f.2) (hg : 0 < g.2) : qv (midF f g) = (qv f + qv g) / 2 := by
  unfold midF
  rw [q_low (Int.mul_pos (by omega) hg)]
  unfold qv
  have h1 := castp hf
  have h2 := castp hg
  simp only [Rat.intCast_mul, Rat.intCast_add, Rat.intCast_ofNat]
  grind
theorem q_most : ∀ (xs : List Fr) (x : Fr), (∀ f ∈ x :: xs, 0 < f.2) → ∀ f ∈ x :: xs, qv f ≤ qv (mostF x xs)
  | [], x, _, f, hf => by
    rcases List.mem_cons.mp hf with rfl | hf
    · exact Rat.le_refl
    · simp at hf
  | y :: xs, x, hp, f, hf => by
    show qv f ≤ qv (mostF (if blw x y = true then y else x) xs)
    have px := hp x (by simp)
    have py := hp y (by simp)
    by_cases e : blw x y = true
    · rw [if_pos e]
      have h := q_most xs y (fun g hg => hp g (List.mem_cons_of_mem _ hg))
      rcases List.mem_cons.mp hf with rfl | hf
      · have h1 := h y (by simp)
        have h2 := (blw_q px py).mp e
        grind
      · exact h f hf
    · rw [if_neg e]
      have h := q_most xs x (fun g hg => hp g (by simp at hg ⊢; rcases hg with h | h <;> simp [h]))
      rcases List.mem_cons.mp hf with rfl | hf
      · exact h _ (by simp)
      · rcases List.mem_cons.mp hf with rfl | hf
        · have h1 := h x (by simp)
          have h2 := (blw_nq px py).mp (by simpa using e)
          grind
        · exact h f (List.mem_cons_of_mem _ hf)
theorem q_least : ∀ (xs : List Fr) (x : Fr), (∀ f ∈ x :: xs, 0 < f.2) → ∀ f ∈ x :: xs, qv (leastF x xs) ≤ qv f
  | [], x, _, f, hf => by
    rcases List.mem_cons.mp hf with rfl | hf
    · exact Rat.le_refl
    · simp at hf
  | y :: xs, x, hp, f, hf => by
    show qv (leastF (if blw y x = true then y else x) xs) ≤ qv f
    have px := hp x (by simp)
    have py := hp y (by simp)
    by_cases e : blw y x = true
    · rw [if_pos e]
      have h := q_least xs y (fun g hg => hp g (List.mem_cons_of_mem _ hg))
      rcases List.mem_cons.mp hf with rfl | hf
      · have h1 := h y (by simp)
        have h2 := (blw_q py px).mp e
        grind
      · exact h f hf
    · rw [if_neg e]
      have h := q_least xs x (fun g hg => hp g (by simp at hg ⊢; rcases hg with h | h <;> simp [h]))
      rcases List.mem_cons.mp hf with rfl | hf
      · exact h _ (by simp)
      · rcases List.mem_cons.mp hf with rfl | hf
        · have h1 := h x (by simp)
          have h2 := (blw_nq py px).mp (by simpa using e)
          grind
        · exact h f (List.mem_cons_of_mem _ hf)
/-! ### both ends of what is told -/
def lessI (told : List Fr) (f : Fr) : List Int := (told.zipIdx.filter fun p => blw p.1 f).map fun p => (p.2 : Int)
def moreI (told : List Fr) (f : Fr) : List Int := (told.zipIdx.filter fun p => blw f p.1).map fun p => (p.2 : Int)
theorem mem_lessI {told : List Fr} {f : Fr} {x : Int} : x ∈ lessI told f ↔ ∃ i : Nat, ∃ h : i < told.length, x = (i : Int) ∧ blw told[i] f = true := by
  unfold lessI
  simp only [List.mem_map, List.mem_filter]
  constructor
  · rintro ⟨⟨g, i⟩, ⟨h1, h2⟩, rfl⟩
    have h1 := List.mem_zipIdx h1
    exact ⟨i, by omega, rfl, by simpa [h1.2.2] using h2⟩
  · rintro ⟨i, hi, rfl, h⟩
    exact ⟨(told[i], i), ⟨List.mk_mem_zipIdx_iff_getElem?.mpr (List.getElem?_eq_getElem hi), h⟩, rfl⟩
theorem mem_moreI {told : List Fr} {f : Fr} {x : Int} : x ∈ moreI told f ↔ ∃ i : Nat, ∃ h : i < told.length, x = (i : Int) ∧ blw f told[i] = true := by
  unfold moreI
  simp only [List.mem_map, List.mem_filter]
  constructor
  · rintro ⟨⟨g, i⟩, ⟨h1, h2⟩, rfl⟩
    have h1 := List.mem_zipIdx h1
    exact ⟨i, by omega, rfl, by simpa [h1.2.2] using h2⟩
  · rintro ⟨i, hi, rfl, h⟩
    exact ⟨(told[i], i), ⟨List.mk_mem_zipIdx_iff_getElem?.mpr (List.getElem?_eq_getElem hi), h⟩, rfl⟩
def lowsL (L : List (List Int)) (told : List Fr) : List Fr := told.filter fun f => mayB L (lessI told f)
def highsL (L : List (List Int)) (told : List Fr) : List Fr := told.filter fun f => mayB L (moreI told f)
def end1 (L : List (List Int)) (told : List Fr) : Fr := match lowsL L told with
  | x :: xs => mostF x xs
  | [] => (0, 1)
def end2 (L : List (List Int)) (told : List Fr) : Fr := match highsL L told with
  | x :: xs => leastF x xs
  | [] => (0, 1)
theorem may_nil {L : List (List Int)} (h : L ≠ []) : mayB L [] = true := by
  obtain ⟨l, hl⟩ := List.exists_mem_of_ne_nil L h
  exact may_iff.mpr ⟨l, hl, rfl⟩
theorem lows_ne {L : List (List Int)} {told : List Fr} (hL : L ≠ []) (ht : told ≠ []) (hp : ∀ f ∈ told, 0 < f.2) : lowsL L told ≠ [] := by
  cases told with
  | nil => exact absurd rfl ht
  | cons x xs =>
    have hm := leastF_mem xs x
    have : leastF x xs ∈ lowsL L (x :: xs) := List.mem_filter.mpr ⟨hm, by
      have e : lessI (x :: xs) (leastF x xs) = [] := by
        apply List.eq_nil_iff_forall_not_mem.mpr
        intro y hy
        obtain ⟨i, hi, _, hb⟩ := mem_lessI.mp hy
        have h1 := q_least xs x hp _ (List.getElem_mem hi)
        have h2 := (blw_q (hp _ (List.getElem_mem hi)) (hp _ hm)).mp hb
        grind
      rw [e]; exact may_nil hL⟩
    intro e
    rw [e] at this
    simp at this
theorem highs_ne {L : List (List Int)} {told : List Fr} (hL : L ≠ []) (ht : told ≠ []) (hp : ∀ f ∈ told, 0 < f.2) : highsL L told ≠ [] := by
  cases told with
  | nil => exact absurd rfl ht
  | cons x xs =>
    have hm := mostF_mem xs x
    have : mostF x xs ∈ highsL L (x :: xs) := List.mem_filter.mpr ⟨hm, by
      have e : moreI (x :: xs) (mostF x xs) = [] := by
        apply List.eq_nil_iff_forall_not_mem.mpr
        intro y hy
        obtain ⟨i, hi, _, hb⟩ := mem_moreI.mp hy
        have h1 := q_most xs x hp _ (List.getElem_mem hi)
        have h2 := (blw_q (hp _ hm) (hp _ (List.getElem_mem hi))).mp hb
        grind
      rw [e]; exact may_nil hL⟩
    intro e
    rw [e] at this
    simp at this
theorem end1_in {L : List (List Int)} {told : List Fr} (h : lowsL L told ≠ []) : end1 L told ∈ told ∧ mayB L (lessI told (end1 L told)) = true := by
  have : end1 L told ∈ lowsL L told := by
    unfold end1
    split
    · rename_i x xs e; rw [e]; exact mostF_mem xs x
    · rename_i e; exact absurd e h
  exact List.mem_filter.mp this
theorem end2_in {L : List (List Int)} {told : List Fr} (h : highsL L told ≠ []) : end2 L told ∈ told ∧ mayB L (moreI told (end2 L told)) = true := by
  have : end2 L told ∈ highsL L told := by
    unfold end2
    split
    · rename_i x xs e; rw [e]; exact leastF_mem xs x
    · rename_i e; exact absurd e h
  exact List.mem_filter.mp this
theorem end1_max {L : List (List Int)} {told : List Fr} (hp : ∀ f ∈ told, 0 < f.2) {f : Fr} (hf : f ∈ told) (hm : mayB L (lessI told f) = true) : qv f ≤ qv (end1 L told) := by
  have hf2 : f ∈ lowsL L told := List.mem_filter.mpr ⟨hf, hm⟩
  have hs : ∀ g ∈ lowsL L told, 0 < g.2 := fun g hg => hp g (List.mem_filter.mp hg).1
  unfold end1
  split
  · rename_i x xs e
    rw [e] at hf2 hs
    exact q_most xs x hs f hf2
  · rename_i e; rw [e] at hf2; simp at hf2
theorem end2_min {L : List (List Int)} {told : List Fr} (hp : ∀ f ∈ told, 0 < f.2) {f : Fr} (hf : f ∈ told) (hm : mayB L (moreI told f) = true) : qv (end2 L told) ≤ qv f := by
  have hf2 : f ∈ highsL L told := List.mem_filter.mpr ⟨hf, hm⟩
  have hs : ∀ g ∈ highsL L told, 0 < g.2 := fun g hg => hp g (List.mem_filter.mp hg).1
  unfold end2
  split
  · rename_i x xs e
    rw [e] at hf2 hs
    exact q_least xs x hs f hf2
  · rename_i e; rw [e] at hf2; simp at hf2
end DL
namespace DL
open PySem
/-! ### no three lots hold all -/
theorem lastZ_snoc (r : List Int) (p : Int) : lastZ (r ++ [p]) = p := by unfold lastZ; simp
theorem mem_rows3 {m i j k : Int} (h0 : 0 ≤ i) (h1 : i ≤ j) (h2 : j ≤ k) (h3 : k < m) : [i, j, k] ∈ rowsP m 3 := by
  have a1 : [i] ∈ rowsP m 1 := List.mem_flatMap.mpr ⟨[], by simp [rowsP], List.mem_map.mpr ⟨i, mem_rngZ.mpr ⟨h0, by omega⟩, rfl⟩⟩
  have a2 : [i, j] ∈ rowsP m 2 := List.mem_flatMap.mpr ⟨[i], a1, List.mem_map.mpr ⟨j, mem_rngZ.mpr ⟨by rw [show lastZ [i] = i from lastZ_snoc [] i]; exact h1, by omega⟩, rfl⟩⟩
  exact List.mem_flatMap.mpr ⟨[i, j], a2, List.mem_map.mpr ⟨k, mem_rngZ.mpr ⟨by rw [show lastZ [i, j] = j from lastZ_snoc [i] j]; exact h2, h3⟩, rfl⟩⟩
theorem inn_trans {a b c : List Int} (h1 : inn a b = true) (h2 : inn b c = true) : inn a c = true := inn_iff.mpr fun x hx => inn_iff.mp h2 x (inn_iff.mp h1 x hx)
theorem cov_none {L : List (List Int)} {lot : List Int} (h : covL L lot 3 = none) {i j k : Nat} (hi : i < L.length) (hj : j < L.length) (hk : k < L.length) : ∃ x ∈ lot, x ∉ L[i] ∧ x ∉ L[j] ∧ x ∉ L[k] := by
  have key : ∀ i j k : Nat, (hi : i < L.length) → (hj : j < L.length) → (hk : k < L.length) → i ≤ j → j ≤ k → ∃ x ∈ lot, x ∉ L[i] ∧ x ∉ L[j] ∧ x ∉ L[k] := by
    intro i j k hi hj hk h1 h2
    have hr := mem_rows3 (m := (L.length : Int)) (i := i) (j := j) (k := k) (by omega) (by omega) (by omega) (by omega)
    unfold covL at h
    have h3 := List.find?_eq_none.mp (Option.map_eq_none_iff.mp h) _ hr
    have e : (pickL L [(i : Int), (j : Int), (k : Int)]).flatten = L[i] ++ (L[j] ++ L[k]) := by
      simp [pickL, hi, hj, hk]
    rw [e] at h3
    have h4 : ¬ ∀ x ∈ lot, x ∈ L[i] ++ (L[j] ++ L[k]) := fun z => h3 (inn_iff.mpr z)
    obtain ⟨x, hx⟩ := Classical.not_forall.mp h4
    obtain ⟨hx, hn⟩ := Classical.not_imp.mp hx
    simp only [List.mem_append, not_or] at hn
    exact ⟨x, hx, hn⟩
  rcases Nat.le_total i j with a | a <;> rcases Nat.le_total j k with b | b <;> rcases Nat.le_total i k with c | c
  · exact key i j k hi hj hk a b
  · exact key i j k hi hj hk a b
  · obtain ⟨x, h1, h2, h3, h4⟩ := key i k j hi hk hj c b; exact ⟨x, h1, h2, h4, h3⟩
  · obtain ⟨x, h1, h2, h3, h4⟩ := key k i j hk hi hj c a; exact ⟨x, h1, h3, h4, h2⟩
  · obtain ⟨x, h1, h2, h3, h4⟩ := key j i k hj hi hk a c; exact ⟨x, h1, h3, h2, h4⟩
  · obtain ⟨x, h1, h2, h3, h4⟩ := key j k i hj hk hi b c; exact ⟨x, h1, h4, h2, h3⟩
  · obtain ⟨x, h1, h2, h3, h4⟩ := key k j i hk hj hi b a; exact ⟨x, h1, h4, h3, h2⟩
  · obtain ⟨x, h1, h2, h3, h4⟩ := key k j i hk hj hi b a; exact ⟨x, h1, h4, h3, h2⟩
theorem no3 {L : List (List Int)} {lot P Q T : List Int} (h : covL L lot 3 = none) (hP : mayB L P = true) (hQ : mayB L Q = true) (hT : mayB L T = true) : ∃ x ∈ lot, x ∉ P ∧ x ∉ Q ∧ x ∉ T := by
  obtain ⟨p, hp, hp2⟩ := may_iff.mp hP
  obtain ⟨q, hq, hq2⟩ := may_iff.mp hQ
  obtain ⟨t, ht, ht2⟩ := may_iff.mp hT
  obtain ⟨i, hi, rfl⟩ := List.getElem_of_mem hp
  obtain ⟨j, hj, rfl⟩ := List.getElem_of_mem hq
  obtain ⟨k, hk, rfl⟩ := List.getElem_of_mem ht
  obtain ⟨x, hx, h1, h2, h3⟩ := cov_none h hi hj hk
  exact ⟨x, hx, fun z => h1 (inn_iff.mp hp2 x z), fun z => h2 (inn_iff.mp hq2 x z), fun z => h3 (inn_iff.mp ht2 x z)⟩

/-! ### a round -/
section
variable {L : List (List Int)} {m : Nat} {values : List Fr} {lot : List Int}
/-- what a house heard: of honest houses their values -/
structure Heard (values : List Fr) (lot : List Int) (told : List Fr) : Prop where
  len : told.length = values.length
  pos : ∀ f ∈ told, 0 < f.2
  hon : ∀ (i : Nat) (h : i < told.length) (h' : i < values.length), (i : Int) ∉ lot → told[i] = values[i]
variable (hc : covL L (rgI values.length) 3 = none) (hlot : mayB L lot = true)
include hc hlot
theorem hon_ex {P Q : List Int} (hP : mayB L P = true) (hQ : mayB L Q = true) : ∃ i : Nat, i < values.length ∧ (i : Int) ∉ lot ∧ (i : Int) ∉ P ∧ (i : Int) ∉ Q := by
  obtain ⟨x, hx, h1, h2, h3⟩ := no3 hc hlot hP hQ
  have := mem_rgI.mp hx
  have e : ((x.toNat : Nat) : Int) = x := by omega
  exact ⟨x.toNat, by omega, by rw [e]; exact h1, by rw [e]; exact h2, by rw [e]; exact h3⟩
/-- low ends lie under high ones -/
theorem ends_cross {a b : List Fr} (hL : L ≠ []) (ha : Heard values lot a) (hb : Heard values lot b) (hm : values ≠ []) : ∃ i : Nat, ∃ h : i < values.length, (i : Int) ∉ lot ∧ qv (end1 L a) ≤ qv values[i] ∧ qv values[i] ≤ qv (end2 L b) := by
  have na : a ≠ [] := by intro e; have := ha.len; rw [e] at this; simp at this; exact hm (List.eq_nil_of_length_eq_zero this.symm)
  have nb : b ≠ [] := by intro e; have := hb.len; rw [e] at this; simp at this; exact hm (List.eq_nil_of_length_eq_zero this.symm)
  obtain ⟨e1, e2⟩ := end1_in (lows_ne hL na ha.pos)
  obtain ⟨e3, e4⟩ := end2_in (highs_ne hL nb hb.pos)
  obtain ⟨i, hi, h1, h2, h3⟩ := hon_ex hc hlot e2 e4
  have la : i < a.length := by rw [ha.len]; exact hi
  have lb : i < b.length := by rw [hb.len]; exact hi
  refine ⟨i, hi, h1, ?_, ?_⟩
  · have : blw a[i] (end1 L a) = false := by
      cases e : blw a[i] (end1 L a) with
      | false => rfl
      | true => exact absurd (mem_lessI.mpr ⟨i, la, rfl, e⟩) h2
    rw [← ha.hon i la hi h1]
    exact (blw_nq (ha.pos _ (List.getElem_mem la)) (ha.pos _ e1)).mp this
  · have : blw (end2 L b) b[i] = false := by
      cases e : blw (end2 L b) b[i] with
      | false => rfl
      | true => exact absurd (mem_moreI.mpr ⟨i, lb, rfl, e⟩) h3
    rw [← hb.hon i lb hi h1]
    exact (blw_nq (hb.pos _ e3) (hb.pos _ (List.getElem_mem lb))).mp this
omit hc in
/-- ends lie within honest values -/
theorem end1_ge {a : List Fr} (ha : Heard values lot a) {lo : Fr} {i0 : Nat} (hi0 : i0 < values.length) (h0 : (i0 : Int) ∉ lot) (e0 : values[i0] = lo) (hlo : ∀ (i : Nat) (h : i < values.length), (i : Int) ∉ lot → qv lo ≤ qv values[i]) : qv lo ≤ qv (end1 L a) := by
  have l0 : i0 < a.length := by rw [ha.len]; exact hi0
  have m0 : lo ∈ a := by rw [← e0, ← ha.hon i0 l0 hi0 h0]; exact List.getElem_mem l0
  refine end1_max ha.pos m0 ?_
  obtain ⟨l, hl, hl2⟩ := may_iff.mp hlot
  refine may_iff.mpr ⟨l, hl, inn_trans (inn_iff.mpr fun x hx => ?_) hl2⟩
  obtain ⟨i, hi, rfl, hb⟩ := mem_lessI.mp hx
  refine Classical.byContradiction fun hn => ?_
  have hi' : i < values.length := by rw [← ha.len]; exact hi
  have h1 := (blw_q (ha.pos _ (List.getElem_mem hi)) (ha.pos _ m0)).mp hb
  rw [ha.hon i hi hi' hn] at h1
  have := hlo i hi' hn
  grind
omit hc in
theorem end2_le {a : List Fr} (ha : Heard values lot a) {hi_ : Fr} {i0 : Nat} (hi0 : i0 < values.length) (h0 : (i0 : Int) ∉ lot) (e0 : values[i0] = hi_) (hhi : ∀ (i : Nat) (h : i < values.length), (i : Int) ∉ lot → qv values[i] ≤ qv hi_) : qv (end2 L a) ≤ qv hi_ := by
  have l0 : i0 < a.length := by rw [ha.len]; exact hi0
  have m0 : hi_ ∈ a := by rw [← e0, ← ha.hon i0 l0 hi0 h0]; exact List.getElem_mem l0
  refine end2_min ha.pos m0 ?_
  obtain ⟨l, hl, hl2⟩ := may_iff.mp hlot
  refine may_iff.mpr ⟨l, hl, inn_trans (inn_iff.mpr fun x hx => ?_) hl2⟩
  obtain ⟨i, hi, rfl, hb⟩ := mem_moreI.mp hx
  refine Classical.byContradiction fun hn => ?_
  have hi' : i < values.length := by rw [← ha.len]; exact hi
  have h1 := (blw_q (ha.pos _ m0) (ha.pos _ (List.getElem_mem hi))).mp hb
  rw [ha.hon i hi hi' hn] at h1
  have := hhi i hi' hn
  grind
end
end DL

namespace DL
open PySem

/-! ### how often a gap is halved -/
def hN (s : Rat) : Nat → Rat → Nat
  | 0, _ => 0
  | k + 1, g => if s < g then hN s k (g / 2) + 1 else 0
theorem hN_y {s g : Rat} {k : Nat} (h : s < g) : hN s (k + 1) g = hN s k (g / 2) + 1 := by rw [hN, if_pos h]
theorem hN_n {s g : Rat} {k : Nat} (h : ¬ s < g) : hN s k g = 0 := by
  cases k with
  | zero => rfl
  | succ k => rw [hN, if_neg h]
/-! ### what liars say -/
def unfr : D → Fr
  | .tuple [.int a, .int b] => (a, b)
  | _ => (0, 1)
theorem unfr_fr (f : Fr) : unfr (fr f) = f := rfl
def sayF (kvs : List (D × D)) (o h : Int) : Fr := unfr ((lookD kvs (.tuple [.int o, .int h])).getD (fr (0, 1)))
theorem sayF_ok {kvs : List (D × D)} {k : Nat} (hk : 1 ≤ k) (h : ∀ kv ∈ kvs, ∃ f, bf k f ∧ kv.2 = fr f) (o p : Int) : (lookD kvs (.tuple [.int o, .int p])).getD (fr (0, 1)) = fr (sayF kvs o p) ∧ bf k (sayF kvs o p) := by
  have h2 : ∃ f, bf k f ∧ (lookD kvs (.tuple [.int o, .int p])).getD (fr (0, 1)) = fr f := by
    unfold lookD
    cases e : kvs.find? fun kv => decide (nkey kv.1 = nkey (.tuple [.int o, .int p])) with
    | none => exact ⟨(0, 1), ⟨Nat.pow_pos (by decide), by decide, Nat.lt_of_lt_of_le (show 1 < 2 ^ 1 by decide) (Nat.pow_le_pow_right (by decide) hk)⟩, rfl⟩
    | some kv =>
      obtain ⟨f, h1, h2⟩ := h kv (List.mem_of_find?_eq_some e)
      exact ⟨f, h1, by simp [h2]⟩
  obtain ⟨f, h1, h2⟩ := h2
  unfold sayF
  rw [h2, unfr_fr]
  exact ⟨rfl, h1⟩
theorem put_vals {kvs : List (D × D)} {d e : D} {kv : D × D} (h : kv ∈ putD kvs d e) : kv.2 = e ∨ ∃ x ∈ kvs, x.2 = kv.2 := by
  unfold putD at h
  split at h
  · obtain ⟨x, hx, rfl⟩ := List.mem_map.mp h
    split
    · exact .inl rfl
    · exact .inr ⟨x, hx, rfl⟩
  · rcases List.mem_append.mp h with h | h
    · exact .inr ⟨kv, h, rfl⟩
    · simp at h; subst h; exact .inl rfl
theorem mk_vals {P : D → Prop} {ps : List (D × D)} (h : ∀ kv ∈ ps, P kv.2) : ∀ kv ∈ mkDict ps, P kv.2 := by
  have : ∀ (ps acc : List (D × D)), (∀ kv ∈ acc, P kv.2) → (∀ kv ∈ ps, P kv.2) → ∀ kv ∈ ps.foldl (fun acc kv => putD acc kv.1 kv.2) acc, P kv.2 := by
    intro ps
    induction ps with
    | nil => intro acc h _; exact h
    | cons x ps ih =>
      intro acc h1 h2
      refine ih _ (fun kv hkv => ?_) fun kv hkv => h2 kv (List.mem_cons_of_mem _ hkv)
      rcases put_vals hkv with e | ⟨y, hy, e⟩
      · rw [e]; exact h2 x (List.mem_cons_self ..)
      · rw [← e]; exact h1 y hy
  exact this ps [] (by simp) h
theorem key_2 (o p : Int) : keyOk (.tuple [.int o, .int p]) = true := by
  simp [keyOk, isTupD, nkey, nkeys, NestedKey.depth, NestedKey.depthAll]
/-- what a liar said to a house: of ways and fractions -/
def enL (p : (Int × Int) × Fr) : D := .tuple [fr p.1, fr p.2]
theorem pairs_L : ∀ ls : List ((Int × Int) × Fr), pairsD (ls.map enL) = some (ls.map fun p => (fr p.1, fr p.2))
  | [] => rfl
  | p :: ls => by
    show (if keyOk (fr p.1) = true then (pairsD (ls.map enL)).map ((fr p.1, fr p.2) :: ·) else none) = _
    rw [pairs_L ls, if_pos (show keyOk (fr p.1) = true from key_2 p.1.1 p.1.2)]; rfl
def kvsL (ls : List ((Int × Int) × Fr)) : List (D × D) := mkDict (ls.map fun p => (fr p.1, fr p.2))
theorem kvsL_bf {ls : List ((Int × Int) × Fr)} {k : Nat} (h : ∀ p ∈ ls, bf k p.2) : ∀ kv ∈ kvsL ls, ∃ f, bf k f ∧ kv.2 = fr f := mk_vals (P := fun d => ∃ f, bf k f ∧ d = fr f) fun kv hkv => by
  obtain ⟨p, hp, rfl⟩ := List.mem_map.mp hkv
  exact ⟨p.2, h p hp, rfl⟩
def toldF (kvs : List (D × D)) (values : List Fr) (lot : List Int) (h : Int) : List Fr := (List.range values.length).map fun (i : Nat) => if (i : Int) ∈ lot then sayF kvs i h else values[i]?.getD (0, 1)
def newF (L : List (List Int)) (kvs : List (D × D)) (values : List Fr) (lot : List Int) (h : Int) : Fr := midF (end1 L (toldF kvs values lot h)) (end2 L (toldF kvs values lot h))
def newD (L : List (List Int)) (kvs : List (D × D)) (values : List Fr) (lot : List Int) : List D := (List.range values.length).map fun (i : Nat) => if (i : Int) ∈ lot then .none else fr (newF L kvs values lot i)
theorem toldF_bf {kvs : List (D × D)} {values : List Fr} {lot : List Int} {k : Nat} (hk : 1 ≤ k) (h : ∀ kv ∈ kvs, ∃ f, bf k f ∧ kv.2 = fr f) (hv : ∀ f ∈ values, bf k f) (p : Int) : ∀ f ∈ toldF kvs values lot p, bf k f := by
  intro f hf
  obtain ⟨i, hi, rfl⟩ := List.mem_map.mp hf
  have hi := List.mem_range.mp hi
  split
  · exact (sayF_ok hk h _ _).2
  · rw [List.getElem?_eq_getElem hi]; exact hv _ (List.getElem_mem hi)
theorem toldF_len (kvs : List (D × D)) (values : List Fr) (lot : List Int) (p : Int) : (toldF kvs values lot p).length = values.length := by unfold toldF; simp
theorem toldF_heard {kvs : List (D × D)} {values : List Fr} {lot : List Int} {k : Nat} (hk : 1 ≤ k) (h : ∀ kv ∈ kvs, ∃ f, bf k f ∧ kv.2 = fr f) (hv : ∀ f ∈ values, bf k f) (p : Int) : Heard values lot (toldF kvs values lot p) where
  len := toldF_len ..
  pos := fun f hf => (toldF_bf hk h hv p f hf).2.1
  hon := fun i h1 h2 hn => by
    have e : (toldF kvs values lot p)[i]? = some values[i] := by
      unfold toldF
      rw [List.getElem?_map, List.getElem?_range h2]
      simp [hn, h2]
    rw [List.getElem?_eq_getElem h1] at e
    exact Option.some.inj e
/-- a call that lends its fourth place, of which nothing comes -/
theorem W_call4 {f : Fn} {ρ : En} {k : Nat} {a b c t : D} {s : S} {Q' : S → Prop} {Q : S × En → Prop} (h : R.W (f [.val a, .val b, .val c, .bor t]) fun r => Q' r.1 ∧ ∃ x y z rest, r.2 = x :: y :: z :: .bor t :: rest)
    (hs : gt ρ k = some s) (hm : s = .own t ∨ s = .bor t) (hq : ∀ v, Q' v → Q (v, st ρ k (s.wid t))) : R.W (callS 4 f ρ [.dv a, .dv b, .dv c, .at k]) Q := by
  have hmine : s.mine = some t := by rcases hm with rfl | rfl <;> rfl
  have e0 : argS ρ (.at k) = some (.bor t) := by
    show (match gt ρ k with
      | some (.val d) => some (S.val d)
      | some (.own d) => some (.bor d)
      | some (.bor d) => some (.bor d)
      | _ => none) = _
    rw [hs]
    rcases hm with rfl | rfl <;> rfl
  have e1 : argsS ρ [.dv a, .dv b, .dv c, .at k] = some [.val a, .val b, .val c, .bor t] := by
    show (some (S.val a)).bind (fun s => (((some (S.val b)).bind fun s => (((some (S.val c)).bind fun s => (((argS ρ (.at k)).bind fun s => (some []).map (s :: ·))).map (s :: ·))).map (s :: ·))).map (s :: ·)) = _
    rw [e0]; rfl
  unfold callS
  rw [e1, ofSome, bindOk, if_pos (show (decide ([P.dv a, .dv b, .dv c, .at k].filterMap atIx).Nodup && decide ([P.dv a, .dv b, .dv c, .at k].length = 4)) = true by
    have : [P.dv a, .dv b, .dv c, .at k].filterMap atIx = [k] := rfl
    rw [this]; simp), W_bind]
  refine h.mono fun r hr => ?_
  obtain ⟨h1, x, y, z, rest, h2⟩ := hr
  rw [W_ok, h2]
  have e2 : ∀ (i : Nat) (ρ : En), backS [.dv a, .dv b, .dv c, .at k] (x :: y :: z :: .bor t :: rest) i ρ = backS [.at k] (.bor t :: rest) i ρ := by
    intro i ρ
    induction ρ generalizing i with
    | nil => rfl
    | cons u ρ ih =>
      rw [backS, backS, ih]
      congr 1
  rw [e2]
  have e3 := backS_at k [] (.bor t) rest 0 ρ (Nat.zero_le _)
  rw [List.map_nil, Nat.sub_zero, hs] at e3
  rw [e3]
  simp only [hmine]
  exact hq r.1 h1
/-- a pair's parts -/
def waysL (m : Nat) : List (Int × Int) := (rgI m).flatMap fun a => ((rgI m).filter fun b => !decide (b = a)).map fun b => (a, b)
end DL
namespace DL
open PySem
def Sts.dr : Nat → Sts → Sts
  | 0, b => b
  | _ + 1, .nil => .nil
  | n + 1, .cons _ r => r.dr n
theorem pl_tI (l : List Int) : plD (tI l) = true := pl_map fun _ _ => pl_int _
theorem pl_tT (L : List (List Int)) : plD (tT L) = true := pl_map fun l _ => pl_tI l
theorem pl_fr (f : Fr) : plD (fr f) = true := pl_tup fun d hd => by
  simp at hd
  rcases hd with rfl | rfl <;> exact pl_int _
theorem dp_fr (f : Fr) : (fr f).depth ≤ 1 := dp_tup (k := 0) fun d hd => by
  simp at hd
  rcases hd with rfl | rfl <;> simp [PyData.depth]
theorem dp_tI (l : List Int) : (tI l).depth ≤ 1 := dp_map fun _ _ => by simp [PyData.depth]
theorem dp_tT (L : List (List Int)) : (tT L).depth ≤ 2 := dp_map fun l _ => dp_tI l
theorem pl_cov (o : Option (List (List Int))) : plD (covD o) = true := by cases o <;> simp [covD, pl_none, pl_tT]
theorem dp_cov (o : Option (List (List Int))) : (covD o).depth ≤ 2 := by
  cases o with
  | none => simp [covD, PyData.depth]
  | some L => exact dp_tT L
theorem isn_cov (o : Option (List (List Int))) : cmpD .Is (covD o) .none = some (.val (.bool o.isNone)) := by cases o <;> rfl
theorem pl_new (L : List (List Int)) (kvs : List (D × D)) (values : List Fr) (lot : List Int) : plD (.tuple (newD L kvs values lot)) = true := pl_map fun i _ => by
  split
  · exact pl_none
  · exact pl_fr _
theorem dp_new (L : List (List Int)) (kvs : List (D × D)) (values : List Fr) (lot : List Int) : (PyData.tuple (newD L kvs values lot)).depth ≤ 2 := dp_map fun i _ => by
  split
  · simp [PyData.depth]
  · exact dp_fr _
end DL

namespace DL
open PySem
def apF (x : Fr) (xs : List Fr) : Fr := lowF ((mostF x xs).1 * (leastF x xs).2 - (leastF x xs).1 * (mostF x xs).2) ((mostF x xs).2 * (leastF x xs).2)
theorem q_ap {x : Fr} {xs : List Fr} (h : ∀ f ∈ x :: xs, 0 < f.2) : qv (apF x xs) = qv (mostF x xs) - qv (leastF x xs) := by
  have h1 := h _ (mostF_mem xs x)
  have h2 := h _ (leastF_mem xs x)
  unfold apF
  rw [q_low (Int.mul_pos h1 h2)]
  generalize mostF x xs = f at *
  generalize leastF x xs = g at *
  unfold qv
  have h1 := castp h1
  have h2 := castp h2
  simp only [Rat.intCast_mul, Rat.intCast_sub]
  grind
theorem ap_bf {x : Fr} {xs : List Fr} {k : Nat} (h : ∀ f ∈ x :: xs, bf k f) : bf (2 * k + 1) (apF x xs) := by
  have b1 := h _ (mostF_mem xs x)
  have b2 := h _ (leastF_mem xs x)
  unfold apF
  have a1 := mul_lt b1.1 b2.2.2
  have a2 := mul_lt b2.1 b1.2.2
  have a3 := mul_lt b1.2.2 b2.2.2
  have e : 2 ^ (2 * k + 1) = 2 ^ (k + k) * 2 := by rw [← Nat.pow_succ]; congr 1; omega
  exact lowF_bf (by omega) (Int.mul_pos b1.2.1 b2.2.1) (by omega)
section
variable {L : List (List Int)} {kvs : List (D × D)} {values : List Fr} {lot : List Int}
def vF (values : List Fr) (h : Int) : Fr := values[h.toNat]?.getD (0, 1)
theorem round_law (hL : L ≠ []) (hc : covL L (rgI values.length) 3 = none) (hlot : mayB L lot = true) (hm : values ≠ []) (hkv : ∀ kv ∈ kvs, ∃ f, bf 900 f ∧ kv.2 = fr f) (hv : ∀ f ∈ values, bf 900 f)
    {x y : Fr} {xs ys : List Fr} (e1 : x :: xs = ((rgI values.length).filter fun h => !decide (h ∈ lot)).map (vF values)) (e2 : y :: ys = ((rgI values.length).filter fun h => !decide (h ∈ lot)).map (newF L kvs values lot)) (hy : ∀ f ∈ y :: ys, 0 < f.2) :
    blw (mostF x xs) (mostF y ys) = false ∧ blw (leastF y ys) (leastF x xs) = false ∧ blw (apF x xs) (2 * (apF y ys).1, (apF y ys).2) = false := by
  have hvp : ∀ f ∈ values, 0 < f.2 := fun f hf => (hv f hf).2.1
  -- honest houses and their values
  have hon : ∀ f ∈ x :: xs, ∃ i : Nat, ∃ h : i < values.length, (i : Int) ∉ lot ∧ f = values[i] := by
    intro f hf
    rw [e1] at hf
    obtain ⟨h, hh, rfl⟩ := List.mem_map.mp hf
    obtain ⟨h1, h2⟩ := List.mem_filter.mp hh
    have h1 := mem_rgI.mp h1
    have hl : h.toNat < values.length := by omega
    refine ⟨h.toNat, hl, ?_, ?_⟩
    · rw [Int.toNat_of_nonneg h1.1]; simpa using h2
    · unfold vF; rw [List.getElem?_eq_getElem hl]; rfl
  have hon2 : ∀ (i : Nat) (h : i < values.length), (i : Int) ∉ lot → values[i] ∈ x :: xs := by
    intro i h hn
    rw [e1]
    refine List.mem_map.mpr ⟨(i : Int), List.mem_filter.mpr ⟨mem_rgI.mpr (by omega), by simpa using hn⟩, ?_⟩
    unfold vF
    simp [h]
  have hx : ∀ f ∈ x :: xs, 0 < f.2 := fun f hf => by
    obtain ⟨i, h, _, rfl⟩ := hon f hf
    exact hvp _ (List.getElem_mem h)
  have qM := q_most xs x hx
  have qm := q_least xs x hx
  obtain ⟨i1, l1, n1, E1⟩ := hon _ (mostF_mem xs x)
  obtain ⟨i0, l0, n0, E0⟩ := hon _ (leastF_mem xs x)
  have heard : ∀ h : Int, Heard values lot (toldF kvs values lot h) := fun h => toldF_heard (by decide) hkv hv h
  have new : ∀ f ∈ y :: ys, ∃ h : Int, f = newF L kvs values lot h := fun f hf => by
    rw [e2] at hf
    obtain ⟨h, _, rfl⟩ := List.mem_map.mp hf
    exact ⟨h, rfl⟩
  -- ends
  have lo1 : ∀ h, qv (leastF x xs) ≤ qv (end1 L (toldF kvs values lot h)) := fun h => end1_ge hlot (heard h) l0 n0 E0.symm fun i hi hn => qm _ (hon2 i hi hn)
  have hi2 : ∀ h, qv (end2 L (toldF kvs values lot h)) ≤ qv (mostF x xs) := fun h => end2_le hlot (heard h) l1 n1 E1.symm fun i hi hn => qM _ (hon2 i hi hn)
  have cross : ∀ a b, qv (end1 L (toldF kvs values lot a)) ≤ qv (end2 L (toldF kvs values lot b)) ∧ qv (end1 L (toldF kvs values lot a)) ≤ qv (mostF x xs) ∧ qv (leastF x xs) ≤ qv (end2 L (toldF kvs values lot b)) := fun a b => by
    obtain ⟨i, hi, hn, h1, h2⟩ := ends_cross hc hlot hL (heard a) (heard b) hm
    have h3 := qM _ (hon2 i hi hn)
    have h4 := qm _ (hon2 i hi hn)
    exact ⟨by grind, by grind, by grind⟩
  have tne : ∀ h, toldF kvs values lot h ≠ [] := fun h z => by
    have := toldF_len kvs values lot h
    rw [z] at this
    exact hm (List.eq_nil_of_length_eq_zero this.symm)
  have pe1 : ∀ h, 0 < (end1 L (toldF kvs values lot h)).2 := fun h => (heard h).pos _ (end1_in (lows_ne hL (tne h) (heard h).pos)).1
  have pe2 : ∀ h, 0 < (end2 L (toldF kvs values lot h)).2 := fun h => (heard h).pos _ (end2_in (highs_ne hL (tne h) (heard h).pos)).1
  have qn : ∀ h, qv (newF L kvs values lot h) = (qv (end1 L (toldF kvs values lot h)) + qv (end2 L (toldF kvs values lot h))) / 2 := fun h => q_mid (pe1 h) (pe2 h)
  obtain ⟨ha, Ea⟩ := new _ (mostF_mem ys y)
  obtain ⟨hb, Eb⟩ := new _ (leastF_mem ys y)
  have px := hx _ (mostF_mem xs x)
  have px' := hx _ (leastF_mem xs x)
  have py := hy _ (mostF_mem ys y)
  have py' := hy _ (leastF_mem ys y)
  have qa := qn ha
  have qb := qn hb
  rw [← Ea] at qa
  rw [← Eb] at qb
  have c1 := cross ha ha
  have c2 := cross hb hb
  have c3 := cross ha hb
  have d1 := lo1 hb
  have d2 := hi2 ha
  have d3 := lo1 ha
  have d4 := hi2 hb
  refine ⟨(blw_nq px py).mpr (by grind), (blw_nq py' px').mpr (by grind), ?_⟩
  have pa : 0 < (apF x xs).2 := by
    have := ap_bf (x := x) (xs := xs) (k := 900) (fun f hf => by
      obtain ⟨i, h, _, rfl⟩ := hon f hf
      exact hv _ (List.getElem_mem h))
    exact this.2.1
  have pb : 0 < (apF y ys).2 := by
    unfold apF lowF
    have h1 := Int.mul_pos py py'
    exact Int.ediv_pos_of_pos_of_dvd h1 (by have := gcd_pos (a := ((mostF y ys).1 * (leastF y ys).2 - (leastF y ys).1 * (mostF y ys).2)) h1; omega) (Int.gcd_dvd_right ..)
  refine (blw_nq pa (show 0 < ((2 * (apF y ys).1, (apF y ys).2) : Fr).2 from pb)).mpr ?_
  have e3 : qv ((2 * (apF y ys).1, (apF y ys).2) : Fr) = 2 * qv (apF y ys) := by
    unfold qv
    simp only [Rat.intCast_mul, Rat.intCast_ofNat]
    have := castp pb
    grind
  rw [e3, q_ap hx, q_ap hy]
  grind
end
end DL

namespace DL
open PySem PySem.Spec PyProof.Rows L2

/-! ### from the head's facts to the layer -/
def defD (d : Df) (st : Stmt) : He.DefD := ⟨(d.name, none), d.name, d.name, dArgs st, dBody st, dScope st, [], []⟩
/-- binding, by the places told and the names told -/
def BindEq (d : Df) (st : Stmt) : Prop := ∀ (kV doc pm : Value) (an : Option Addr) (cdv ct : Value) (us ws : List Value), (us ++ ws).length = d.ps.length →
  bindArgs (PySem.W.fnOf d.name d.name (dArgs st) (dBody st) (dScope st) .none kV doc pm an cdv ct) ⟨us, (d.ps.drop us.length).zip ws⟩ = pure (d.ps.zip (us ++ ws))
section
variable {P : Program} {w : World} {K : PySem.W.Frag} {mg : Str → Option Value} {base h : Heap} {fa : List He.Fa} {fn : List He.DefD}
theorem lies_of (X : K.In h) (G : h.Ns mainGlobals mg) (c : He.SaysD fa fn K) {d : Df} {st : Stmt} (i j : Nat) (hi : fn[i]? = some (defD d st)) (hj : fa[j]? = some (.glo d.name)) (hb : BindEq d st) : Lies K mg d st := by
  obtain ⟨fd, F⟩ := c.def_ i hi
  obtain ⟨oc, od, dV, kV, doc, pm, an, cdv, ct, osl, rfl, lk, hcd, hD, hK⟩ := F.ex
  rcases hD with ⟨_, rfl⟩ | ⟨e, _⟩
  · exact ⟨_, oc, od, .none, kV, doc, pm, an, cdv, ct, osl, lk, hcd, He.glo_ok X G (c.fact j hj), F.kp, fun s us ws _ hl => .of_eq (hb kV doc pm an cdv ct us ws hl)⟩
  · exact absurd rfl e
theorem law_fd {D : List Df} {bl : List Str} (hb : ∀ x ∈ bl, mg x = none) (hD : ∀ (i : Nat) (d : Df), D[i]? = some d → ∃ st, d.chk bl (tabOf D) st = true ∧ Lies K mg d st) {i : Nat} {d : Df} {st : Stmt} {f : Addr} {fd : FuncData} (n : Nat) (hi : D[i]? = some d) (hc : d.chk bl (tabOf D) st = true)
    (F : FunD K d.name d.name (dArgs st) (dBody st) (dScope st) [] [] f fd) : FnOk P w K mg base CX0 (n + 1) f fd d.ps (spD w K d.ps.length (fns D (n + 1) i)) := by
  obtain ⟨oc, od, dV, kV, doc, pm, an, cdv, ct, osl, rfl, lk, hcd, _, _⟩ := F.ex
  exact fn_at hb (fun j e => level hb hD n j e) hi hc lk hcd
end
/-- each def of a list by its place -/
theorem all_defs {α : Type} {p : Nat → α → Prop} : ∀ {l : List α} (k : Nat), (∀ i a, l[i]? = some a → p (i + k) a) → ∀ i a, l[i]? = some a → p (i + k) a := fun _ h => h
end DL

namespace DL
open PySem
local macro_rules | `(tactic| simp_arith) => `(tactic| simp only [bindOk, bindExc, bindStuck, bindIte, ofSome, ofNone, W_ok, W_bind, W_ite, gt0, gtS, st0, stS, wp_nil, wp_cons, thn_nx_, thn_bk_, thn_ct_, thn_rt_, sts_nil_, sts_cons_, st_set_, st_asg_, st_aug_, st_ex_, st_ret_, st_retv_, st_retn_, st_ite_, st_wh_, st_for_, st_pass_, st_brk_, st_cnt_, st_par2_, st_par3_, st_setIx_, ex_c_, ex_v_, pg_at_, pg_dv_, out_val_, out_own_, ex_bin_, ex_cmp_, ex_ix_, ex_neg_, ex_nt_, ex_bo1_, ex_bo_, ex_ite_, exl_nil_, exl_cons_, ex_tup_, ex_lst_, pgs_nil_, pgs_cons_, ops_nil_, ops_cons_, ex_bi_, ex_isa_, ex_call_, ex_callK_, ex_app_, ex_ext_, myL_gt_, ex_pop_, ex_rl1_, ex_rl2_, ex_sset_, ex_dctL_, ex_dctT_, ex_dget_, op_at_, op_ex_, te_e_, te_at_, te_cmp_, te_nt_, te_bo1_, te_bo_, ifs_nil_, ifs_one_, it_seq_, it_enum_, it_rev_, it_zip_, it_rng_, ops_len0, ops_lenS, ex_sl_, pt_no_, pt_so_, optI_none_, optI_dv_, optI_at_, tg_nm_, tg_tup_, tgs_nil_, tgs_cons_, tgs_len0, tgs_lenS, call_0, call_1, call_2, call_3, call_4, call_5, call_6, rtv_rt, rtv_nx, lcS, lp_nx, lp_ct, lp_bk, lp_rt, full_val, full_own, full_bor, data_val, data_ownL, data_borL, shr_val, shr_ownL, shr_ownT, mine_own, mine_bor, wid_own, wid_bor, isD_list, isD_tup, isD_int, isD_bool, isD_none, isD_str, isD_dict, con_int, con_bool, con_none, con_str, o_add, o_sub, neg_int, okD_int, okD_bool, okD_none, c_lt, c_le, c_gt, c_ge, c_eq, c_ne, is_non, isn_non, is_bool, bu_lenT, bu_lenL, bu_abs, bu_int, bu_tupL, bu_tupT, bu_tupN, bu_lstL, bu_lstT, bu_max2, bu_min2, t_none, t_bool, t_int, t_list, t_tup, i_list, i_tup, x_list, x_tup, at_0, at_1, at_2, at_3, isa_def, notDict, numb_map, zip_map, z2_L, z2_T, dvs_nil, dvs_cons, List.length_map, List.length_cons, List.length_nil, List.map_cons, List.map_nil, List.replicate_zero, List.replicate_succ, List.cons_append, List.nil_append, List.append_nil, Option.bind_some, Option.map_some, Option.bind_none, Option.map_none, decide_eq_true_eq, decide_eq_false_iff_not, Bool.not_eq_true', Bool.false_eq_true, Bool.true_eq_false, Bool.not_true, Bool.not_false, if_true, if_false, Nat.reduceAdd, Nat.reduceSub, Nat.reduceLeDiff, Nat.reduceLT, Int.reduceLT, Int.reduceLE, Int.reduceEq, Int.reduceNe, Int.reduceAdd, Int.reduceSub, Int.reduceMul, Int.reduceToNat, Int.reducePow, Int.reduceNeg, Nat.reduceEqDiff, Option.toList_some, Option.toList_none, Option.some.injEq, true_and, and_true, and_self, eq_self, implies_true, not_true_eq_false, not_false_eq_true, ixn_0, ixn_1, ixn_2, List.set_cons_zero, List.set_cons_succ, c_eqB, decide_true, decide_false, sz_0, sz_1, sz_2, sz_3, sz_4, sz_5, sz_6, sz_7, sz_8, sz_9, sz_10, sz_11, sz_12, lst_tT, tup_tT, len_tT, len_tI, it_tT, it_tI, in_tI, nin_tI, isD_tI, isD_tT, ↓reduceIte, reduceCtorEq])
local macro_rules | `(tactic| simp_arith [$as,*]) => `(tactic| simp only [bindOk, bindExc, bindStuck, bindIte, ofSome, ofNone, W_ok, W_bind, W_ite, gt0, gtS, st0, stS, wp_nil, wp_cons, thn_nx_, thn_bk_, thn_ct_, thn_rt_, sts_nil_, sts_cons_, st_set_, st_asg_, st_aug_, st_ex_, st_ret_, st_retv_, st_retn_, st_ite_, st_wh_, st_for_, st_pass_, st_brk_, st_cnt_, st_par2_, st_par3_, st_setIx_, ex_c_, ex_v_, pg_at_, pg_dv_, out_val_, out_own_, ex_bin_, ex_cmp_, ex_ix_, ex_neg_, ex_nt_, ex_bo1_, ex_bo_, ex_ite_, exl_nil_, exl_cons_, ex_tup_, ex_lst_, pgs_nil_, pgs_cons_, ops_nil_, ops_cons_, ex_bi_, ex_isa_, ex_call_, ex_callK_, ex_app_, ex_ext_, myL_gt_, ex_pop_, ex_rl1_, ex_rl2_, ex_sset_, ex_dctL_, ex_dctT_, ex_dget_, op_at_, op_ex_, te_e_, te_at_, te_cmp_, te_nt_, te_bo1_, te_bo_, ifs_nil_, ifs_one_, it_seq_, it_enum_, it_rev_, it_zip_, it_rng_, ops_len0, ops_lenS, ex_sl_, pt_no_, pt_so_, optI_none_, optI_dv_, optI_at_, tg_nm_, tg_tup_, tgs_nil_, tgs_cons_, tgs_len0, tgs_lenS, call_0, call_1, call_2, call_3, call_4, call_5, call_6, rtv_rt, rtv_nx, lcS, lp_nx, lp_ct, lp_bk, lp_rt, full_val, full_own, full_bor, data_val, data_ownL, data_borL, shr_val, shr_ownL, shr_ownT, mine_own, mine_bor, wid_own, wid_bor, isD_list, isD_tup, isD_int, isD_bool, isD_none, isD_str, isD_dict, con_int, con_bool, con_none, con_str, o_add, o_sub, neg_int, okD_int, okD_bool, okD_none, c_lt, c_le, c_gt, c_ge, c_eq, c_ne, is_non, isn_non, is_bool, bu_lenT, bu_lenL, bu_abs, bu_int, bu_tupL, bu_tupT, bu_tupN, bu_lstL, bu_lstT, bu_max2, bu_min2, t_none, t_bool, t_int, t_list, t_tup, i_list, i_tup, x_list, x_tup, at_0, at_1, at_2, at_3, isa_def, notDict, numb_map, zip_map, z2_L, z2_T, dvs_nil, dvs_cons, List.length_map, List.length_cons, List.length_nil, List.map_cons, List.map_nil, List.replicate_zero, List.replicate_succ, List.cons_append, List.nil_append, List.append_nil, Option.bind_some, Option.map_some, Option.bind_none, Option.map_none, decide_eq_true_eq, decide_eq_false_iff_not, Bool.not_eq_true', Bool.false_eq_true, Bool.true_eq_false, Bool.not_true, Bool.not_false, if_true, if_false, Nat.reduceAdd, Nat.reduceSub, Nat.reduceLeDiff, Nat.reduceLT, Int.reduceLT, Int.reduceLE, Int.reduceEq, Int.reduceNe, Int.reduceAdd, Int.reduceSub, Int.reduceMul, Int.reduceToNat, Int.reducePow, Int.reduceNeg, Nat.reduceEqDiff, Option.toList_some, Option.toList_none, Option.some.injEq, true_and, and_true, and_self, eq_self, implies_true, not_true_eq_false, not_false_eq_true, ixn_0, ixn_1, ixn_2, List.set_cons_zero, List.set_cons_succ, c_eqB, decide_true, decide_false, sz_0, sz_1, sz_2, sz_3, sz_4, sz_5, sz_6, sz_7, sz_8, sz_9, sz_10, sz_11, sz_12, lst_tT, tup_tT, len_tT, len_tI, it_tT, it_tI, in_tI, nin_tI, isD_tI, isD_tT, ↓reduceIte, reduceCtorEq, $as,*])
local macro_rules | `(tactic| simp_arith at $h) => `(tactic| simp only [bindOk, bindExc, bindStuck, bindIte, ofSome, ofNone, W_ok, W_bind, W_ite, gt0, gtS, st0, stS, wp_nil, wp_cons, thn_nx_, thn_bk_, thn_ct_, thn_rt_, sts_nil_, sts_cons_, st_set_, st_asg_, st_aug_, st_ex_, st_ret_, st_retv_, st_retn_, st_ite_, st_wh_, st_for_, st_pass_, st_brk_, st_cnt_, st_par2_, st_par3_, st_setIx_, ex_c_, ex_v_, pg_at_, pg_dv_, out_val_, out_own_, ex_bin_, ex_cmp_, ex_ix_, ex_neg_, ex_nt_, ex_bo1_, ex_bo_, ex_ite_, exl_nil_, exl_cons_, ex_tup_, ex_lst_, pgs_nil_, pgs_cons_, ops_nil_, ops_cons_, ex_bi_, ex_isa_, ex_call_, ex_callK_, ex_app_, ex_ext_, myL_gt_, ex_pop_, ex_rl1_, ex_rl2_, ex_sset_, ex_dctL_, ex_dctT_, ex_dget_, op_at_, op_ex_, te_e_, te_at_, te_cmp_, te_nt_, te_bo1_, te_bo_, ifs_nil_, ifs_one_, it_seq_, it_enum_, it_rev_, it_zip_, it_rng_, ops_len0, ops_lenS, ex_sl_, pt_no_, pt_so_, optI_none_, optI_dv_, optI_at_, tg_nm_, tg_tup_, tgs_nil_, tgs_cons_, tgs_len0, tgs_lenS, call_0, call_1, call_2, call_3, call_4, call_5, call_6, rtv_rt, rtv_nx, lcS, lp_nx, lp_ct, lp_bk, lp_rt, full_val, full_own, full_bor, data_val, data_ownL, data_borL, shr_val, shr_ownL, shr_ownT, mine_own, mine_bor, wid_own, wid_bor, isD_list, isD_tup, isD_int, isD_bool, isD_none, isD_str, isD_dict, con_int, con_bool, con_none, con_str, o_add, o_sub, neg_int, okD_int, okD_bool, okD_none, c_lt, c_le, c_gt, c_ge, c_eq, c_ne, is_non, isn_non, is_bool, bu_lenT, bu_lenL, bu_abs, bu_int, bu_tupL, bu_tupT, bu_tupN, bu_lstL, bu_lstT, bu_max2, bu_min2, t_none, t_bool, t_int, t_list, t_tup, i_list, i_tup, x_list, x_tup, at_0, at_1, at_2, at_3, isa_def, notDict, numb_map, zip_map, z2_L, z2_T, dvs_nil, dvs_cons, List.length_map, List.length_cons, List.length_nil, List.map_cons, List.map_nil, List.replicate_zero, List.replicate_succ, List.cons_append, List.nil_append, List.append_nil, Option.bind_some, Option.map_some, Option.bind_none, Option.map_none, decide_eq_true_eq, decide_eq_false_iff_not, Bool.not_eq_true', Bool.false_eq_true, Bool.true_eq_false, Bool.not_true, Bool.not_false, if_true, if_false, Nat.reduceAdd, Nat.reduceSub, Nat.reduceLeDiff, Nat.reduceLT, Int.reduceLT, Int.reduceLE, Int.reduceEq, Int.reduceNe, Int.reduceAdd, Int.reduceSub, Int.reduceMul, Int.reduceToNat, Int.reducePow, Int.reduceNeg, Nat.reduceEqDiff, Option.toList_some, Option.toList_none, Option.some.injEq, true_and, and_true, and_self, eq_self, implies_true, not_true_eq_false, not_false_eq_true, ixn_0, ixn_1, ixn_2, List.set_cons_zero, List.set_cons_succ, c_eqB, decide_true, decide_false, sz_0, sz_1, sz_2, sz_3, sz_4, sz_5, sz_6, sz_7, sz_8, sz_9, sz_10, sz_11, sz_12, lst_tT, tup_tT, len_tT, len_tI, it_tT, it_tI, in_tI, nin_tI, isD_tI, isD_tT, ↓reduceIte, reduceCtorEq] at $h)
local macro_rules | `(tactic| simp_arith [$as,*] at $h) => `(tactic| simp only [bindOk, bindExc, bindStuck, bindIte, ofSome, ofNone, W_ok, W_bind, W_ite, gt0, gtS, st0, stS, wp_nil, wp_cons, thn_nx_, thn_bk_, thn_ct_, thn_rt_, sts_nil_, sts_cons_, st_set_, st_asg_, st_aug_, st_ex_, st_ret_, st_retv_, st_retn_, st_ite_, st_wh_, st_for_, st_pass_, st_brk_, st_cnt_, st_par2_, st_par3_, st_setIx_, ex_c_, ex_v_, pg_at_, pg_dv_, out_val_, out_own_, ex_bin_, ex_cmp_, ex_ix_, ex_neg_, ex_nt_, ex_bo1_, ex_bo_, ex_ite_, exl_nil_, exl_cons_, ex_tup_, ex_lst_, pgs_nil_, pgs_cons_, ops_nil_, ops_cons_, ex_bi_, ex_isa_, ex_call_, ex_callK_, ex_app_, ex_ext_, myL_gt_, ex_pop_, ex_rl1_, ex_rl2_, ex_sset_, ex_dctL_, ex_dctT_, ex_dget_, op_at_, op_ex_, te_e_, te_at_, te_cmp_, te_nt_, te_bo1_, te_bo_, ifs_nil_, ifs_one_, it_seq_, it_enum_, it_rev_, it_zip_, it_rng_, ops_len0, ops_lenS, ex_sl_, pt_no_, pt_so_, optI_none_, optI_dv_, optI_at_, tg_nm_, tg_tup_, tgs_nil_, tgs_cons_, tgs_len0, tgs_lenS, call_0, call_1, call_2, call_3, call_4, call_5, call_6, rtv_rt, rtv_nx, lcS, lp_nx, lp_ct, lp_bk, lp_rt, full_val, full_own, full_bor, data_val, data_ownL, data_borL, shr_val, shr_ownL, shr_ownT, mine_own, mine_bor, wid_own, wid_bor, isD_list, isD_tup, isD_int, isD_bool, isD_none, isD_str, isD_dict, con_int, con_bool, con_none, con_str, o_add, o_sub, neg_int, okD_int, okD_bool, okD_none, c_lt, c_le, c_gt, c_ge, c_eq, c_ne, is_non, isn_non, is_bool, bu_lenT, bu_lenL, bu_abs, bu_int, bu_tupL, bu_tupT, bu_tupN, bu_lstL, bu_lstT, bu_max2, bu_min2, t_none, t_bool, t_int, t_list, t_tup, i_list, i_tup, x_list, x_tup, at_0, at_1, at_2, at_3, isa_def, notDict, numb_map, zip_map, z2_L, z2_T, dvs_nil, dvs_cons, List.length_map, List.length_cons, List.length_nil, List.map_cons, List.map_nil, List.replicate_zero, List.replicate_succ, List.cons_append, List.nil_append, List.append_nil, Option.bind_some, Option.map_some, Option.bind_none, Option.map_none, decide_eq_true_eq, decide_eq_false_iff_not, Bool.not_eq_true', Bool.false_eq_true, Bool.true_eq_false, Bool.not_true, Bool.not_false, if_true, if_false, Nat.reduceAdd, Nat.reduceSub, Nat.reduceLeDiff, Nat.reduceLT, Int.reduceLT, Int.reduceLE, Int.reduceEq, Int.reduceNe, Int.reduceAdd, Int.reduceSub, Int.reduceMul, Int.reduceToNat, Int.reducePow, Int.reduceNeg, Nat.reduceEqDiff, Option.toList_some, Option.toList_none, Option.some.injEq, true_and, and_true, and_self, eq_self, implies_true, not_true_eq_false, not_false_eq_true, ixn_0, ixn_1, ixn_2, List.set_cons_zero, List.set_cons_succ, c_eqB, decide_true, decide_false, sz_0, sz_1, sz_2, sz_3, sz_4, sz_5, sz_6, sz_7, sz_8, sz_9, sz_10, sz_11, sz_12, lst_tT, tup_tT, len_tT, len_tI, it_tT, it_tI, in_tI, nin_tI, isD_tI, isD_tT, ↓reduceIte, reduceCtorEq, $as,*] at $h)
/-- 0 is_within(one, two) -/
def d_is_within : Df := ⟨"is_within", ["one", "two"], ["one", "two", "house"],
  (.cons (.ret (.bi .all (.cons (.ex (.lc (.seq (.v 0)) (.nm 2) [("house", 2)] .nil (.cmp .In (.at 2) (.at 1)))) .nil))) .nil)⟩
/-- 1 put_together(one, two) -/
def d_put_together : Df := ⟨"put_together", ["one", "two"], ["one", "two"],
  (.cons (.ret (.bi .tuple (.cons (.ex (.sun (.at 0) (.at 1))) .nil))) .nil)⟩
/-- 2 may_lie(liars, lot) -/
def d_may_lie : Df := ⟨"may_lie", ["liars", "lot"], ["liars", "lot", "one"],
  (.cons (.ret (.bi .any (.cons (.ex (.lc (.seq (.v 0)) (.nm 2) [("one", 2)] .nil (.call 0 (.cons (.ex (.v 1)) (.cons (.ex (.v 2)) .nil))))) .nil))) .nil)⟩
/-- 3 next_places(places, many) -/
def d_next_places : Df := ⟨"next_places", ["places", "many"], ["places", "many", "at"],
  (.cons (.for (.rng (.cons (.ex (.bin .Sub (.ex (.bi .len (.cons (.at 0) .nil))) (.ex (.c (.int 1))))) (.cons (.ex (.bin .Sub (.ex (.c (.int 0))) (.ex (.c (.int 1))))) (.cons (.ex (.bin .Sub (.ex (.c (.int 0))) (.ex (.c (.int 1))))) .nil)))) (.nm 2) (.cons (.ite (.cmp .Lt (.ex (.bin .Add (.ex (.ix (.at 0) (.at 2))) (.ex (.c (.int 1))))) (.at 1)) (.cons (.ret (.bin .Add (.ex (.sl (.at 0) .no (.so (.at 2)))) (.ex (.bin .Mult (.ex (.tup (.cons (.bin .Add (.ex (.ix (.at 0) (.at 2))) (.ex (.c (.int 1)))) .nil))) (.ex (.bin .Sub (.ex (.bi .len (.cons (.at 0) .nil))) (.at 2))))))) .nil) .nil) .nil)) (.cons (.ret (.c .none)) .nil))⟩
/-- 4 held_by(liars, places) -/
def d_held_by : Df := ⟨"held_by", ["liars", "places"], ["liars", "places", "held", "place"],
  (.cons (.set 2 (.tup .nil)) (.cons (.for (.seq (.v 1)) (.nm 3) (.cons (.set 2 (.call 1 (.cons (.ex (.v 2)) (.cons (.ex (.ix (.at 0) (.at 3))) .nil)))) .nil)) (.cons (.retv 2) .nil)))⟩
/-- 5 cover_of(liars, lot, count) -/
def d_cover_of : Df := ⟨"cover_of", ["liars", "lot", "count"], ["liars", "lot", "count", "places", "place"],
  (.cons (.set 3 (.bin .Mult (.ex (.tup (.cons (.c (.int 0)) .nil))) (.at 2))) (.cons (.wh (.cmp .IsNot (.at 3) (.ex (.c .none))) (.cons (.ite (.e (.call 0 (.cons (.ex (.v 1)) (.cons (.ex (.call 4 (.cons (.ex (.v 0)) (.cons (.ex (.v 3)) .nil)))) .nil)))) (.cons (.ret (.bi .tuple (.cons (.ex (.lc (.seq (.v 3)) (.nm 4) [("place", 4)] .nil (.ix (.at 0) (.at 4)))) .nil))) .nil) .nil) (.cons (.set 3 (.call 3 (.cons (.ex (.v 3)) (.cons (.ex (.bi .len (.cons (.at 0) .nil))) .nil)))) .nil))) (.cons (.ret (.c .none)) .nil)))⟩
/-- 6 common_part(one, two) -/
def d_common_part : Df := ⟨"common_part", ["one", "two"], ["one", "two"],
  (.cons (.wh (.cmp .Gt (.at 1) (.ex (.c (.int 0)))) (.cons (.par [0, 1] (.cons (.v 1) (.cons (.bin .Mod (.at 0) (.at 1)) .nil))) .nil)) (.cons (.retv 0) .nil))⟩
/-- 7 fraction_of(above, beneath) -/
def d_fraction_of : Df := ⟨"fraction_of", ["above", "beneath"], ["above", "beneath", "part"],
  (.cons (.set 2 (.call 6 (.cons (.ex (.bi .abs (.cons (.at 0) .nil))) (.cons (.ex (.v 1)) .nil)))) (.cons (.ret (.tup (.cons (.bin .FloorDiv (.at 0) (.at 2)) (.cons (.bin .FloorDiv (.at 1) (.at 2)) .nil)))) .nil))⟩
/-- 8 is_less(one, two) -/
def d_is_less : Df := ⟨"is_less", ["one", "two"], ["one", "two"],
  (.cons (.ret (.cmp .Lt (.ex (.bin .Mult (.ex (.ix (.at 0) (.ex (.c (.int 0))))) (.ex (.ix (.at 1) (.ex (.c (.int 1))))))) (.ex (.bin .Mult (.ex (.ix (.at 1) (.ex (.c (.int 0))))) (.ex (.ix (.at 0) (.ex (.c (.int 1))))))))) .nil)⟩
/-- 9 middle(one, two) -/
def d_middle : Df := ⟨"middle", ["one", "two"], ["one", "two"],
  (.cons (.ret (.call 7 (.cons (.ex (.bin .Add (.ex (.bin .Mult (.ex (.ix (.at 0) (.ex (.c (.int 0))))) (.ex (.ix (.at 1) (.ex (.c (.int 1))))))) (.ex (.bin .Mult (.ex (.ix (.at 1) (.ex (.c (.int 0))))) (.ex (.ix (.at 0) (.ex (.c (.int 1))))))))) (.cons (.ex (.bin .Mult (.ex (.bin .Mult (.ex (.c (.int 2))) (.ex (.ix (.at 0) (.ex (.c (.int 1))))))) (.ex (.ix (.at 1) (.ex (.c (.int 1))))))) .nil)))) .nil)⟩
/-- 10 least_of(some) -/
def d_least_of : Df := ⟨"least_of", ["some"], ["some", "best", "one"],
  (.cons (.set 1 (.ix (.at 0) (.ex (.c (.int 0))))) (.cons (.for (.seq (.v 0)) (.nm 2) (.cons (.ite (.e (.call 8 (.cons (.ex (.v 2)) (.cons (.ex (.v 1)) .nil)))) (.cons (.set 1 (.v 2)) .nil) .nil) .nil)) (.cons (.retv 1) .nil)))⟩
/-- 11 greatest_of(some) -/
def d_greatest_of : Df := ⟨"greatest_of", ["some"], ["some", "best", "one"],
  (.cons (.set 1 (.ix (.at 0) (.ex (.c (.int 0))))) (.cons (.for (.seq (.v 0)) (.nm 2) (.cons (.ite (.e (.call 8 (.cons (.ex (.v 1)) (.cons (.ex (.v 2)) .nil)))) (.cons (.set 1 (.v 2)) .nil) .nil) .nil)) (.cons (.retv 1) .nil)))⟩
/-- 12 ends_of(liars, told) -/
def d_ends_of : Df := ⟨"ends_of", ["liars", "told"], ["liars", "told", "lows", "highs", "number", "house", "other"],
  (.cons (.par [2, 3] (.cons (.lst .nil) (.cons (.lst .nil) .nil))) (.cons (.for (.seq (.v 1)) (.nm 4) (.cons (.ite (.e (.call 2 (.cons (.ex (.v 0)) (.cons (.ex (.bi .tuple (.cons (.ex (.lc (.enum (.v 1)) (.tup (.cons (.nm 5) (.cons (.nm 6) .nil))) [("house", 5), ("other", 6)] (.cons (.e (.call 8 (.cons (.ex (.v 6)) (.cons (.ex (.v 4)) .nil)))) .nil) (.v 5))) .nil))) .nil)))) (.cons (.ex (.app 2 (.v 4))) .nil) .nil) (.cons (.ite (.e (.call 2 (.cons (.ex (.v 0)) (.cons (.ex (.bi .tuple (.cons (.ex (.lc (.enum (.v 1)) (.tup (.cons (.nm 5) (.cons (.nm 6) .nil))) [("house", 5), ("other", 6)] (.cons (.e (.call 8 (.cons (.ex (.v 4)) (.cons (.ex (.v 6)) .nil)))) .nil) (.v 5))) .nil))) .nil)))) (.cons (.ex (.app 3 (.v 4))) .nil) .nil) .nil))) (.cons (.ret (.tup (.cons (.call 11 (.cons (.ex (.v 2)) .nil)) (.cons (.call 10 (.cons (.ex (.v 3)) .nil)) .nil)))) .nil)))⟩
/-- 13 middle_of(liars, told) -/
def d_middle_of : Df := ⟨"middle_of", ["liars", "told"], ["liars", "told", "low", "high"],
  (.cons (.asg (.call 12 (.cons (.ex (.v 0)) (.cons (.ex (.v 1)) .nil))) (.tup (.cons (.nm 2) (.cons (.nm 3) .nil)))) (.cons (.ret (.call 9 (.cons (.ex (.v 2)) (.cons (.ex (.v 3)) .nil)))) .nil))⟩
/-- 14 round_values(liars, values, lot, lies) -/
def d_round_values : Df := ⟨"round_values", ["liars", "values", "lot", "lies"], ["liars", "values", "lot", "lies", "said", "found", "house", "told", "other"],
  (.cons (.par [4, 5] (.cons (.dctT 3) (.cons (.lst .nil) .nil))) (.cons (.for (.rng (.cons (.ex (.bi .len (.cons (.at 1) .nil))) .nil)) (.nm 6) (.cons (.set 7 (.lc (.rng (.cons (.ex (.bi .len (.cons (.at 1) .nil))) .nil)) (.nm 8) [("other", 8)] .nil (.ite (.cmp .In (.at 8) (.at 2)) (.dget 4 (.ex (.tup (.cons (.v 8) (.cons (.v 6) .nil)))) (.ex (.tup (.cons (.c (.int 0)) (.cons (.c (.int 1)) .nil))))) (.ix (.at 1) (.at 8))))) (.cons (.ex (.app 5 (.ite (.cmp .In (.at 6) (.at 2)) (.c .none) (.call 13 (.cons (.ex (.v 0)) (.cons (.ex (.bi .tuple (.cons (.at 7) .nil))) .nil)))))) .nil))) (.cons (.ret (.bi .tuple (.cons (.at 5) .nil))) .nil)))⟩
/-- 15 rounds_till(gap, small) -/
def d_rounds_till : Df := ⟨"rounds_till", ["gap", "small"], ["gap", "small", "rounds"],
  (.cons (.set 2 (.c (.int 0))) (.cons (.wh (.e (.call 8 (.cons (.ex (.v 1)) (.cons (.ex (.v 0)) .nil)))) (.cons (.set 0 (.call 9 (.cons (.ex (.tup (.cons (.c (.int 0)) (.cons (.c (.int 1)) .nil)))) (.cons (.ex (.v 0)) .nil)))) (.cons (.aug 2 (.c (.int 1))) .nil))) (.cons (.retv 2) .nil)))⟩
/-- 16 complete(many) -/
def d_complete : Df := ⟨"complete", ["many"], ["many", "ways", "one", "two"],
  (.cons (.set 1 (.lst .nil)) (.cons (.for (.rng (.cons (.at 0) .nil)) (.nm 2) (.cons (.ex (.ext 1 (.lc (.rng (.cons (.at 0) .nil)) (.nm 3) [("two", 3)] (.cons (.cmp .NotEq (.at 3) (.at 2)) .nil) (.tup (.cons (.v 2) (.cons (.v 3) .nil)))))) .nil)) (.cons (.ret (.tup (.cons (.v 0) (.cons (.bi .tuple (.cons (.at 1) .nil)) .nil)))) .nil)))⟩
/-- 17 _law_box(script, k) -/
def d__law_box : Df := ⟨"_law_box", ["script", "k"], ["script", "k", "cell", "great"],
  (.cons (.set 2 (.bin .Add (.ex (.bin .Mult (.ex (.c (.int 43019))) (.at 1))) (.ex (.c (.int 9343))))) (.cons (.ite (.cmp .Lt (.at 1) (.ex (.bi .len (.cons (.at 0) .nil)))) (.cons (.set 2 (.bi .abs (.cons (.ex (.bi .int (.cons (.ex (.ix (.at 0) (.at 1))) .nil))) .nil))) .nil) (.cons (.ite (.cmp .Gt (.ex (.bi .len (.cons (.at 0) .nil))) (.ex (.c (.int 0)))) (.cons (.set 2 (.bin .Add (.at 2) (.ex (.bin .Mult (.ex (.bin .Mod (.ex (.bi .int (.cons (.ex (.bi .abs (.cons (.ex (.bi .int (.cons (.ex (.ix (.at 0) (.ex (.bin .Mod (.ex (.bi .int (.cons (.at 1) .nil))) (.ex (.bi .len (.cons (.at 0) .nil))))))) .nil))) .nil))) .nil))) (.ex (.c (.int 2147483563))))) (.ex (.c (.int 81077))))))) .nil) .nil) .nil)) (.cons (.set 3 (.ite (.cmp .GtE (.at 2) (.ex (.bin .Pow (.ex (.c (.int 10))) (.ex (.c (.int 18)))))) (.v 2) (.c (.int 0)))) (.cons (.ret (.lst (.cons (.v 3) (.cons (.bin .Add (.ex (.bin .Mod (.ex (.bi .int (.cons (.ex (.bin .Add (.ex (.bin .Mult (.ex (.bin .Mod (.ex (.bi .int (.cons (.at 2) .nil))) (.ex (.c (.int 2147483563))))) (.ex (.c (.int 46011031))))) (.ex (.bin .Mult (.ex (.c (.int 9343))) (.at 1))))) .nil))) (.ex (.c (.int 2147483563))))) (.ex (.c (.int 1)))) .nil)))) .nil))))⟩
/-- 18 _law_take(box, many) -/
def d__law_take : Df := ⟨"_law_take", ["box", "many"], ["box", "many", "digit", "raw"],
  (.cons (.ite (.cmp .Gt (.ex (.ix (.at 0) (.ex (.c (.int 0))))) (.ex (.c (.int 0)))) (.cons (.set 2 (.bin .Mod (.ex (.bi .int (.cons (.ex (.ix (.at 0) (.ex (.c (.int 0))))) .nil))) (.at 1))) (.cons (.setIx 0 (.ex (.c (.int 0))) (.bin .FloorDiv (.ex (.ix (.at 0) (.ex (.c (.int 0))))) (.at 1))) (.cons (.retv 2) .nil))) .nil) (.cons (.set 3 (.bin .Mod (.ex (.bi .int (.cons (.ex (.bin .Add (.ex (.bin .Mult (.ex (.ix (.at 0) (.ex (.c (.int 1))))) (.ex (.c (.int 40009))))) (.ex (.c (.int 337))))) .nil))) (.ex (.c (.int 2147483647))))) (.cons (.setIx 0 (.ex (.c (.int 1))) (.bin .Add (.ex (.bin .Mod (.ex (.bi .int (.cons (.ex (.bin .Add (.ex (.bin .Mult (.at 3) (.ex (.c (.int 40692))))) (.ex (.c (.int 97))))) .nil))) (.ex (.c (.int 2147483563))))) (.ex (.c (.int 1))))) (.cons (.ret (.bin .Mod (.ex (.bi .int (.cons (.ex (.bin .FloorDiv (.ex (.bin .Add (.ex (.bin .Mult (.at 3) (.ex (.c (.int 2147483629))))) (.ex (.ix (.at 0) (.ex (.c (.int 1))))))) (.ex (.c (.int 7451))))) .nil))) (.at 1))) .nil))))⟩
/-- 19 _law_pick(box, some) -/
def d__law_pick : Df := ⟨"_law_pick", ["box", "some"], ["box", "some"],
  (.cons (.ret (.ix (.at 1) (.ex (.call 18 (.cons (.at 0) (.cons (.ex (.bi .len (.cons (.at 1) .nil))) .nil)))))) .nil)⟩
/-- 20 _law_same(told, due) -/
def d__law_same : Df := ⟨"_law_same", ["told", "due"], ["told", "due", "one", "other"],
  (.cons (.ite (.e (.isa .tuple (.at 1))) (.cons (.ite (.bo false (.cons (.nt (.e (.isa .tuple (.at 0)))) (.cons (.cmp .NotEq (.ex (.bi .len (.cons (.at 0) .nil))) (.ex (.bi .len (.cons (.at 1) .nil)))) .nil))) (.cons (.ret (.c (.bool false))) .nil) .nil) (.cons (.for (.zip (.cons (.ex (.v 0)) (.cons (.ex (.v 1)) .nil))) (.tup (.cons (.nm 2) (.cons (.nm 3) .nil))) (.cons (.ite (.nt (.e (.call 20 (.cons (.ex (.v 2)) (.cons (.ex (.v 3)) .nil))))) (.cons (.ret (.c (.bool false))) .nil) .nil) .nil)) (.cons (.ret (.c (.bool true))) .nil))) .nil) (.cons (.ite (.cmp .Is (.at 1) (.ex (.c .none))) (.cons (.ret (.cmp .Is (.at 0) (.ex (.c .none)))) .nil) .nil) (.cons (.ite (.bo false (.cons (.cmp .Is (.at 1) (.ex (.c (.bool true)))) (.cons (.cmp .Is (.at 1) (.ex (.c (.bool false)))) .nil))) (.cons (.ret (.bo true (.cons (.isa .bool (.at 0)) (.cons (.cmp .Eq (.at 0) (.at 1)) .nil)))) .nil) .nil) (.cons (.ite (.e (.isa .int (.at 1))) (.cons (.ret (.bo true (.cons (.isa .int (.at 0)) (.cons (.nt (.isa .bool (.at 0))) (.cons (.cmp .Eq (.at 0) (.at 1)) .nil))))) .nil) .nil) (.cons (.ret (.bo true (.cons (.isa .str (.at 0)) (.cons (.isa .str (.at 1)) (.cons (.cmp .Eq (.at 0) (.at 1)) .nil))))) .nil)))))⟩
/-- 21 _law_in(one, two) -/
def d__law_in : Df := ⟨"_law_in", ["one", "two"], ["one", "two", "entry"],
  (.cons (.ret (.cmp .Eq (.ex (.lc (.seq (.v 0)) (.nm 2) [("entry", 2)] (.cons (.cmp .NotIn (.at 2) (.at 1)) .nil) (.c (.int 1)))) (.ex (.lst .nil)))) .nil)⟩
/-- 22 _law_may(liars, lot) -/
def d__law_may : Df := ⟨"_law_may", ["liars", "lot"], ["liars", "lot", "one"],
  (.cons (.ret (.cmp .NotEq (.ex (.lc (.seq (.v 0)) (.nm 2) [("one", 2)] (.cons (.e (.call 21 (.cons (.ex (.v 1)) (.cons (.ex (.v 2)) .nil)))) .nil) (.c (.int 1)))) (.ex (.lst .nil)))) .nil)⟩
/-- 23 _law_all_lying(liars) -/
def d__law_all_lying : Df := ⟨"_law_all_lying", ["liars"], ["liars", "rows", "house", "row", "size"],
  (.cons (.set 1 (.lst (.cons (.tup .nil) .nil))) (.cons (.for (.seq (.sset (.ex (.bi .sum (.cons (.at 0) (.cons (.ex (.tup .nil)) .nil)))))) (.nm 2) (.cons (.set 1 (.bin .Add (.at 1) (.ex (.lc (.seq (.v 1)) (.nm 3) [("row", 3)] .nil (.bin .Add (.at 3) (.ex (.tup (.cons (.v 2) .nil)))))))) .nil)) (.cons (.ret (.bi .tuple (.cons (.ex (.lc (.seq (.bi .sorted (.cons (.ex (.lc (.seq (.v 1)) (.nm 3) [("row", 3)] (.cons (.e (.call 22 (.cons (.ex (.v 0)) (.cons (.ex (.v 3)) .nil)))) .nil) (.tup (.cons (.bi .len (.cons (.at 3) .nil)) (.cons (.v 3) .nil))))) .nil))) (.tup (.cons (.nm 4) (.cons (.nm 3) .nil))) [("size", 4), ("row", 3)] .nil (.v 3))) .nil))) .nil)))⟩
/-- 24 _law_greatest(lots) -/
def d__law_greatest : Df := ⟨"_law_greatest", ["lots"], ["lots", "unlike", "one", "two"],
  (.cons (.set 1 (.sset (.at 0))) (.cons (.ret (.bi .tuple (.cons (.ex (.lc (.seq (.v 1)) (.nm 2) [("one", 2)] (.cons (.cmp .Eq (.ex (.lc (.seq (.v 1)) (.nm 3) [("two", 3)] (.cons (.bo true (.cons (.cmp .NotEq (.at 2) (.at 3)) (.cons (.e (.call 21 (.cons (.ex (.v 2)) (.cons (.ex (.v 3)) .nil)))) .nil))) .nil) (.c (.int 1)))) (.ex (.lst .nil))) .nil) (.v 2))) .nil))) .nil))⟩
/-- 25 _law_drawn_lot(box, houses, part) -/
def d__law_drawn_lot : Df := ⟨"_law_drawn_lot", ["box", "houses", "part"], ["box", "houses", "part", "house"],
  (.cons (.ret (.bi .tuple (.cons (.ex (.lc (.seq (.v 1)) (.nm 3) [("house", 3)] (.cons (.cmp .Eq (.ex (.call 18 (.cons (.at 0) (.cons (.ex (.v 2)) .nil)))) (.ex (.c (.int 0)))) .nil) (.v 3))) .nil))) .nil)⟩
/-- 26 _law_any_liars(box, many, most) -/
def d__law_any_liars : Df := ⟨"_law_any_liars", ["box", "many", "most"], ["box", "many", "most", "way", "house", "turn"],
  (.cons (.set 3 (.call 18 (.cons (.at 0) (.cons (.ex (.c (.int 6))) .nil)))) (.cons (.ite (.cmp .Eq (.at 3) (.ex (.c (.int 0)))) (.cons (.ret (.bi .tuple (.cons (.ex (.sl (.ex (.lc (.rng (.cons (.at 1) .nil)) (.nm 4) [("house", 4)] .nil (.tup (.cons (.v 4) .nil)))) .no (.so (.at 2)))) .nil))) .nil) .nil) (.cons (.ite (.cmp .Eq (.at 3) (.ex (.c (.int 1)))) (.cons (.ret (.tup (.cons (.tup .nil) .nil))) .nil) .nil) (.cons (.ret (.call 24 (.cons (.ex (.lc (.rng (.cons (.ex (.bin .Add (.ex (.c (.int 1))) (.ex (.call 18 (.cons (.at 0) (.cons (.ex (.v 2)) .nil)))))) .nil)) (.nm 5) [("turn", 5)] .nil (.call 25 (.cons (.at 0) (.cons (.ex (.rl1 false (.at 1))) (.cons (.ex (.bin .Add (.ex (.c (.int 2))) (.ex (.call 18 (.cons (.at 0) (.cons (.ex (.c (.int 2))) .nil)))))) .nil)))))) .nil))) .nil))))⟩
/-- 27 _law_hold(liars, lot, count) -/
def d__law_hold : Df := ⟨"_law_hold", ["liars", "lot", "count"], ["liars", "lot", "count", "rows", "turn", "later", "row", "place"],
  (.cons (.set 3 (.lst (.cons (.tup .nil) .nil))) (.cons (.for (.rng (.cons (.at 2) .nil)) (.nm 4) (.cons (.set 5 (.lst .nil)) (.cons (.for (.seq (.v 3)) (.nm 6) (.cons (.set 5 (.bin .Add (.at 5) (.ex (.lc (.rng (.cons (.ex (.ite (.cmp .NotEq (.at 6) (.ex (.tup .nil))) (.ix (.at 6) (.ex (.bin .Sub (.ex (.bi .len (.cons (.at 6) .nil))) (.ex (.c (.int 1)))))) (.c (.int 0)))) (.cons (.ex (.bi .len (.cons (.at 0) .nil))) .nil))) (.nm 7) [("place", 7)] .nil (.bin .Add (.at 6) (.ex (.tup (.cons (.v 7) .nil)))))))) .nil)) (.cons (.set 3 (.v 5)) .nil)))) (.cons (.for (.seq (.v 3)) (.nm 6) (.cons (.ite (.e (.call 21 (.cons (.ex (.v 1)) (.cons (.ex (.bi .sum (.cons (.ex (.lc (.seq (.v 6)) (.nm 7) [("place", 7)] .nil (.ix (.at 0) (.at 7)))) (.cons (.ex (.tup .nil)) .nil)))) .nil)))) (.cons (.ret (.bi .tuple (.cons (.ex (.lc (.seq (.v 6)) (.nm 7) [("place", 7)] .nil (.ix (.at 0) (.at 7)))) .nil))) .nil) .nil) .nil)) (.cons (.ret (.c .none)) .nil))))⟩
/-- 28 _law_any_lying(box, liars) -/
def d__law_any_lying : Df := ⟨"_law_any_lying", ["box", "liars"], ["box", "liars"],
  (.cons (.ret (.call 19 (.cons (.at 0) (.cons (.ex (.bi .list (.cons (.ex (.call 23 (.cons (.ex (.v 1)) .nil))) .nil))) .nil)))) .nil)⟩
/-- 29 _law_low(above, beneath) -/
def d__law_low : Df := ⟨"_law_low", ["above", "beneath"], ["above", "beneath", "one", "two"],
  (.cons (.par [2, 3] (.cons (.bi .abs (.cons (.at 0) .nil)) (.cons (.v 1) .nil))) (.cons (.wh (.cmp .Gt (.at 3) (.ex (.c (.int 0)))) (.cons (.par [2, 3] (.cons (.v 3) (.cons (.bin .Mod (.ex (.bi .int (.cons (.at 2) .nil))) (.at 3)) .nil))) .nil)) (.cons (.ret (.tup (.cons (.bin .FloorDiv (.at 0) (.at 2)) (.cons (.bin .FloorDiv (.at 1) (.at 2)) .nil)))) .nil)))⟩
/-- 30 _law_below(one, two) -/
def d__law_below : Df := ⟨"_law_below", ["one", "two"], ["one", "two"],
  (.cons (.ret (.cmp .Lt (.ex (.bin .Mult (.ex (.ix (.at 0) (.ex (.c (.int 0))))) (.ex (.ix (.at 1) (.ex (.c (.int 1))))))) (.ex (.bin .Mult (.ex (.ix (.at 1) (.ex (.c (.int 0))))) (.ex (.ix (.at 0) (.ex (.c (.int 1))))))))) .nil)⟩
/-- 31 _law_most(some) -/
def d__law_most : Df := ⟨"_law_most", ["some"], ["some", "best", "one"],
  (.cons (.set 1 (.ix (.at 0) (.ex (.c (.int 0))))) (.cons (.for (.seq (.sl (.at 0) (.so (.ex (.c (.int 1)))) .no)) (.nm 2) (.cons (.set 1 (.ite (.e (.call 30 (.cons (.ex (.v 1)) (.cons (.ex (.v 2)) .nil)))) (.v 2) (.v 1))) .nil)) (.cons (.retv 1) .nil)))⟩
/-- 32 _law_least(some) -/
def d__law_least : Df := ⟨"_law_least", ["some"], ["some", "best", "one"],
  (.cons (.set 1 (.ix (.at 0) (.ex (.c (.int 0))))) (.cons (.for (.seq (.sl (.at 0) (.so (.ex (.c (.int 1)))) .no)) (.nm 2) (.cons (.set 1 (.ite (.e (.call 30 (.cons (.ex (.v 2)) (.cons (.ex (.v 1)) .nil)))) (.v 2) (.v 1))) .nil)) (.cons (.retv 1) .nil)))⟩
/-- 33 _law_ends(liars, told) -/
def d__law_ends : Df := ⟨"_law_ends", ["liars", "told"], ["liars", "told", "lows", "highs", "number", "less", "house", "one", "more"],
  (.cons (.par [2, 3] (.cons (.lst .nil) (.cons (.lst .nil) .nil))) (.cons (.for (.seq (.v 1)) (.nm 4) (.cons (.set 5 (.bi .tuple (.cons (.ex (.lc (.enum (.v 1)) (.tup (.cons (.nm 6) (.cons (.nm 7) .nil))) [("house", 6), ("one", 7)] (.cons (.e (.call 30 (.cons (.ex (.v 7)) (.cons (.ex (.v 4)) .nil)))) .nil) (.v 6))) .nil))) (.cons (.set 8 (.bi .tuple (.cons (.ex (.lc (.enum (.v 1)) (.tup (.cons (.nm 6) (.cons (.nm 7) .nil))) [("house", 6), ("one", 7)] (.cons (.e (.call 30 (.cons (.ex (.v 4)) (.cons (.ex (.v 7)) .nil)))) .nil) (.v 6))) .nil))) (.cons (.set 2 (.bin .Add (.at 2) (.ex (.ite (.e (.call 22 (.cons (.ex (.v 0)) (.cons (.ex (.v 5)) .nil)))) (.lst (.cons (.v 4) .nil)) (.lst .nil))))) (.cons (.set 3 (.bin .Add (.at 3) (.ex (.ite (.e (.call 22 (.cons (.ex (.v 0)) (.cons (.ex (.v 8)) .nil)))) (.lst (.cons (.v 4) .nil)) (.lst .nil))))) .nil))))) (.cons (.ret (.tup (.cons (.call 31 (.cons (.ex (.v 2)) .nil)) (.cons (.call 32 (.cons (.ex (.v 3)) .nil)) .nil)))) .nil)))⟩
/-- 34 _law_amid(one, two) -/
def d__law_amid : Df := ⟨"_law_amid", ["one", "two"], ["one", "two"],
  (.cons (.ret (.call 29 (.cons (.ex (.bin .Add (.ex (.bin .Mult (.ex (.ix (.at 0) (.ex (.c (.int 0))))) (.ex (.ix (.at 1) (.ex (.c (.int 1))))))) (.ex (.bin .Mult (.ex (.ix (.at 1) (.ex (.c (.int 0))))) (.ex (.ix (.at 0) (.ex (.c (.int 1))))))))) (.cons (.ex (.bin .Mult (.ex (.bin .Mult (.ex (.c (.int 2))) (.ex (.ix (.at 0) (.ex (.c (.int 1))))))) (.ex (.ix (.at 1) (.ex (.c (.int 1))))))) .nil)))) .nil)⟩
/-- 35 _law_apart(some) -/
def d__law_apart : Df := ⟨"_law_apart", ["some"], ["some", "high", "low"],
  (.cons (.par [1, 2] (.cons (.call 31 (.cons (.ex (.v 0)) .nil)) (.cons (.call 32 (.cons (.ex (.v 0)) .nil)) .nil))) (.cons (.ret (.call 29 (.cons (.ex (.bin .Sub (.ex (.bin .Mult (.ex (.ix (.at 1) (.ex (.c (.int 0))))) (.ex (.ix (.at 2) (.ex (.c (.int 1))))))) (.ex (.bin .Mult (.ex (.ix (.at 2) (.ex (.c (.int 0))))) (.ex (.ix (.at 1) (.ex (.c (.int 1))))))))) (.cons (.ex (.bin .Mult (.ex (.ix (.at 1) (.ex (.c (.int 1))))) (.ex (.ix (.at 2) (.ex (.c (.int 1))))))) .nil)))) .nil))⟩
/-- 36 _law_fraction(box) -/
def d__law_fraction : Df := ⟨"_law_fraction", ["box"], ["box", "great"],
  (.cons (.set 1 (.call 19 (.cons (.at 0) (.cons (.ex (.lst (.cons (.c (.int 3)) (.cons (.c (.int 9)) (.cons (.bin .Pow (.ex (.c (.int 10))) (.ex (.c (.int 20)))) .nil))))) .nil)))) (.cons (.ret (.call 29 (.cons (.ex (.bin .Sub (.ex (.call 18 (.cons (.at 0) (.cons (.ex (.v 1)) .nil)))) (.ex (.call 18 (.cons (.at 0) (.cons (.ex (.c (.int 3))) .nil)))))) (.cons (.ex (.bin .Add (.ex (.c (.int 1))) (.ex (.call 18 (.cons (.at 0) (.cons (.ex (.call 19 (.cons (.at 0) (.cons (.ex (.lst (.cons (.c (.int 2)) (.cons (.c (.int 6)) (.cons (.bin .Pow (.ex (.c (.int 10))) (.ex (.c (.int 15)))) .nil))))) .nil)))) .nil)))))) .nil)))) .nil))⟩
/-- 37 _law_new(liars, values, lot, lies) -/
def d__law_new : Df := ⟨"_law_new", ["liars", "values", "lot", "lies"], ["liars", "values", "lot", "lies", "said", "found", "house", "told", "other", "ends"],
  (.cons (.par [4, 5] (.cons (.dctL (.ex (.bi .list (.cons (.at 3) .nil)))) (.cons (.lst .nil) .nil))) (.cons (.for (.rng (.cons (.ex (.bi .len (.cons (.at 1) .nil))) .nil)) (.nm 6) (.cons (.set 7 (.lc (.rng (.cons (.ex (.bi .len (.cons (.at 1) .nil))) .nil)) (.nm 8) [("other", 8)] .nil (.ite (.cmp .In (.at 8) (.at 2)) (.dget 4 (.ex (.tup (.cons (.v 8) (.cons (.v 6) .nil)))) (.ex (.tup (.cons (.c (.int 0)) (.cons (.c (.int 1)) .nil))))) (.ix (.at 1) (.at 8))))) (.cons (.set 9 (.call 33 (.cons (.ex (.v 0)) (.cons (.ex (.v 7)) .nil)))) (.cons (.ex (.app 5 (.ite (.cmp .In (.at 6) (.at 2)) (.c .none) (.call 34 (.cons (.ex (.ix (.at 9) (.ex (.c (.int 0))))) (.cons (.ex (.ix (.at 9) (.ex (.c (.int 1))))) .nil)))))) .nil)))) (.cons (.ret (.bi .tuple (.cons (.at 5) .nil))) .nil)))⟩
/-- 38 _law_halved(gap, small) -/
def d__law_halved : Df := ⟨"_law_halved", ["gap", "small"], ["gap", "small", "many"],
  (.cons (.set 2 (.c (.int 0))) (.cons (.wh (.e (.call 30 (.cons (.ex (.v 1)) (.cons (.ex (.v 0)) .nil)))) (.cons (.par [0, 2] (.cons (.tup (.cons (.ix (.at 0) (.ex (.c (.int 0)))) (.cons (.bin .Mult (.ex (.ix (.at 0) (.ex (.c (.int 1))))) (.ex (.c (.int 2)))) .nil))) (.cons (.bin .Add (.at 2) (.ex (.c (.int 1)))) .nil))) .nil)) (.cons (.retv 2) .nil)))⟩
/-- 39 law(script) -/
def d_law : Df := ⟨"law", ["script"], ["script", "ones", "told", "heard", "k", "box", "many", "liars", "cover", "turn", "house", "ends", "lot", "values", "lies", "way", "due", "honest", "old", "new", "gap", "small"],
  (.cons (.asg (.tup (.cons (.tup (.cons (.tup (.cons (.c (.int 0)) .nil)) (.cons (.tup (.cons (.c (.int 1)) .nil)) (.cons (.tup (.cons (.c (.int 2)) .nil)) (.cons (.tup (.cons (.c (.int 3)) .nil)) .nil))))) (.cons (.tup (.cons (.tup (.cons (.c (.int 3)) (.cons (.c (.int 1)) .nil))) (.cons (.tup (.cons (.c (.int 1)) (.cons (.c (.int 1)) .nil))) (.cons (.tup (.cons (.c (.int 2)) (.cons (.c (.int 1)) .nil))) (.cons (.tup (.cons (.c (.int 90)) (.cons (.c (.int 1)) .nil))) .nil))))) .nil))) (.tup (.cons (.nm 1) (.cons (.nm 2) .nil)))) (.cons (.set 3 (.tup (.cons (.callK 12 (.cons (.ex (.v 1)) .nil) (.cons (.ex (.v 2)) .nil)) (.cons (.callK 13 (.cons (.ex (.v 1)) .nil) (.cons (.ex (.v 2)) .nil)) (.cons (.call 12 (.cons (.ex (.tup (.cons (.tup .nil) .nil))) (.cons (.ex (.v 2)) .nil))) (.cons (.call 15 (.cons (.ex (.tup (.cons (.c (.int 10)) (.cons (.c (.int 1)) .nil)))) (.cons (.ex (.tup (.cons (.c (.int 1)) (.cons (.c (.int 1)) .nil)))) .nil))) (.cons (.callK 15 .nil (.cons (.ex (.tup (.cons (.c (.int 1)) (.cons (.c (.int 2)) .nil)))) (.cons (.ex (.tup (.cons (.c (.int 1)) (.cons (.c (.int 2)) .nil)))) .nil))) (.cons (.call 15 (.cons (.ex (.tup (.cons (.c (.int 0)) (.cons (.c (.int 1)) .nil)))) (.cons (.ex (.tup (.cons (.c (.int 1)) (.cons (.c (.int 9)) .nil)))) .nil))) .nil)))))))) (.cons (.ite (.nt (.e (.call 20 (.cons (.ex (.v 3)) (.cons (.ex (.tup (.cons (.tup (.cons (.tup (.cons (.c (.int 2)) (.cons (.c (.int 1)) .nil))) (.cons (.tup (.cons (.c (.int 3)) (.cons (.c (.int 1)) .nil))) .nil))) (.cons (.tup (.cons (.c (.int 5)) (.cons (.c (.int 2)) .nil))) (.cons (.tup (.cons (.tup (.cons (.c (.int 1)) (.cons (.c (.int 1)) .nil))) (.cons (.tup (.cons (.c (.int 90)) (.cons (.c (.int 1)) .nil))) .nil))) (.cons (.c (.int 4)) (.cons (.c (.int 0)) (.cons (.c (.int 0)) .nil)))))))) .nil))))) (.cons (.ret (.c (.bool false))) .nil) .nil) (.cons (.for (.rng (.cons (.ex (.bi .max (.cons (.ex (.c (.int 5))) (.cons (.ex (.bi .min (.cons (.ex (.bi .len (.cons (.at 0) .nil))) (.cons (.ex (.c (.int 9))) .nil)))) .nil)))) .nil)) (.nm 4) (.cons (.set 5 (.call 17 (.cons (.ex (.v 0)) (.cons (.ex (.v 4)) .nil)))) (.cons (.set 6 (.bin .Add (.ex (.c (.int 3))) (.ex (.call 18 (.cons (.at 5) (.cons (.ex (.c (.int 3))) .nil)))))) (.cons (.set 7 (.call 26 (.cons (.at 5) (.cons (.ex (.v 6)) (.cons (.ex (.c (.int 4))) .nil))))) (.cons (.set 8 (.call 27 (.cons (.ex (.v 7)) (.cons (.ex (.rl1 false (.at 6))) (.cons (.ex (.c (.int 3))) .nil))))) (.cons (.ite (.nt (.e (.call 20 (.cons (.ex (.call 5 (.cons (.ex (.v 7)) (.cons (.ex (.rl1 true (.at 6))) (.cons (.ex (.c (.int 3))) .nil))))) (.cons (.ex (.v 8)) .nil))))) (.cons (.ret (.c (.bool false))) .nil) .nil) (.cons (.for (.rng (.cons (.ex (.c (.int 6))) .nil)) (.nm 9) (.cons (.set 2 (.lc (.rng (.cons (.at 6) .nil)) (.nm 10) [("house", 10)] .nil (.call 36 (.cons (.at 5) .nil)))) (.cons (.ite (.cmp .Eq (.ex (.call 18 (.cons (.at 5) (.cons (.ex (.c (.int 2))) .nil)))) (.ex (.c (.int 0)))) (.cons (.setIx 2 (.ex (.c (.int 0))) (.ix (.at 2) (.ex (.bin .Sub (.at 6) (.ex (.c (.int 1))))))) .nil) .nil) (.cons (.set 11 (.call 33 (.cons (.ex (.v 7)) (.cons (.ex (.v 2)) .nil)))) (.cons (.ite (.nt (.e (.call 20 (.cons (.ex (.tup (.cons (.call 12 (.cons (.ex (.v 7)) (.cons (.ex (.bi .tuple (.cons (.at 2) .nil))) .nil))) (.cons (.call 13 (.cons (.ex (.v 7)) (.cons (.ex (.bi .tuple (.cons (.at 2) .nil))) .nil))) .nil)))) (.cons (.ex (.tup (.cons (.v 11) (.cons (.call 34 (.cons (.ex (.ix (.at 11) (.ex (.c (.int 0))))) (.cons (.ex (.ix (.at 11) (.ex (.c (.int 1))))) .nil))) .nil)))) .nil))))) (.cons (.ret (.c (.bool false))) .nil) .nil) (.cons (.par [12, 13] (.cons (.call 28 (.cons (.at 5) (.cons (.ex (.v 7)) .nil))) (.cons (.bi .tuple (.cons (.at 2) .nil)) .nil))) (.cons (.set 14 (.bi .tupleN (.cons (.ex (.lc (.seq (.ix (.ex (.call 16 (.cons (.ex (.v 6)) .nil))) (.ex (.c (.int 1))))) (.nm 15) [("way", 15)] (.cons (.bo true (.cons (.cmp .In (.ex (.ix (.at 15) (.ex (.c (.int 0))))) (.at 12)) (.cons (.cmp .Gt (.ex (.call 18 (.cons (.at 5) (.cons (.ex (.c (.int 4))) .nil)))) (.ex (.c (.int 0)))) .nil))) .nil) (.tup (.cons (.v 15) (.cons (.call 36 (.cons (.at 5) .nil)) .nil))))) .nil))) (.cons (.par [2, 16] (.cons (.callK 14 (.cons (.ex (.v 7)) (.cons (.ex (.v 13)) (.cons (.ex (.v 12)) .nil))) (.cons (.at 14) .nil)) (.cons (.call 37 (.cons (.ex (.v 7)) (.cons (.ex (.v 13)) (.cons (.ex (.v 12)) (.cons (.ex (.v 14)) .nil))))) .nil))) (.cons (.ite (.nt (.e (.call 20 (.cons (.ex (.v 2)) (.cons (.ex (.v 16)) .nil))))) (.cons (.ret (.c (.bool false))) .nil) .nil) (.cons (.set 17 (.lc (.rng (.cons (.at 6) .nil)) (.nm 10) [("house", 10)] (.cons (.cmp .NotIn (.at 10) (.at 12)) .nil) (.v 10))) (.cons (.ite (.cmp .Is (.at 8) (.ex (.c .none))) (.cons (.par [18, 19] (.cons (.lc (.seq (.v 17)) (.nm 10) [("house", 10)] .nil (.ix (.at 13) (.at 10))) (.cons (.lc (.seq (.v 17)) (.nm 10) [("house", 10)] .nil (.ix (.at 16) (.at 10))) .nil))) (.cons (.ite (.bo false (.cons (.e (.call 30 (.cons (.ex (.call 31 (.cons (.ex (.v 18)) .nil))) (.cons (.ex (.call 31 (.cons (.ex (.v 19)) .nil))) .nil)))) (.cons (.e (.call 30 (.cons (.ex (.call 32 (.cons (.ex (.v 19)) .nil))) (.cons (.ex (.call 32 (.cons (.ex (.v 18)) .nil))) .nil)))) .nil))) (.cons (.ret (.c (.bool false))) .nil) .nil) (.cons (.set 20 (.call 35 (.cons (.ex (.v 19)) .nil))) (.cons (.ite (.e (.call 30 (.cons (.ex (.call 35 (.cons (.ex (.v 18)) .nil))) (.cons (.ex (.tup (.cons (.bin .Mult (.ex (.c (.int 2))) (.ex (.ix (.at 20) (.ex (.c (.int 0)))))) (.cons (.ix (.at 20) (.ex (.c (.int 1)))) .nil)))) .nil)))) (.cons (.ret (.c (.bool false))) .nil) .nil) .nil)))) .nil) .nil))))))))))) (.cons (.par [20, 21] (.cons (.call 29 (.cons (.ex (.call 18 (.cons (.at 5) (.cons (.ex (.bin .Pow (.ex (.c (.int 10))) (.ex (.c (.int 6))))) .nil)))) (.cons (.ex (.bin .Add (.ex (.c (.int 1))) (.ex (.call 18 (.cons (.at 5) (.cons (.ex (.c (.int 50))) .nil)))))) .nil))) (.cons (.call 29 (.cons (.ex (.bin .Add (.ex (.c (.int 1))) (.ex (.call 18 (.cons (.at 5) (.cons (.ex (.c (.int 9))) .nil)))))) (.cons (.ex (.bin .Add (.ex (.c (.int 1))) (.ex (.call 18 (.cons (.at 5) (.cons (.ex (.bin .Pow (.ex (.c (.int 10))) (.ex (.c (.int 6))))) .nil)))))) .nil))) .nil))) (.cons (.ite (.nt (.e (.call 20 (.cons (.ex (.call 15 (.cons (.ex (.v 20)) (.cons (.ex (.v 21)) .nil)))) (.cons (.ex (.call 38 (.cons (.ex (.v 20)) (.cons (.ex (.v 21)) .nil)))) .nil))))) (.cons (.ret (.c (.bool false))) .nil) .nil) .nil))))))))) (.cons (.ret (.c (.bool true))) .nil)))))⟩
def lc_is_within_1 : Ex := (.lc (.seq (.v 0)) (.nm 2) [("house", 2)] .nil (.cmp .In (.at 2) (.at 1)))
def lc_may_lie_1 : Ex := (.lc (.seq (.v 0)) (.nm 2) [("one", 2)] .nil (.call 0 (.cons (.ex (.v 1)) (.cons (.ex (.v 2)) .nil))))
def fb_next_places_1 : Sts := (.cons (.ite (.cmp .Lt (.ex (.bin .Add (.ex (.ix (.at 0) (.at 2))) (.ex (.c (.int 1))))) (.at 1)) (.cons (.ret (.bin .Add (.ex (.sl (.at 0) .no (.so (.at 2)))) (.ex (.bin .Mult (.ex (.tup (.cons (.bin .Add (.ex (.ix (.at 0) (.at 2))) (.ex (.c (.int 1)))) .nil))) (.ex (.bin .Sub (.ex (.bi .len (.cons (.at 0) .nil))) (.at 2))))))) .nil) .nil) .nil)
def fb_held_by_1 : Sts := (.cons (.set 2 (.call 1 (.cons (.ex (.v 2)) (.cons (.ex (.ix (.at 0) (.at 3))) .nil)))) .nil)
def lc_cover_of_1 : Ex := (.lc (.seq (.v 3)) (.nm 4) [("place", 4)] .nil (.ix (.at 0) (.at 4)))
def fb_cover_of_1 : Sts := (.cons (.ite (.e (.call 0 (.cons (.ex (.v 1)) (.cons (.ex (.call 4 (.cons (.ex (.v 0)) (.cons (.ex (.v 3)) .nil)))) .nil)))) (.cons (.ret (.bi .tuple (.cons (.ex (.lc (.seq (.v 3)) (.nm 4) [("place", 4)] .nil (.ix (.at 0) (.at 4)))) .nil))) .nil) .nil) (.cons (.set 3 (.call 3 (.cons (.ex (.v 3)) (.cons (.ex (.bi .len (.cons (.at 0) .nil))) .nil)))) .nil))
def fb_common_part_1 : Sts := (.cons (.par [0, 1] (.cons (.v 1) (.cons (.bin .Mod (.at 0) (.at 1)) .nil))) .nil)
def fb_least_of_1 : Sts := (.cons (.ite (.e (.call 8 (.cons (.ex (.v 2)) (.cons (.ex (.v 1)) .nil)))) (.cons (.set 1 (.v 2)) .nil) .nil) .nil)
def fb_greatest_of_1 : Sts := (.cons (.ite (.e (.call 8 (.cons (.ex (.v 1)) (.cons (.ex (.v 2)) .nil)))) (.cons (.set 1 (.v 2)) .nil) .nil) .nil)
def lc_ends_of_1 : Ex := (.lc (.enum (.v 1)) (.tup (.cons (.nm 5) (.cons (.nm 6) .nil))) [("house", 5), ("other", 6)] (.cons (.e (.call 8 (.cons (.ex (.v 6)) (.cons (.ex (.v 4)) .nil)))) .nil) (.v 5))
def lc_ends_of_2 : Ex := (.lc (.enum (.v 1)) (.tup (.cons (.nm 5) (.cons (.nm 6) .nil))) [("house", 5), ("other", 6)] (.cons (.e (.call 8 (.cons (.ex (.v 4)) (.cons (.ex (.v 6)) .nil)))) .nil) (.v 5))
def fb_ends_of_1 : Sts := (.cons (.ite (.e (.call 2 (.cons (.ex (.v 0)) (.cons (.ex (.bi .tuple (.cons (.ex (.lc (.enum (.v 1)) (.tup (.cons (.nm 5) (.cons (.nm 6) .nil))) [("house", 5), ("other", 6)] (.cons (.e (.call 8 (.cons (.ex (.v 6)) (.cons (.ex (.v 4)) .nil)))) .nil) (.v 5))) .nil))) .nil)))) (.cons (.ex (.app 2 (.v 4))) .nil) .nil) (.cons (.ite (.e (.call 2 (.cons (.ex (.v 0)) (.cons (.ex (.bi .tuple (.cons (.ex (.lc (.enum (.v 1)) (.tup (.cons (.nm 5) (.cons (.nm 6) .nil))) [("house", 5), ("other", 6)] (.cons (.e (.call 8 (.cons (.ex (.v 4)) (.cons (.ex (.v 6)) .nil)))) .nil) (.v 5))) .nil))) .nil)))) (.cons (.ex (.app 3 (.v 4))) .nil) .nil) .nil))
def lc_round_values_1 : Ex := (.lc (.rng (.cons (.ex (.bi .len (.cons (.at 1) .nil))) .nil)) (.nm 8) [("other", 8)] .nil (.ite (.cmp .In (.at 8) (.at 2)) (.dget 4 (.ex (.tup (.cons (.v 8) (.cons (.v 6) .nil)))) (.ex (.tup (.cons (.c (.int 0)) (.cons (.c (.int 1)) .nil))))) (.ix (.at 1) (.at 8))))
def fb_round_values_1 : Sts := (.cons (.set 7 (.lc (.rng (.cons (.ex (.bi .len (.cons (.at 1) .nil))) .nil)) (.nm 8) [("other", 8)] .nil (.ite (.cmp .In (.at 8) (.at 2)) (.dget 4 (.ex (.tup (.cons (.v 8) (.cons (.v 6) .nil)))) (.ex (.tup (.cons (.c (.int 0)) (.cons (.c (.int 1)) .nil))))) (.ix (.at 1) (.at 8))))) (.cons (.ex (.app 5 (.ite (.cmp .In (.at 6) (.at 2)) (.c .none) (.call 13 (.cons (.ex (.v 0)) (.cons (.ex (.bi .tuple (.cons (.at 7) .nil))) .nil)))))) .nil))
def fb_rounds_till_1 : Sts := (.cons (.set 0 (.call 9 (.cons (.ex (.tup (.cons (.c (.int 0)) (.cons (.c (.int 1)) .nil)))) (.cons (.ex (.v 0)) .nil)))) (.cons (.aug 2 (.c (.int 1))) .nil))
def lc_complete_1 : Ex := (.lc (.rng (.cons (.at 0) .nil)) (.nm 3) [("two", 3)] (.cons (.cmp .NotEq (.at 3) (.at 2)) .nil) (.tup (.cons (.v 2) (.cons (.v 3) .nil))))
def fb_complete_1 : Sts := (.cons (.ex (.ext 1 (.lc (.rng (.cons (.at 0) .nil)) (.nm 3) [("two", 3)] (.cons (.cmp .NotEq (.at 3) (.at 2)) .nil) (.tup (.cons (.v 2) (.cons (.v 3) .nil)))))) .nil)
def fb__law_same_1 : Sts := (.cons (.ite (.nt (.e (.call 20 (.cons (.ex (.v 2)) (.cons (.ex (.v 3)) .nil))))) (.cons (.ret (.c (.bool false))) .nil) .nil) .nil)
def lc__law_in_1 : Ex := (.lc (.seq (.v 0)) (.nm 2) [("entry", 2)] (.cons (.cmp .NotIn (.at 2) (.at 1)) .nil) (.c (.int 1)))
def lc__law_may_1 : Ex := (.lc (.seq (.v 0)) (.nm 2) [("one", 2)] (.cons (.e (.call 21 (.cons (.ex (.v 1)) (.cons (.ex (.v 2)) .nil)))) .nil) (.c (.int 1)))
def lc__law_all_lying_1 : Ex := (.lc (.seq (.v 1)) (.nm 3) [("row", 3)] .nil (.bin .Add (.at 3) (.ex (.tup (.cons (.v 2) .nil)))))
def lc__law_all_lying_2 : Ex := (.lc (.seq (.v 1)) (.nm 3) [("row", 3)] (.cons (.e (.call 22 (.cons (.ex (.v 0)) (.cons (.ex (.v 3)) .nil)))) .nil) (.tup (.cons (.bi .len (.cons (.at 3) .nil)) (.cons (.v 3) .nil))))
def lc__law_all_lying_3 : Ex := (.lc (.seq (.bi .sorted (.cons (.ex (.lc (.seq (.v 1)) (.nm 3) [("row", 3)] (.cons (.e (.call 22 (.cons (.ex (.v 0)) (.cons (.ex (.v 3)) .nil)))) .nil) (.tup (.cons (.bi .len (.cons (.at 3) .nil)) (.cons (.v 3) .nil))))) .nil))) (.tup (.cons (.nm 4) (.cons (.nm 3) .nil))) [("size", 4), ("row", 3)] .nil (.v 3))
def fb__law_all_lying_1 : Sts := (.cons (.set 1 (.bin .Add (.at 1) (.ex (.lc (.seq (.v 1)) (.nm 3) [("row", 3)] .nil (.bin .Add (.at 3) (.ex (.tup (.cons (.v 2) .nil)))))))) .nil)
def lc__law_greatest_1 : Ex := (.lc (.seq (.v 1)) (.nm 3) [("two", 3)] (.cons (.bo true (.cons (.cmp .NotEq (.at 2) (.at 3)) (.cons (.e (.call 21 (.cons (.ex (.v 2)) (.cons (.ex (.v 3)) .nil)))) .nil))) .nil) (.c (.int 1)))
def lc__law_greatest_2 : Ex := (.lc (.seq (.v 1)) (.nm 2) [("one", 2)] (.cons (.cmp .Eq (.ex (.lc (.seq (.v 1)) (.nm 3) [("two", 3)] (.cons (.bo true (.cons (.cmp .NotEq (.at 2) (.at 3)) (.cons (.e (.call 21 (.cons (.ex (.v 2)) (.cons (.ex (.v 3)) .nil)))) .nil))) .nil) (.c (.int 1)))) (.ex (.lst .nil))) .nil) (.v 2))
def lc__law_drawn_lot_1 : Ex := (.lc (.seq (.v 1)) (.nm 3) [("house", 3)] (.cons (.cmp .Eq (.ex (.call 18 (.cons (.at 0) (.cons (.ex (.v 2)) .nil)))) (.ex (.c (.int 0)))) .nil) (.v 3))
def lc__law_any_liars_1 : Ex := (.lc (.rng (.cons (.at 1) .nil)) (.nm 4) [("house", 4)] .nil (.tup (.cons (.v 4) .nil)))
def lc__law_any_liars_2 : Ex := (.lc (.rng (.cons (.ex (.bin .Add (.ex (.c (.int 1))) (.ex (.call 18 (.cons (.at 0) (.cons (.ex (.v 2)) .nil)))))) .nil)) (.nm 5) [("turn", 5)] .nil (.call 25 (.cons (.at 0) (.cons (.ex (.rl1 false (.at 1))) (.cons (.ex (.bin .Add (.ex (.c (.int 2))) (.ex (.call 18 (.cons (.at 0) (.cons (.ex (.c (.int 2))) .nil)))))) .nil)))))
def lc__law_hold_1 : Ex := (.lc (.rng (.cons (.ex (.ite (.cmp .NotEq (.at 6) (.ex (.tup .nil))) (.ix (.at 6) (.ex (.bin .Sub (.ex (.bi .len (.cons (.at 6) .nil))) (.ex (.c (.int 1)))))) (.c (.int 0)))) (.cons (.ex (.bi .len (.cons (.at 0) .nil))) .nil))) (.nm 7) [("place", 7)] .nil (.bin .Add (.at 6) (.ex (.tup (.cons (.v 7) .nil)))))
def lc__law_hold_2 : Ex := (.lc (.seq (.v 6)) (.nm 7) [("place", 7)] .nil (.ix (.at 0) (.at 7)))
def lc__law_hold_3 : Ex := (.lc (.seq (.v 6)) (.nm 7) [("place", 7)] .nil (.ix (.at 0) (.at 7)))
def fb__law_hold_1 : Sts := (.cons (.set 5 (.bin .Add (.at 5) (.ex (.lc (.rng (.cons (.ex (.ite (.cmp .NotEq (.at 6) (.ex (.tup .nil))) (.ix (.at 6) (.ex (.bin .Sub (.ex (.bi .len (.cons (.at 6) .nil))) (.ex (.c (.int 1)))))) (.c (.int 0)))) (.cons (.ex (.bi .len (.cons (.at 0) .nil))) .nil))) (.nm 7) [("place", 7)] .nil (.bin .Add (.at 6) (.ex (.tup (.cons (.v 7) .nil)))))))) .nil)
def fb__law_hold_2 : Sts := (.cons (.set 5 (.lst .nil)) (.cons (.for (.seq (.v 3)) (.nm 6) (.cons (.set 5 (.bin .Add (.at 5) (.ex (.lc (.rng (.cons (.ex (.ite (.cmp .NotEq (.at 6) (.ex (.tup .nil))) (.ix (.at 6) (.ex (.bin .Sub (.ex (.bi .len (.cons (.at 6) .nil))) (.ex (.c (.int 1)))))) (.c (.int 0)))) (.cons (.ex (.bi .len (.cons (.at 0) .nil))) .nil))) (.nm 7) [("place", 7)] .nil (.bin .Add (.at 6) (.ex (.tup (.cons (.v 7) .nil)))))))) .nil)) (.cons (.set 3 (.v 5)) .nil)))
def fb__law_hold_3 : Sts := (.cons (.ite (.e (.call 21 (.cons (.ex (.v 1)) (.cons (.ex (.bi .sum (.cons (.ex (.lc (.seq (.v 6)) (.nm 7) [("place", 7)] .nil (.ix (.at 0) (.at 7)))) (.cons (.ex (.tup .nil)) .nil)))) .nil)))) (.cons (.ret (.bi .tuple (.cons (.ex (.lc (.seq (.v 6)) (.nm 7) [("place", 7)] .nil (.ix (.at 0) (.at 7)))) .nil))) .nil) .nil) .nil)
def fb__law_low_1 : Sts := (.cons (.par [2, 3] (.cons (.v 3) (.cons (.bin .Mod (.ex (.bi .int (.cons (.at 2) .nil))) (.at 3)) .nil))) .nil)
def fb__law_most_1 : Sts := (.cons (.set 1 (.ite (.e (.call 30 (.cons (.ex (.v 1)) (.cons (.ex (.v 2)) .nil)))) (.v 2) (.v 1))) .nil)
def fb__law_least_1 : Sts := (.cons (.set 1 (.ite (.e (.call 30 (.cons (.ex (.v 2)) (.cons (.ex (.v 1)) .nil)))) (.v 2) (.v 1))) .nil)
def lc__law_ends_1 : Ex := (.lc (.enum (.v 1)) (.tup (.cons (.nm 6) (.cons (.nm 7) .nil))) [("house", 6), ("one", 7)] (.cons (.e (.call 30 (.cons (.ex (.v 7)) (.cons (.ex (.v 4)) .nil)))) .nil) (.v 6))
def lc__law_ends_2 : Ex := (.lc (.enum (.v 1)) (.tup (.cons (.nm 6) (.cons (.nm 7) .nil))) [("house", 6), ("one", 7)] (.cons (.e (.call 30 (.cons (.ex (.v 4)) (.cons (.ex (.v 7)) .nil)))) .nil) (.v 6))
def fb__law_ends_1 : Sts := (.cons (.set 5 (.bi .tuple (.cons (.ex (.lc (.enum (.v 1)) (.tup (.cons (.nm 6) (.cons (.nm 7) .nil))) [("house", 6), ("one", 7)] (.cons (.e (.call 30 (.cons (.ex (.v 7)) (.cons (.ex (.v 4)) .nil)))) .nil) (.v 6))) .nil))) (.cons (.set 8 (.bi .tuple (.cons (.ex (.lc (.enum (.v 1)) (.tup (.cons (.nm 6) (.cons (.nm 7) .nil))) [("house", 6), ("one", 7)] (.cons (.e (.call 30 (.cons (.ex (.v 4)) (.cons (.ex (.v 7)) .nil)))) .nil) (.v 6))) .nil))) (.cons (.set 2 (.bin .Add (.at 2) (.ex (.ite (.e (.call 22 (.cons (.ex (.v 0)) (.cons (.ex (.v 5)) .nil)))) (.lst (.cons (.v 4) .nil)) (.lst .nil))))) (.cons (.set 3 (.bin .Add (.at 3) (.ex (.ite (.e (.call 22 (.cons (.ex (.v 0)) (.cons (.ex (.v 8)) .nil)))) (.lst (.cons (.v 4) .nil)) (.lst .nil))))) .nil))))
def lc__law_new_1 : Ex := (.lc (.rng (.cons (.ex (.bi .len (.cons (.at 1) .nil))) .nil)) (.nm 8) [("other", 8)] .nil (.ite (.cmp .In (.at 8) (.at 2)) (.dget 4 (.ex (.tup (.cons (.v 8) (.cons (.v 6) .nil)))) (.ex (.tup (.cons (.c (.int 0)) (.cons (.c (.int 1)) .nil))))) (.ix (.at 1) (.at 8))))
def fb__law_new_1 : Sts := (.cons (.set 7 (.lc (.rng (.cons (.ex (.bi .len (.cons (.at 1) .nil))) .nil)) (.nm 8) [("other", 8)] .nil (.ite (.cmp .In (.at 8) (.at 2)) (.dget 4 (.ex (.tup (.cons (.v 8) (.cons (.v 6) .nil)))) (.ex (.tup (.cons (.c (.int 0)) (.cons (.c (.int 1)) .nil))))) (.ix (.at 1) (.at 8))))) (.cons (.set 9 (.call 33 (.cons (.ex (.v 0)) (.cons (.ex (.v 7)) .nil)))) (.cons (.ex (.app 5 (.ite (.cmp .In (.at 6) (.at 2)) (.c .none) (.call 34 (.cons (.ex (.ix (.at 9) (.ex (.c (.int 0))))) (.cons (.ex (.ix (.at 9) (.ex (.c (.int 1))))) .nil)))))) .nil)))
def fb__law_halved_1 : Sts := (.cons (.par [0, 2] (.cons (.tup (.cons (.ix (.at 0) (.ex (.c (.int 0)))) (.cons (.bin .Mult (.ex (.ix (.at 0) (.ex (.c (.int 1))))) (.ex (.c (.int 2)))) .nil))) (.cons (.bin .Add (.at 2) (.ex (.c (.int 1)))) .nil))) .nil)
def lc_law_1 : Ex := (.lc (.rng (.cons (.at 6) .nil)) (.nm 10) [("house", 10)] .nil (.call 36 (.cons (.at 5) .nil)))
def lc_law_2 : Ex := (.lc (.seq (.ix (.ex (.call 16 (.cons (.ex (.v 6)) .nil))) (.ex (.c (.int 1))))) (.nm 15) [("way", 15)] (.cons (.bo true (.cons (.cmp .In (.ex (.ix (.at 15) (.ex (.c (.int 0))))) (.at 12)) (.cons (.cmp .Gt (.ex (.call 18 (.cons (.at 5) (.cons (.ex (.c (.int 4))) .nil)))) (.ex (.c (.int 0)))) .nil))) .nil) (.tup (.cons (.v 15) (.cons (.call 36 (.cons (.at 5) .nil)) .nil))))
def lc_law_3 : Ex := (.lc (.rng (.cons (.at 6) .nil)) (.nm 10) [("house", 10)] (.cons (.cmp .NotIn (.at 10) (.at 12)) .nil) (.v 10))
def lc_law_4 : Ex := (.lc (.seq (.v 17)) (.nm 10) [("house", 10)] .nil (.ix (.at 13) (.at 10)))
def lc_law_5 : Ex := (.lc (.seq (.v 17)) (.nm 10) [("house", 10)] .nil (.ix (.at 16) (.at 10)))
def fb_law_1 : Sts := (.cons (.set 2 (.lc (.rng (.cons (.at 6) .nil)) (.nm 10) [("house", 10)] .nil (.call 36 (.cons (.at 5) .nil)))) (.cons (.ite (.cmp .Eq (.ex (.call 18 (.cons (.at 5) (.cons (.ex (.c (.int 2))) .nil)))) (.ex (.c (.int 0)))) (.cons (.setIx 2 (.ex (.c (.int 0))) (.ix (.at 2) (.ex (.bin .Sub (.at 6) (.ex (.c (.int 1))))))) .nil) .nil) (.cons (.set 11 (.call 33 (.cons (.ex (.v 7)) (.cons (.ex (.v 2)) .nil)))) (.cons (.ite (.nt (.e (.call 20 (.cons (.ex (.tup (.cons (.call 12 (.cons (.ex (.v 7)) (.cons (.ex (.bi .tuple (.cons (.at 2) .nil))) .nil))) (.cons (.call 13 (.cons (.ex (.v 7)) (.cons (.ex (.bi .tuple (.cons (.at 2) .nil))) .nil))) .nil)))) (.cons (.ex (.tup (.cons (.v 11) (.cons (.call 34 (.cons (.ex (.ix (.at 11) (.ex (.c (.int 0))))) (.cons (.ex (.ix (.at 11) (.ex (.c (.int 1))))) .nil))) .nil)))) .nil))))) (.cons (.ret (.c (.bool false))) .nil) .nil) (.cons (.par [12, 13] (.cons (.call 28 (.cons (.at 5) (.cons (.ex (.v 7)) .nil))) (.cons (.bi .tuple (.cons (.at 2) .nil)) .nil))) (.cons (.set 14 (.bi .tupleN (.cons (.ex (.lc (.seq (.ix (.ex (.call 16 (.cons (.ex (.v 6)) .nil))) (.ex (.c (.int 1))))) (.nm 15) [("way", 15)] (.cons (.bo true (.cons (.cmp .In (.ex (.ix (.at 15) (.ex (.c (.int 0))))) (.at 12)) (.cons (.cmp .Gt (.ex (.call 18 (.cons (.at 5) (.cons (.ex (.c (.int 4))) .nil)))) (.ex (.c (.int 0)))) .nil))) .nil) (.tup (.cons (.v 15) (.cons (.call 36 (.cons (.at 5) .nil)) .nil))))) .nil))) (.cons (.par [2, 16] (.cons (.callK 14 (.cons (.ex (.v 7)) (.cons (.ex (.v 13)) (.cons (.ex (.v 12)) .nil))) (.cons (.at 14) .nil)) (.cons (.call 37 (.cons (.ex (.v 7)) (.cons (.ex (.v 13)) (.cons (.ex (.v 12)) (.cons (.ex (.v 14)) .nil))))) .nil))) (.cons (.ite (.nt (.e (.call 20 (.cons (.ex (.v 2)) (.cons (.ex (.v 16)) .nil))))) (.cons (.ret (.c (.bool false))) .nil) .nil) (.cons (.set 17 (.lc (.rng (.cons (.at 6) .nil)) (.nm 10) [("house", 10)] (.cons (.cmp .NotIn (.at 10) (.at 12)) .nil) (.v 10))) (.cons (.ite (.cmp .Is (.at 8) (.ex (.c .none))) (.cons (.par [18, 19] (.cons (.lc (.seq (.v 17)) (.nm 10) [("house", 10)] .nil (.ix (.at 13) (.at 10))) (.cons (.lc (.seq (.v 17)) (.nm 10) [("house", 10)] .nil (.ix (.at 16) (.at 10))) .nil))) (.cons (.ite (.bo false (.cons (.e (.call 30 (.cons (.ex (.call 31 (.cons (.ex (.v 18)) .nil))) (.cons (.ex (.call 31 (.cons (.ex (.v 19)) .nil))) .nil)))) (.cons (.e (.call 30 (.cons (.ex (.call 32 (.cons (.ex (.v 19)) .nil))) (.cons (.ex (.call 32 (.cons (.ex (.v 18)) .nil))) .nil)))) .nil))) (.cons (.ret (.c (.bool false))) .nil) .nil) (.cons (.set 20 (.call 35 (.cons (.ex (.v 19)) .nil))) (.cons (.ite (.e (.call 30 (.cons (.ex (.call 35 (.cons (.ex (.v 18)) .nil))) (.cons (.ex (.tup (.cons (.bin .Mult (.ex (.c (.int 2))) (.ex (.ix (.at 20) (.ex (.c (.int 0)))))) (.cons (.ix (.at 20) (.ex (.c (.int 1)))) .nil)))) .nil)))) (.cons (.ret (.c (.bool false))) .nil) .nil) .nil)))) .nil) .nil))))))))))
def fb_law_2 : Sts := (.cons (.set 5 (.call 17 (.cons (.ex (.v 0)) (.cons (.ex (.v 4)) .nil)))) (.cons (.set 6 (.bin .Add (.ex (.c (.int 3))) (.ex (.call 18 (.cons (.at 5) (.cons (.ex (.c (.int 3))) .nil)))))) (.cons (.set 7 (.call 26 (.cons (.at 5) (.cons (.ex (.v 6)) (.cons (.ex (.c (.int 4))) .nil))))) (.cons (.set 8 (.call 27 (.cons (.ex (.v 7)) (.cons (.ex (.rl1 false (.at 6))) (.cons (.ex (.c (.int 3))) .nil))))) (.cons (.ite (.nt (.e (.call 20 (.cons (.ex (.call 5 (.cons (.ex (.v 7)) (.cons (.ex (.rl1 true (.at 6))) (.cons (.ex (.c (.int 3))) .nil))))) (.cons (.ex (.v 8)) .nil))))) (.cons (.ret (.c (.bool false))) .nil) .nil) (.cons (.for (.rng (.cons (.ex (.c (.int 6))) .nil)) (.nm 9) (.cons (.set 2 (.lc (.rng (.cons (.at 6) .nil)) (.nm 10) [("house", 10)] .nil (.call 36 (.cons (.at 5) .nil)))) (.cons (.ite (.cmp .Eq (.ex (.call 18 (.cons (.at 5) (.cons (.ex (.c (.int 2))) .nil)))) (.ex (.c (.int 0)))) (.cons (.setIx 2 (.ex (.c (.int 0))) (.ix (.at 2) (.ex (.bin .Sub (.at 6) (.ex (.c (.int 1))))))) .nil) .nil) (.cons (.set 11 (.call 33 (.cons (.ex (.v 7)) (.cons (.ex (.v 2)) .nil)))) (.cons (.ite (.nt (.e (.call 20 (.cons (.ex (.tup (.cons (.call 12 (.cons (.ex (.v 7)) (.cons (.ex (.bi .tuple (.cons (.at 2) .nil))) .nil))) (.cons (.call 13 (.cons (.ex (.v 7)) (.cons (.ex (.bi .tuple (.cons (.at 2) .nil))) .nil))) .nil)))) (.cons (.ex (.tup (.cons (.v 11) (.cons (.call 34 (.cons (.ex (.ix (.at 11) (.ex (.c (.int 0))))) (.cons (.ex (.ix (.at 11) (.ex (.c (.int 1))))) .nil))) .nil)))) .nil))))) (.cons (.ret (.c (.bool false))) .nil) .nil) (.cons (.par [12, 13] (.cons (.call 28 (.cons (.at 5) (.cons (.ex (.v 7)) .nil))) (.cons (.bi .tuple (.cons (.at 2) .nil)) .nil))) (.cons (.set 14 (.bi .tupleN (.cons (.ex (.lc (.seq (.ix (.ex (.call 16 (.cons (.ex (.v 6)) .nil))) (.ex (.c (.int 1))))) (.nm 15) [("way", 15)] (.cons (.bo true (.cons (.cmp .In (.ex (.ix (.at 15) (.ex (.c (.int 0))))) (.at 12)) (.cons (.cmp .Gt (.ex (.call 18 (.cons (.at 5) (.cons (.ex (.c (.int 4))) .nil)))) (.ex (.c (.int 0)))) .nil))) .nil) (.tup (.cons (.v 15) (.cons (.call 36 (.cons (.at 5) .nil)) .nil))))) .nil))) (.cons (.par [2, 16] (.cons (.callK 14 (.cons (.ex (.v 7)) (.cons (.ex (.v 13)) (.cons (.ex (.v 12)) .nil))) (.cons (.at 14) .nil)) (.cons (.call 37 (.cons (.ex (.v 7)) (.cons (.ex (.v 13)) (.cons (.ex (.v 12)) (.cons (.ex (.v 14)) .nil))))) .nil))) (.cons (.ite (.nt (.e (.call 20 (.cons (.ex (.v 2)) (.cons (.ex (.v 16)) .nil))))) (.cons (.ret (.c (.bool false))) .nil) .nil) (.cons (.set 17 (.lc (.rng (.cons (.at 6) .nil)) (.nm 10) [("house", 10)] (.cons (.cmp .NotIn (.at 10) (.at 12)) .nil) (.v 10))) (.cons (.ite (.cmp .Is (.at 8) (.ex (.c .none))) (.cons (.par [18, 19] (.cons (.lc (.seq (.v 17)) (.nm 10) [("house", 10)] .nil (.ix (.at 13) (.at 10))) (.cons (.lc (.seq (.v 17)) (.nm 10) [("house", 10)] .nil (.ix (.at 16) (.at 10))) .nil))) (.cons (.ite (.bo false (.cons (.e (.call 30 (.cons (.ex (.call 31 (.cons (.ex (.v 18)) .nil))) (.cons (.ex (.call 31 (.cons (.ex (.v 19)) .nil))) .nil)))) (.cons (.e (.call 30 (.cons (.ex (.call 32 (.cons (.ex (.v 19)) .nil))) (.cons (.ex (.call 32 (.cons (.ex (.v 18)) .nil))) .nil)))) .nil))) (.cons (.ret (.c (.bool false))) .nil) .nil) (.cons (.set 20 (.call 35 (.cons (.ex (.v 19)) .nil))) (.cons (.ite (.e (.call 30 (.cons (.ex (.call 35 (.cons (.ex (.v 18)) .nil))) (.cons (.ex (.tup (.cons (.bin .Mult (.ex (.c (.int 2))) (.ex (.ix (.at 20) (.ex (.c (.int 0)))))) (.cons (.ix (.at 20) (.ex (.c (.int 1)))) .nil)))) .nil)))) (.cons (.ret (.c (.bool false))) .nil) .nil) .nil)))) .nil) .nil))))))))))) (.cons (.par [20, 21] (.cons (.call 29 (.cons (.ex (.call 18 (.cons (.at 5) (.cons (.ex (.bin .Pow (.ex (.c (.int 10))) (.ex (.c (.int 6))))) .nil)))) (.cons (.ex (.bin .Add (.ex (.c (.int 1))) (.ex (.call 18 (.cons (.at 5) (.cons (.ex (.c (.int 50))) .nil)))))) .nil))) (.cons (.call 29 (.cons (.ex (.bin .Add (.ex (.c (.int 1))) (.ex (.call 18 (.cons (.at 5) (.cons (.ex (.c (.int 9))) .nil)))))) (.cons (.ex (.bin .Add (.ex (.c (.int 1))) (.ex (.call 18 (.cons (.at 5) (.cons (.ex (.bin .Pow (.ex (.c (.int 10))) (.ex (.c (.int 6))))) .nil)))))) .nil))) .nil))) (.cons (.ite (.nt (.e (.call 20 (.cons (.ex (.call 15 (.cons (.ex (.v 20)) (.cons (.ex (.v 21)) .nil)))) (.cons (.ex (.call 38 (.cons (.ex (.v 20)) (.cons (.ex (.v 21)) .nil)))) .nil))))) (.cons (.ret (.c (.bool false))) .nil) .nil) .nil))))))))
def defs : List Df := [d_is_within, d_put_together, d_may_lie, d_next_places, d_held_by, d_cover_of, d_common_part, d_fraction_of, d_is_less, d_middle, d_least_of, d_greatest_of, d_ends_of, d_middle_of, d_round_values, d_rounds_till, d_complete, d__law_box, d__law_take, d__law_pick, d__law_same, d__law_in, d__law_may, d__law_all_lying, d__law_greatest, d__law_drawn_lot, d__law_any_liars, d__law_hold, d__law_any_lying, d__law_low, d__law_below, d__law_most, d__law_least, d__law_ends, d__law_amid, d__law_apart, d__law_fraction, d__law_new, d__law_halved, d_law]
def blts : List Str := ["abs", "all", "any", "bool", "dict", "enumerate", "int", "isinstance", "len", "list", "max", "min", "range", "set", "sorted", "str", "sum", "tuple", "zip"]
abbrev tab : List (Str × List Str) := tabOf defs


/-! ### the law's draws -/
def takeF (b : Int × Int) (m : Int) : Int × (Int × Int) :=
  if 0 < b.1 then (b.1 % m, (b.1 / m, b.2))
  else (((b.2 * 40009 + 337) % 2147483647 * 2147483629 + (((b.2 * 40009 + 337) % 2147483647 * 40692 + 97) % 2147483563 + 1)) / 7451 % m, (b.1, ((b.2 * 40009 + 337) % 2147483647 * 40692 + 97) % 2147483563 + 1))
theorem sm_lit {i : Int} {k : Nat} (h : i.natAbs < k) (hk : k ≤ 2 ^ 2000) : sm i := Nat.lt_of_lt_of_le h hk
theorem sm_c (i : Int) (h : i.natAbs < 2 ^ 200 := by decide) : sm i := sm_of h (by decide)
theorem sm_range {i : Int} (h0 : 0 ≤ i) (h : i < 2 ^ 200) : sm i := sm_of (k := 200) (by omega) (by decide)
theorem takeF_rng {b : Int × Int} {m : Int} (hb : okB b) (hm : 0 < m) : 0 ≤ (takeF b m).1 ∧ (takeF b m).1 < m ∧ okB (takeF b m).2 := by
  unfold takeF okB at *
  split
  · exact ⟨Int.emod_nonneg _ (by omega), Int.emod_lt_of_pos _ hm, hb⟩
  · refine ⟨Int.emod_nonneg _ (by omega), Int.emod_lt_of_pos _ hm, ?_, ?_⟩
    · have := Int.emod_nonneg ((b.2 * 40009 + 337) % 2147483647 * 40692 + 97) (b := 2147483563) (by decide)
      show 0 ≤ _ % _ + 1; omega
    · have := Int.emod_lt_of_pos ((b.2 * 40009 + 337) % 2147483647 * 40692 + 97) (b := 2147483563) (by decide)
      show _ % _ + 1 < _; omega
theorem s_take {n : Nat} {m : Int} (hm : 0 < m) (hm2 : m < 2 ^ 200) : Bx (fns defs (n + 1) 18) [.int m] fun v => ∃ x : Int, v = .val (.int x) ∧ 0 ≤ x ∧ x < m := by
  refine Bx_def (d := d__law_take) rfl fun b hb => ?_
  have hmm : sm m := sm_range (by omega) hm2
  obtain ⟨g, s⟩ := b
  have hb1 : 0 ≤ s := hb.1
  have hb2 : s < 2147483600 := hb.2
  have k1 : sm s := sm_range hb1 (by omega)
  have r0 := Int.emod_nonneg (s * 40009 + 337) (b := 2147483647) (by decide)
  have r1 := Int.emod_lt_of_pos (s * 40009 + 337) (b := 2147483647) (by decide)
  have t0 := Int.emod_nonneg ((s * 40009 + 337) % 2147483647 * 40692 + 97) (b := 2147483563) (by decide)
  have t1 := Int.emod_lt_of_pos ((s * 40009 + 337) % 2147483647 * 40692 + 97) (b := 2147483563) (by decide)
  simp_arith [d__law_take, bx]
  split
  · simp_arith [o_mod hm, o_fdiv hm hmm, ixn_lit]
    exact bxR_rt (b := (g / m, s)) hb ⟨_, rfl, Int.emod_nonneg _ (by omega), Int.emod_lt_of_pos _ hm⟩
  · simp_arith [o_mul k1 (sm_c 40009), o_mod (show (0:Int) < 2147483647 by decide), o_mod (show (0:Int) < 2147483563 by decide), o_mul (sm_range r0 (by omega)) (sm_c 40692), o_mul (sm_range r0 (by omega)) (sm_c 2147483629), o_fdiv (show (0:Int) < 7451 by decide) (sm_c 7451), o_mod hm, ixn_lit]
    refine bxR_rt (b := (g, ((s * 40009 + 337) % 2147483647 * 40692 + 97) % 2147483563 + 1)) ?_ ?_
    · exact okB_mk (by omega) (by omega)
    · exact ⟨_, rfl, Int.emod_nonneg _ (by omega), Int.emod_lt_of_pos _ hm⟩
theorem at_any {ds : List D} {i : Int} (h0 : 0 ≤ i) (h : i < ds.length) : ∃ d, L2.atI ds i = some d ∧ d ∈ ds := by
  have hl : i.toNat < ds.length := by omega
  have := at_mapZ (fun d : D => d) (xs := ds) h0 hl
  rw [List.map_id'] at this
  exact ⟨_, this, List.getElem_mem hl⟩
theorem s_pick {n : Nat} {ds : List D} (h : ds ≠ []) (hl : ds.length < 1000000) : Bx (fns defs (n + 2) 19) [.list ds] fun v => ∃ d, v = .val d ∧ d ∈ ds := by
  refine Bx_def (d := d__law_pick) rfl fun b hb => ?_
  have h1 : 0 < ds.length := List.length_pos_iff.mpr h
  simp_arith [d__law_pick]
  refine W_callB [.int ds.length] (s_take (n := n) (m := (ds.length : Int)) (by omega) (by omega)) rfl rfl (.inr rfl) rfl hb ?_
  intro v b' hb' hv
  obtain ⟨x, rfl, hx, hx2⟩ := hv
  obtain ⟨d, hd, hm⟩ := at_any hx hx2
  simp_arith [hd]
  exact bxR_rt hb' ⟨d, rfl, hm⟩
theorem s_box {n : Nat} (ns : List Int) (hn : ns.length ≤ 63) (k : Int) (hk : 0 ≤ k) (hk2 : k ≤ 1000) : R.W (rv (fns defs (n + 1) 17) [.list (ns.map .int), .int k]) fun s => ∃ b, s = .own (bx b) ∧ okB b := by
  rw [rv_def (d := d__law_box) rfl]
  have ksm : sm k := sm_range hk (by omega)
  have m0 : ∀ x : Int, 0 ≤ x % 2147483563 := fun x => Int.emod_nonneg _ (by decide)
  have m1 : ∀ x : Int, x % 2147483563 < 2147483563 := fun x => Int.emod_lt_of_pos _ (by decide)
  have msm : ∀ x : Int, sm (x % 2147483563) := fun x => sm_range (m0 x) (by have := m1 x; omega)
  have key : ∀ (g x : Int), ∃ b, S.own (.list [.int g, .int ((x % 2147483563) + 1)]) = S.own (bx b) ∧ okB b := fun g x => ⟨(g, x % 2147483563 + 1), rfl, okB_mk (by have := m0 x; omega) (by have := m1 x; omega)⟩
  have p18 : opD .Pow (.int 10) (.int 18) = some (.val (.int 1000000000000000000)) := by rw [o_pow (by decide)]; rfl
  have mp : (0:Int) < 2147483563 := by decide
  have z2 := szl (show 2 ≤ 16777216 by decide)
  have e0 : d__law_box.body = .cons (Sts.hd d__law_box.body) (.cons (Sts.hd d__law_box.body.tl) d__law_box.body.tl.tl) := rfl
  have fin : ∀ (c : Int), R.W (Sts.den (fns defs n) d__law_box.body.tl.tl [S.val (.list (ns.map .int)), S.val (.int k), S.val (.int c), .un]) fun a => R.W (rtv a) fun s => ∃ b, s = .own (bx b) ∧ okB b := by
    intro c
    by_cases h : 1000000000000000000 ≤ c
    · simp_arith [d__law_box, Sts.tl, p18, h, o_mod mp, o_mul (msm _) (sm_c 46011031), o_mul (sm_c 9343) ksm, if_pos z2]
      exact key _ _
    · simp_arith [d__law_box, Sts.tl, p18, h, o_mod mp, o_mul (msm _) (sm_c 46011031), o_mul (sm_c 9343) ksm, if_pos z2]
      exact key _ _
  rw [e0]
  generalize d__law_box.body.tl.tl = B at fin ⊢
  simp_arith [d__law_box, Sts.hd, Sts.tl, o_mul (sm_c 43019) ksm]
  by_cases h : k < ns.length
  · have e1 := at_mapZ PyData.int (xs := ns) hk (by omega)
    simp_arith [h, e1, Sts.tl]
    exact fin _
  · by_cases h2 : (0 : Int) < ns.length
    · have q0 := Int.emod_nonneg k (b := (ns.length : Int)) (by omega)
      have q1 := Int.emod_lt_of_pos k h2
      have e1 := at_mapZ PyData.int (xs := ns) q0 (by omega)
      simp_arith [h, h2, Sts.tl, o_mod h2, e1, o_mod mp, o_mul (msm _) (sm_c 81077)]
      exact fin _
    · simp_arith [h, h2, Sts.tl]
      exact fin _


/-! ### told as it is due -/
theorem s_same : ∀ (m : Nat) (d : D) (n : Nat), plD d = true → d.depth ≤ m → rv (fns defs (n + m + 1) 20) [d, d] = .ok (.val (.bool true))
  | m, .none, n, _, _ => by
    rw [rv_def (d := d__law_same) rfl]
    simp_arith [d__law_same]
  | m, .bool b, n, _, _ => by
    rw [rv_def (d := d__law_same) rfl]
    cases b <;> simp_arith [d__law_same]
  | m, .int i, n, _, _ => by
    rw [rv_def (d := d__law_same) rfl]
    simp_arith [d__law_same]
  | m, .tuple ds, n, hp, hd => by
    have hp : plDs ds = true := by rw [plD] at hp; exact hp
    have hd : PyData.depthAll ds + 1 ≤ m := by simp only [PyData.depth] at hd; exact hd
    obtain ⟨m, rfl⟩ : ∃ k, m = k + 1 := ⟨m - 1, by omega⟩
    rw [rv_def (d := d__law_same) rfl]
    refine W_eq ?_
    simp_arith [d__law_same, zip_self]
    refine W_for (fun d => .tuple [d, d]) (fun rest ρ => (∃ a b, ρ = [.val (.tuple ds), .val (.tuple ds), a, b]) ∧ ∀ d ∈ rest, d ∈ ds) ?_ ?_ ds _ ⟨⟨_, _, rfl⟩, fun _ h => h⟩
    · intro d r ρ ⟨⟨a, b, e⟩, hm⟩
      subst e
      have h1 := hm d (List.mem_cons_self ..)
      have ih := s_same m d n (plDs_all.mp hp d h1) (Nat.le_trans (depth_mem h1) (by omega))
      rw [show n + m + 1 = n + (m + 1) by omega] at ih
      simp_arith [ih]
      exact ⟨⟨_, _, rfl⟩, fun e he => hm e (List.mem_cons_of_mem _ he)⟩
    · intro ρ ⟨⟨a, b, e⟩, _⟩
      subst e
      simp_arith
/-! ### lots -/
theorem s_law_in {n : Nat} (a b : List Int) : rv (fns defs (n + 1) 21) [tI a, tI b] = .ok (.val (.bool (inn a b))) := by
  rw [rv_def (d := d__law_in) rfl]
  simp_arith [d__law_in, tI]
  rw [ev_lcF .int (fun x => !decide (x ∈ b)) (fun _ => .int 1) a (by simp_arith; rfl) (fun x hx => by
    by_cases h : x ∈ b <;> simp_arith [nin_I, h, decide_true, decide_false])]
  simp_arith [ones_eq, filter_empty]
  rfl
theorem s_law_may {n : Nat} (L : List (List Int)) (lot : List Int) : rv (fns defs (n + 2) 22) [tT L, tI lot] = .ok (.val (.bool (mayB L lot))) := by
  rw [rv_def (d := d__law_may) rfl]
  simp_arith [d__law_may, tT]
  rw [ev_lcF tI (inn lot) (fun _ => .int 1) L (by simp_arith; rfl) (fun x hx => by
    cases h : inn lot x <;> simp_arith [s_law_in, h])]
  simp_arith [ones_ne, filter_any]
  rfl

theorem s_is_within {n : Nat} (a b : List Int) : rv (fns defs (n + 1) 0) [tI a, tI b] = .ok (.val (.bool (inn a b))) := by
  rw [rv_def (d := d_is_within) rfl]
  simp_arith [d_is_within, tI]
  rw [ev_lcM .int (fun x => .bool (decide (x ∈ b))) a (by simp_arith; rfl) (fun x hx => by simp_arith [in_I])]
  simp_arith
  rw [show a.map (fun x => PyData.bool (decide (x ∈ b))) = (a.map fun x => decide (x ∈ b)).map .bool by rw [List.map_map]; rfl, bu_all]
  simp_arith
  rw [List.all_map]
  rfl
theorem s_may_lie {n : Nat} (L : List (List Int)) (lot : List Int) : rv (fns defs (n + 2) 2) [tT L, tI lot] = .ok (.val (.bool (mayB L lot))) := by
  rw [rv_def (d := d_may_lie) rfl]
  simp_arith [d_may_lie, tT]
  rw [ev_lcM tI (fun x => .bool (inn lot x)) L (by simp_arith; rfl) (fun x hx => by simp_arith [s_is_within])]
  simp_arith
  rw [show L.map (fun x => PyData.bool (inn lot x)) = (L.map fun x => inn lot x).map .bool by rw [List.map_map]; rfl, bu_any]
  simp_arith
  rw [List.any_map]
  rfl


def grL (L : List (List Int)) : List (List Int) := (DLr.sortU DLr.ltL L).filter fun a => ((DLr.sortU DLr.ltL L).filter fun b => !decide (a = b) && inn a b).isEmpty
theorem s_greatest {n : Nat} {L : List (List Int)} (h : L.length ≤ 62) : rv (fns defs (n + 2) 24) [.list (L.map tI)] = .ok (.val (tT (grL L))) := by
  rw [rv_def (d := d__law_greatest) rfl]
  simp_arith [d__law_greatest, sset_L h]
  unfold grL tT
  generalize DLr.sortU DLr.ltL L = U
  rw [ev_lcF tI (fun a => (U.filter fun b => !decide (a = b) && inn a b).isEmpty) tI U (by simp_arith; rfl) (fun a ha => by
    simp_arith
    rw [ev_lcF tI (fun b => !decide (a = b) && inn a b) (fun _ => .int 1) U (by simp_arith; rfl) (fun b hb => by
      by_cases e : a = b
      · simp_arith [ne_tI, e, Bool.false_and]
      · cases hi : inn a b <;> simp_arith [ne_tI, e, s_law_in, hi, Bool.and_false, Bool.and_true])]
    simp_arith [ones_eq]
    cases hh : (U.filter fun b => !decide (a = b) && inn a b).isEmpty <;> simp_arith)]
  simp_arith
theorem s_drawn {n : Nat} (hs : List Int) (k : Int) (h0 : 0 < k) (h1 : k < 1000) : Bx (fns defs (n + 2) 25) [.list (hs.map .int), .int k] fun v => ∃ l : List Int, v = .val (tI l) ∧ l.Sublist hs := by
  refine Bx_def (d := d__law_drawn_lot) rfl fun b hb => ?_
  simp_arith [d__law_drawn_lot]
  refine W_lc .int hs (fun out rest ρ => ∃ (b : Int × Int) (t : S) (l pre : List Int), okB b ∧ ρ = [.bor (bx b), .val (.list (hs.map .int)), .val (.int k), t] ∧ out = l.map .int ∧ pre ++ rest = hs ∧ l.Sublist pre) (ρ1 := [.bor (bx b), .val (.list (hs.map .int)), .val (.int k), .un]) ?_ ?_ ?_
  · simp_arith
    exact ⟨b, _, [], [], hb, rfl, rfl, rfl, .refl _⟩
  · rintro out x r ρ ⟨b, t, l, pre, hb, rfl, rfl, e, hl⟩
    simp_arith
    refine W_callB [.int k] (s_take (n := n) h0 (by omega)) rfl rfl (.inr rfl) rfl hb ?_
    rintro v b' hb' ⟨x', rfl, _, _⟩
    by_cases hx : x' = 0
    · simp_arith [hx]
      exact ⟨b', _, l ++ [x], pre ++ [x], hb', rfl, by simp, by simp [e], hl.append (.refl _)⟩
    · simp_arith [hx]
      exact ⟨b', _, l, pre ++ [x], hb', rfl, rfl, by simp [e], hl.trans (List.sublist_append_left _ _)⟩
  · rintro out ρ' ⟨b', t, l, pre, hb', rfl, rfl, e, hl⟩
    rw [List.append_nil] at e
    subst e
    simp_arith [backE]
    exact bxR_rt hb' ⟨l, rfl, hl⟩
/-- a drawn family -/
def fam (m k : Nat) (L : List (List Int)) : Prop := L ≠ [] ∧ L.length ≤ k ∧ ∀ l ∈ L, l.Sublist (rgI m)
theorem fam.flat {m k : Nat} {L : List (List Int)} (h : fam m k L) : L.flatten.length ≤ m * k ∧ (DLr.sortU DLr.ltI L.flatten).length ≤ m := by
  have h1 := flatMap_len (f := id) (k := m) (xs := L) fun l hl => by
    have := (h.2.2 l hl).length_le
    rw [rgI_len] at this
    exact this
  rw [List.flatMap_id] at h1
  refine ⟨Nat.le_trans h1 (Nat.mul_le_mul_left m h.2.1), nodup_len m _ (sortU_nodup _) fun x hx => ?_⟩
  obtain ⟨l, hl, hx⟩ := List.mem_flatten.mp (mem_sU.mp hx)
  exact mem_rgI.mp ((h.2.2 l hl).subset hx)
theorem fam.lot {m k : Nat} {L : List (List Int)} (h : fam m k L) : ∀ l ∈ L, l.length ≤ m ∧ ∀ x ∈ l, 0 ≤ x ∧ x < m := fun l hl => ⟨by
  have := (h.2.2 l hl).length_le
  rw [rgI_len] at this
  exact this, fun x hx => mem_rgI.mp ((h.2.2 l hl).subset hx)⟩
theorem grL_sub {L : List (List Int)} {l : List Int} (h : l ∈ grL L) : l ∈ L := mem_sL.mp (List.mem_filter.mp h).1
theorem grL_ne {m : Nat} {L : List (List Int)} (h : L ≠ []) (hs : ∀ l ∈ L, l.Sublist (rgI m)) : grL L ≠ [] := by
  -- one of the longest
  have key : ∀ U : List (List Int), U ≠ [] → ∃ a ∈ U, ∀ b ∈ U, b.length ≤ a.length := by
    intro U
    induction U with
    | nil => intro h; exact absurd rfl h
    | cons x U ih =>
      intro _
      by_cases hU : U = []
      · subst hU; exact ⟨x, by simp, fun b hb => by simp at hb; subst hb; exact Nat.le_refl _⟩
      · obtain ⟨a, ha, hm⟩ := ih hU
        by_cases hx : a.length ≤ x.length
        · exact ⟨x, by simp, fun b hb => by
            rcases List.mem_cons.mp hb with rfl | hb
            · exact Nat.le_refl _
            · exact Nat.le_trans (hm b hb) hx⟩
        · exact ⟨a, List.mem_cons_of_mem _ ha, fun b hb => by
            rcases List.mem_cons.mp hb with rfl | hb
            · omega
            · exact hm b hb⟩
  have hU : DLr.sortU DLr.ltL L ≠ [] := by
    intro e
    obtain ⟨x, hx⟩ := List.exists_mem_of_ne_nil L h
    have := mem_sL.mpr hx
    rw [e] at this
    simp at this
  obtain ⟨a, ha, hm⟩ := key _ hU
  have : a ∈ grL L := by
    unfold grL
    refine List.mem_filter.mpr ⟨ha, ?_⟩
    rw [List.isEmpty_iff, List.filter_eq_nil_iff]
    intro b hb
    simp only [Bool.and_eq_true, Bool.not_eq_true', decide_eq_false_iff_not, not_and]
    intro ne hi
    have sa := hs a (mem_sL.mp ha)
    have sb := hs b (mem_sL.mp hb)
    have pa := (rgI_lt m).sublist sa
    have pb := (rgI_lt m).sublist sb
    exact ne (List.Sublist.eq_of_length_le (sub_of pa pb (inn_iff.mp hi)) (hm b hb))
  intro e
  rw [e] at this
  simp at this
theorem grL_len (L : List (List Int)) : (grL L).length ≤ L.length := Nat.le_trans (List.length_filter_le _ _) (sortU_len_le _ L)


theorem s_any_liars {n : Nat} (m : Nat) (k : Int) (hm : 1 ≤ m) (hm2 : m ≤ 9) (h0 : 0 < k) (h1 : k ≤ 9) : Bx (fns defs (n + 3) 26) [.int (m : Int), .int k] fun v => ∃ L : List (List Int), v = .val (tT L) ∧ fam m k.toNat L := by
  refine Bx_def (d := d__law_any_liars) rfl fun b hb => ?_
  simp_arith [d__law_any_liars]
  refine W_callB [.int 6] (s_take (n := n + 1) (by decide) (by decide)) rfl rfl (.inr rfl) rfl hb ?_
  rintro v b1 hb1 ⟨w, rfl, _, _⟩
  by_cases hw : w = 0
  · subst hw
    simp_arith
    rw [ev_lcM (fun (i : Nat) => .int (i : Int)) (fun (i : Nat) => .tuple [.int (i : Int)]) (List.range m) (by simp_arith [r_1 (show m ≤ 1000000 by omega)]; rfl) (fun x hx => by simp_arith)]
    simp_arith [slD]
    refine bxR_rt hb1 ⟨((List.range m).map fun (i : Nat) => [(i : Int)]).take k.toNat, ?_, ?_, ?_, ?_⟩
    · have e1 : cutD (List.map (fun (i : Nat) => PyData.tuple [PyData.int (i : Int)]) (List.range m)) none (some k) = (((List.range m).map fun (i : Nat) => [(i : Int)]).take k.toNat).map tI := by
        unfold cutD
        have e2 : HT.sIx (List.map (fun (i : Nat) => PyData.tuple [PyData.int (i : Int)]) (List.range m)).length 0 none = 0 := rfl
        have e3 : ∀ N d : Nat, HT.sIx N d (some k) = min k.toNat N := fun N d => by
          have := HT.sIx_nat N d k.toNat
          rwa [Int.toNat_of_nonneg (by omega)] at this
        rw [e2, e3, List.drop_zero, Nat.sub_zero, List.map_take, List.map_map, List.length_map, List.length_range]
        show List.take _ (List.map (fun i : Nat => PyData.tuple [PyData.int (i : Int)]) (List.range m)) = _
        rw [List.take_eq_take_iff.mpr (show min (min k.toNat m) _ = min k.toNat _ by simp)]
        rfl
      rw [e1]; rfl
    · intro e
      have := congrArg List.length e
      simp at this
      omega
    · exact List.length_take_le _ _
    · intro l hl
      obtain ⟨i, hi, rfl⟩ := List.mem_map.mp (List.mem_of_mem_take hl)
      exact List.singleton_sublist.mpr (mem_rgI.mpr (by have := List.mem_range.mp hi; omega))
  · by_cases hw1 : w = 1
    · subst hw1
      simp_arith
      refine bxR_rt hb1 ⟨[[]], rfl, by simp, by simp; omega, fun l hl => ?_⟩
      simp at hl
      subst hl
      exact List.nil_sublist _
    · simp_arith [hw, hw1]
      rw [ex_lc]
      simp_arith
      refine W_callB [.int k] (s_take (n := n + 1) h0 (by omega)) rfl rfl (.inr rfl) rfl hb1 ?_
      rintro v b2 hb2 ⟨x, rfl, hx0, hx1⟩
      obtain ⟨t, ht⟩ : ∃ t : Nat, 1 + x = (t : Int) := ⟨(1 + x).toNat, by omega⟩
      simp_arith [ht, r_1 (show t ≤ 1000000 by omega)]
      refine W_lcL (fun (i : Nat) => .int (i : Int)) (List.range t) (fun out rest ρ => ∃ (b : Int × Int) (s : S) (L : List (List Int)), okB b ∧ ρ = [.bor (bx b), .val (.int m), .val (.int k), .val (.int w), .un, s] ∧ out = L.map tI ∧ L.length + rest.length = t ∧ ∀ l ∈ L, l.Sublist (rgI m)) ?_ ?_ ?_
      · exact ⟨b2, _, [], hb2, rfl, rfl, by simp, by simp⟩
      · rintro out y r ρ ⟨b3, s3, L, hb3, rfl, rfl, hl, hL⟩
        simp_arith [l_1 (show m ≤ 1000000 by omega)]
        refine W_callB [.int 2] (s_take (n := n + 1) (by decide) (by decide)) rfl rfl (.inr rfl) rfl hb3 ?_
        rintro v b4 hb4 ⟨z, rfl, hz0, hz1⟩
        simp_arith [rgI_map]
        refine W_callB [.list ((rgI m).map .int), .int (2 + z)] (s_drawn (n := n) (rgI m) (2 + z) (by omega) (by omega)) rfl rfl (.inr rfl) rfl hb4 ?_
        rintro v b5 hb5 ⟨l, rfl, hl5⟩
        simp_arith
        refine ⟨b5, _, L ++ [l], hb5, rfl, by simp, by simp at hl ⊢; omega, fun l' h' => ?_⟩
        rcases List.mem_append.mp h' with h' | h'
        · exact hL l' h'
        · simp at h'; subst h'; exact hl5
      · rintro out ρ' ⟨b6, s6, L, hb6, rfl, rfl, hl, hL⟩
        simp at hl
        have hne : L ≠ [] := by intro e; subst e; simp at hl; omega
        simp_arith [backE, s_greatest (n := n) (L := L) (by omega)]
        exact bxR_rt hb6 ⟨_, rfl, grL_ne hne hL, Nat.le_trans (grL_len L) (by omega), fun l h => hL l (grL_sub h)⟩


theorem s_all_lying {n : Nat} {L : List (List Int)} (h1 : L.flatten.length ≤ 62) (h2 : (DLr.sortU DLr.ltI L.flatten).length ≤ 9) : ∃ A : List (List Int), rv (fns defs (n + 3) 23) [tT L] = .ok (.val (tT A)) ∧ A.Perm ((allR (DLr.sortU DLr.ltI L.flatten)).filter (mayB L)) := by
  obtain ⟨A, hA, hs⟩ := perm_map (fun r : List Int => PyData.tuple [.int r.length, tI r]) (sortD_perm (((allR (DLr.sortU DLr.ltI L.flatten)).filter (mayB L)).map fun r : List Int => PyData.tuple [.int r.length, tI r]))
  refine ⟨A, ?_, hA⟩
  rw [rv_def (d := d__law_all_lying) rfl]
  refine W_eq ?_
  have e1 : Bi.run .sum [tT L, .tuple []] = some (.val (.tuple (L.flatten.map .int))) := by
    have := bu_sumT (L.map fun l => l.map PyData.int) (by rw [← List.map_flatten, List.length_map]; exact szl (by omega))
    rw [List.map_map, ← List.map_flatten] at this
    exact this
  simp_arith [d__law_all_lying, e1, sset_I h1]
  generalize hU : DLr.sortU DLr.ltI L.flatten = U at h2 hA hs
  refine W_for .int (fun rest ρ => ∃ (pre : List Int) (t : S), pre ++ rest = U ∧ ρ = [.val (tT L), .own (.list ((allR pre).map tI)), t, .un, .un]) ?_ ?_ U _ ⟨[], _, rfl, rfl⟩
  · rintro h r ρ ⟨pre, t, e, rfl⟩
    have hl : (allR pre).length ≤ 512 := by
      rw [allR_len]
      have : pre.length ≤ 9 := by
        have := congrArg List.length e
        simp at this; omega
      calc 2 ^ pre.length ≤ 2 ^ 9 := Nat.pow_le_pow_right (by decide) this
        _ = 512 := rfl
    simp_arith
    rw [ev_lcM tI (fun row => tI (row ++ [h])) (allR pre) (by simp_arith; rfl) (fun row hr => by
      have hrow : row.length ≤ 10000 := by
        have : ∀ (U : List Int) (rs : List (List Int)) (k : Nat), (∀ r ∈ rs, r.length ≤ k) → ∀ r ∈ U.foldl allS rs, r.length ≤ k + U.length := by
          intro U
          induction U with
          | nil => intro rs k h; simpa using h
          | cons z U ih =>
            intro rs k h r hr
            have := ih (allS rs z) (k + 1) (fun q hq => by
              rcases List.mem_append.mp hq with hq | hq
              · have := h q hq; omega
              · obtain ⟨q', hq', rfl⟩ := List.mem_map.mp hq
                have := h q' hq'
                simp; omega) r hr
            simp only [List.length_cons]; omega
        have := this pre [[]] 0 (by simp) row hr
        have h3 := congrArg List.length e
        simp at h3; omega
      simp_arith [tI, o_addT (szl (show (row.map PyData.int).length + [PyData.int h].length ≤ 16777216 by simp; omega))]
      simp)]
    simp_arith [o_addL (szl (show ((allR pre).map tI).length + ((allR pre).map fun row => tI (row ++ [h])).length ≤ 16777216 by simp; omega))]
    refine ⟨pre ++ [h], .val (.int h), by simp [e], ?_⟩
    rw [allR_snoc]
    unfold allS
    rw [List.map_append, List.map_map]; rfl
  · rintro ρ ⟨pre, t, e, rfl⟩
    rw [List.append_nil] at e
    subst e
    simp_arith
    rw [ex_lc]
    simp_arith
    rw [ev_lcF tI (mayB L) (fun r => .tuple [.int r.length, tI r]) (allR pre) (by simp_arith; rfl) (fun row hr => by
      cases h : mayB L row <;> simp_arith [s_law_may, h])]
    simp_arith [bu_srt (srt_rows _), hs]
    obtain ⟨ρ', h5, h6⟩ := lc_pure (vs := [4, 3]) (tg := Tg.den (.tup (.cons (.nm 4) (.cons (.nm 3) .nil)))) (tt := ifsB (Tes.den (fns defs (n + 2)) .nil)) (te := Ex.den (fns defs (n + 2)) (.v 3)) (fun r : List Int => PyData.tuple [.int r.length, tI r]) (fun r => some (tI r)) (W := [.val (tT L), .val (.list ((allR pre).map tI)), t, .un, .un]) A [.val (tT L), .val (.list ((allR pre).map tI)), t, .un, .un] (by simp_arith) (fun r hr => by simp_arith)
    rw [h5]
    simp_arith [back_eq (h6.trans (show _ = wp [.val (tT L), .val (.list ((allR pre).map tI)), t, .un, .un] [4, 3] by simp_arith))]
    unfold tT
    congr 2
    rw [show (fun r : List Int => some (tI r)) = some ∘ tI from rfl, List.filterMap_eq_map]
theorem s_any_lying {n : Nat} {L : List (List Int)} (h0 : L ≠ []) (h1 : L.flatten.length ≤ 62) (h2 : (DLr.sortU DLr.ltI L.flatten).length ≤ 9) : Bx (fns defs (n + 4) 28) [tT L] fun v => ∃ lot : List Int, v = .val (tI lot) ∧ mayB L lot = true := by
  refine Bx_def (d := d__law_any_lying) rfl fun b hb => ?_
  obtain ⟨A, hA, hp⟩ := s_all_lying (n := n) h1 h2
  simp_arith [d__law_any_lying, hA]
  have hl : A.length ≤ 512 := by
    rw [hp.length_eq]
    refine Nat.le_trans (List.length_filter_le _ _) ?_
    rw [allR_len]
    calc 2 ^ _ ≤ 2 ^ 9 := Nat.pow_le_pow_right (by decide) h2
      _ = 512 := rfl
  have hne : A ≠ [] := by
    intro e
    subst e
    have : [] ∈ ((allR (DLr.sortU DLr.ltI L.flatten)).filter (mayB L)) := List.mem_filter.mpr ⟨allR_nil _, by
      obtain ⟨l, hl⟩ := List.exists_mem_of_ne_nil L h0
      exact may_iff.mpr ⟨l, hl, by simp [inn]⟩⟩
    have := hp.mem_iff.mpr this
    simp at this
  refine W_callB [.list (A.map tI)] (s_pick (n := n + 1) (by simpa using hne) (by simp; omega)) rfl rfl (.inr rfl) rfl hb ?_
  rintro v b' hb' ⟨d, rfl, hd⟩
  obtain ⟨lot, hlot, rfl⟩ := List.mem_map.mp hd
  simp_arith
  exact bxR_rt hb' ⟨lot, rfl, (List.mem_filter.mp (hp.mem_iff.mp hlot)).2⟩


theorem s_law_inL {n : Nat} (a b : List Int) : rv (fns defs (n + 1) 21) [.list (a.map .int), tI b] = .ok (.val (.bool (inn a b))) := by
  rw [rv_def (d := d__law_in) rfl]
  simp_arith [d__law_in]
  rw [ev_lcF .int (fun x => !decide (x ∈ b)) (fun _ => .int 1) a (by simp_arith; rfl) (fun x hx => by
    by_cases h : x ∈ b <;> simp_arith [h])]
  simp_arith [ones_eq, filter_empty]
  rfl
theorem s_hold {n : Nat} {L : List (List Int)} {lot : List Int} {c : Nat} (hL : L.length ≤ 9) (hf : ∀ l ∈ L, l.length ≤ 100) (hc : c ≤ 4) : rv (fns defs (n + 2) 27) [tT L, .list (lot.map .int), .int (c : Int)] = .ok (.val (covD (covL L lot c))) := by
  rw [rv_def (d := d__law_hold) rfl]
  refine W_eq ?_
  have hm0 : (0 : Int) ≤ (L.length : Int) := by omega
  have hm9 : (L.length : Int) ≤ 9 := by omega
  have p9 : ∀ k : Nat, k ≤ 4 → 9 ^ k ≤ 6561 := fun k hk => calc 9 ^ k ≤ 9 ^ 4 := Nat.pow_le_pow_right (by decide) hk
    _ = 6561 := rfl
  simp_arith [d__law_hold, r_1 (show c ≤ 1000000 by omega)]
  refine W_for (fun (i : Nat) => .int (i : Int)) (fun rest ρ => ∃ (k : Nat) (s3 s4 s5 s6 : S), k + rest.length = c ∧ ρ = [.val (tT L), .val (.list (lot.map .int)), .val (.int c), s3, s4, s5, s6, .un] ∧ (s3 = .own (.list ((rowsP L.length k).map tI)) ∨ s3 = .val (.list ((rowsP L.length k).map tI)))) ?_ ?_ (List.range c) _ ⟨0, _, _, _, _, by simp, rfl, .inl rfl⟩
  · rintro i r ρ ⟨k, s3, s4, s5, s6, hk, rfl, h3⟩
    have hk4 : k ≤ 4 := by simp only [List.length_cons] at hk; omega
    have e3 : ∀ (t4 t5 t6 : S), Ex.den (fns defs (n + 1)) (.v 3) [.val (tT L), .val (.list (lot.map .int)), .val (.int c), s3, t4, t5, t6, .un] = .ok (.val (.list ((rowsP L.length k).map tI)), [.val (tT L), .val (.list (lot.map .int)), .val (.int c), .val (.list ((rowsP L.length k).map tI)), t4, t5, t6, .un]) := fun t4 t5 t6 => by
      rcases h3 with rfl | rfl <;> simp_arith
    simp_arith [e3]
    refine W_for tI (fun rest ρ => ∃ (pre : List (List Int)) (s6 : S), pre ++ rest = rowsP L.length k ∧ ρ = [.val (tT L), .val (.list (lot.map .int)), .val (.int c), .val (.list ((rowsP L.length k).map tI)), .val (.int i), .own (.list ((pre.flatMap (rowS L.length)).map tI)), s6, .un]) ?_ ?_ (rowsP L.length k) _ ⟨[], _, rfl, rfl⟩
    · rintro row r ρ ⟨pre, s6, e, rfl⟩
      have hrow : row ∈ rowsP (L.length : Int) k := by rw [← e]; simp
      obtain ⟨rl, rr⟩ := rowsP_in hm0 hrow
      have hpre : (pre.flatMap (rowS L.length)).length ≤ 100000 := by
        have h1 := flatMap_len (f := rowS L.length) (k := 9) (xs := pre) fun q hq => rowS_len hm9 (rowsP_in hm0 (c := k) (by rw [← e]; exact List.mem_append_left _ hq)).2
        have h2 := rowsP_len hm0 hm9 k
        have h3 := congrArg List.length e
        have h4 := p9 k hk4
        simp only [List.length_append] at h3
        omega
      have h9 := rowS_len hm9 rr
      have hlast : 0 ≤ lastZ row ∧ lastZ row ≤ 9 := by
        unfold lastZ
        cases e : row.getLast? with
        | none => simp
        | some z => have := rr z (List.mem_of_getLast? e); simp; omega
      simp_arith
      rw [ev_lcM .int (fun p => tI (row ++ [p])) (rngZ (lastZ row) L.length) (ρ1 := [.val (tT L), .val (.list (lot.map .int)), .val (.int c), .val (.list ((rowsP L.length k).map tI)), .val (.int i), .own (.list ((pre.flatMap (rowS L.length)).map tI)), .val (tI row), .un]) (by
        by_cases hr : row = []
        · subst hr
          have := r_2 (i := 0) (j := (L.length : Int)) (by omega)
          simp_arith [tI, ne_nilT (k := 0) (ds := []) (by simp) (by decide), List.isEmpty_nil, this]
          rw [show lastZ [] = 0 from rfl, ← rngZ_map]
        · have := r_2 (i := lastZ row) (j := (L.length : Int)) (by omega)
          have e0 : (row.map PyData.int).isEmpty = false := by cases row with
            | nil => exact absurd rfl hr
            | cons _ _ => rfl
          simp_arith [tI, ne_nilT (k := 0) (ds := row.map .int) (fl_map fun _ _ => fl_int 0 _) (by decide), e0, last_at hr, this]
          rw [← rngZ_map]) (fun p hp => by
        simp_arith [tI, o_addT (szl (show (row.map PyData.int).length + [PyData.int p].length ≤ 16777216 by simp; omega))]
        simp)]
      simp_arith [o_addL (szl (show ((pre.flatMap (rowS L.length)).map tI).length + ((rngZ (lastZ row) L.length).map fun p => tI (row ++ [p])).length ≤ 16777216 by
        have : (rngZ (lastZ row) L.length).length = (rowS (L.length : Int) row).length := by unfold rowS; simp
        simp only [List.length_map]; omega))]
      refine ⟨pre ++ [row], .val (tI row), by simp [e], ?_⟩
      rw [List.flatMap_append]
      unfold rowS
      simp only [List.flatMap_cons, List.flatMap_nil, List.append_nil, List.map_append, List.map_map]
      rfl
    · rintro ρ ⟨pre, s6, e, rfl⟩
      rw [List.append_nil] at e
      subst e
      simp_arith
      exact ⟨k + 1, _, _, _, _, by simp only [List.length_cons] at hk; omega, rfl, .inr rfl⟩
  · rintro ρ ⟨k, s3, s4, s5, s6, hk, rfl, h3⟩
    have hk : k = c := by simp at hk; omega
    subst hk
    have e3 : Ex.den (fns defs (n + 1)) (.v 3) [.val (tT L), .val (.list (lot.map .int)), .val (.int k), s3, s4, s5, s6, .un] = .ok (.val (.list ((rowsP L.length k).map tI)), [.val (tT L), .val (.list (lot.map .int)), .val (.int k), .val (.list ((rowsP L.length k).map tI)), s4, s5, s6, .un]) := by
      rcases h3 with rfl | rfl <;> simp_arith
    simp_arith [e3]
    refine W_for tI (fun rest ρ => ∃ (s6 : S), ρ = [.val (tT L), .val (.list (lot.map .int)), .val (.int k), .val (.list ((rowsP L.length k).map tI)), s4, s5, s6, .un] ∧ (∀ q ∈ rest, q ∈ rowsP (L.length : Int) k) ∧ covL L lot k = (rest.find? fun row => inn lot (pickL L row).flatten).map (pickL L)) ?_ ?_ (rowsP L.length k) _ ⟨_, rfl, fun _ h => h, rfl⟩
    · rintro row r ρ ⟨s6, rfl, hm, hf2⟩
      obtain ⟨rl, rr⟩ := rowsP_in hm0 (hm row (List.mem_cons_self ..))
      have hpk : ∀ t6 t7, R.W (Ex.den (fns defs (n + 1)) (.lc (.seq (.v 6)) (.nm 7) [("place", 7)] .nil (.ix (.at 0) (.at 7))) [.val (tT L), .val (.list (lot.map .int)), .val (.int k), .val (.list ((rowsP L.length k).map tI)), t6, t7, .val (tI row), .un]) fun q => q = (.own (.list ((pickL L row).map tI)), [.val (tT L), .val (.list (lot.map .int)), .val (.int k), .val (.list ((rowsP L.length k).map tI)), t6, t7, .val (tI row), .un]) := fun t6 t7 => by
        refine W_of (ev_lcM .int (fun p => tI (L[p.toNat]?.getD [])) row (by simp_arith; rfl) (fun p hp => by
          obtain ⟨p1, p2⟩ := rr p hp
          simp_arith [tT, at_pick p1 p2])) ?_
        unfold pickL
        rw [List.map_map]; rfl
      have hfl : (pickL L row).flatten.length ≤ 1000 := by
        have h1 : ∀ l ∈ pickL L row, l.length ≤ 100 := fun l hl => by
          obtain ⟨p, hp, rfl⟩ := List.mem_map.mp hl
          obtain ⟨p1, p2⟩ := rr p hp
          rw [List.getElem?_eq_getElem (by omega)]
          exact hf _ (List.getElem_mem _)
        have h2 := flatMap_len (f := id) (k := 100) (xs := pickL L row) h1
        rw [List.flatMap_id] at h2
        have h3 : (pickL L row).length ≤ 4 := by unfold pickL; rw [List.length_map]; omega
        omega
      have e1 : Bi.run .sum [.list ((pickL L row).map tI), .tuple []] = some (.val (tI (pickL L row).flatten)) := by
        have := bu_sumL ((pickL L row).map fun l => l.map PyData.int) (by rw [← List.map_flatten, List.length_map]; exact szl (by omega))
        rw [List.map_map, ← List.map_flatten] at this
        exact this
      simp_arith [W_eq (hpk _ _), e1, s_law_inL]
      cases hi : inn lot (pickL L row).flatten with
      | true =>
        simp_arith [W_eq (hpk _ _)]
        rw [hf2, List.find?_cons, hi]; rfl
      | false =>
        simp_arith
        exact ⟨_, rfl, fun q hq => hm q (List.mem_cons_of_mem _ hq), by rw [hf2, List.find?_cons, hi]⟩
    · rintro ρ ⟨s6, rfl, hm, hf2⟩
      simp_arith
      rw [hf2]; rfl


theorem s_put {n : Nat} {a b : List Int} (ha : a.length ≤ 30) (hb : b.length ≤ 30) : rv (fns defs (n + 1) 1) [tI a, tI b] = .ok (.val (tI (DLr.sortU DLr.ltI (a ++ b)))) := by
  rw [rv_def (d := d_put_together) rfl]
  simp_arith [d_put_together, ex_sunG, tI, tupI_I, ha, hb]
theorem s_held {n : Nat} {L : List (List Int)} {row : List Int} (hf : ∀ l ∈ L, l.length ≤ 30 ∧ ∀ x ∈ l, 0 ≤ x ∧ x < 30) (hr : ∀ p ∈ row, 0 ≤ p ∧ p < L.length) : rv (fns defs (n + 2) 4) [tT L, tI row] = .ok (.val (tI (heldL L row))) := by
  rw [rv_def (d := d_held_by) rfl]
  refine W_eq ?_
  simp_arith [d_held_by]
  refine W_for .int (fun rest ρ => ∃ (pre : List Int) (t : S), pre ++ rest = row ∧ ρ = [.val (tT L), .val (tI row), .val (tI (heldL L pre)), t]) ?_ ?_ row _ ⟨[], _, rfl, rfl⟩
  · rintro p r ρ ⟨pre, t, e, rfl⟩
    obtain ⟨p1, p2⟩ := hr p (by rw [← e]; simp)
    have hl : (heldL L pre).length ≤ 30 := by
      have nd : (heldL L pre).Nodup := by
        have : ∀ (row : List Int) (h : List Int), h.Nodup → (row.foldl (fun held p => DLr.sortU DLr.ltI (held ++ (L[p.toNat]?.getD []))) h).Nodup := by
          intro row
          induction row with
          | nil => intro h hn; exact hn
          | cons p row ih => intro h hn; exact ih _ (sortU_nodup _)
        exact this pre [] List.nodup_nil
      refine nodup_len 30 _ nd fun x hx => ?_
      obtain ⟨l, hl, hx⟩ := List.mem_flatten.mp (mem_held.mp hx)
      obtain ⟨q, hq, rfl⟩ := List.mem_map.mp hl
      obtain ⟨q1, q2⟩ := hr q (by rw [← e]; simp [hq])
      rw [List.getElem?_eq_getElem (by omega)] at hx
      exact (hf _ (List.getElem_mem _)).2 x hx
    have hp : (L[p.toNat]?.getD []).length ≤ 30 := by
      rw [List.getElem?_eq_getElem (by omega)]
      exact (hf _ (List.getElem_mem _)).1
    have e2 : ixD (tT L) (.int p) = some (.val (tI (L[p.toNat]?.getD []))) := by
      show (L2.atI (L.map tI) p).map S.val = _
      rw [at_pick p1 p2]; rfl
    simp_arith [e2, s_put hl hp]
    refine ⟨pre ++ [p], .val (.int p), by simp [e], ?_⟩
    unfold heldL
    rw [List.foldl_append]; rfl
  · rintro ρ ⟨pre, t, e, rfl⟩
    rw [List.append_nil] at e
    subst e
    simp_arith
theorem s_next {n : Nat} {m : Int} {p : List Int} (hp : p.length ≤ 900) : rv (fns defs (n + 1) 3) [tI p, .int m] = .ok (.val (optT (nxP m p))) := by
  rw [rv_def (d := d_next_places) rfl]
  refine W_eq ?_
  have e1 := r_3 (i := (p.length : Int) - 1) (j := -1) (by omega)
  rw [show ((p.length : Int) - 1 - -1).toNat = p.length by omega] at e1
  simp_arith [d_next_places, e1]
  refine W_for (fun (k : Nat) => .int ((p.length : Int) - 1 - (k : Int))) (fun rest ρ => ∃ (j : Nat) (t : S), j ≤ p.length ∧ rest = List.range' (p.length - j) j ∧ ρ = [.val (tI p), .val (.int m), t] ∧ nxP m p = nxA m p j) ?_ ?_ (List.range p.length) _ ⟨p.length, _, Nat.le_refl _, by rw [Nat.sub_self, List.range_eq_range'], rfl, rfl⟩
  · rintro k r ρ ⟨j, t, hj, hr, rfl, hn⟩
    cases j with
    | zero => simp at hr
    | succ j =>
      rw [List.range'_succ] at hr
      obtain ⟨rfl, rfl⟩ := List.cons.inj hr
      have hat : (p.length : Int) - 1 - ((p.length - (j + 1) : Nat) : Int) = (j : Int) := by omega
      have e2 : ixD (tI p) (.int (j : Int)) = some (.val (.int (p[j]?.getD 0))) := by
        show (L2.atI (p.map PyData.int) (j : Int)).map S.val = _
        rw [at_map PyData.int (by omega), List.getElem?_eq_getElem (by omega)]; rfl
      have e3 : slD (tI p) none (some (j : Int)) = some (.val (.tuple ((p.take j).map .int))) := by
        show slD (.tuple _) _ _ = _
        rw [sl_to _ (by omega), ← List.map_take]; rfl
      have e4 : opD .Mult (.tuple [.int (p[j]?.getD 0 + 1)]) (.int ((p.length : Int) - (j : Int))) = some (.val (.tuple ((List.replicate (p.length - j) (p[j]?.getD 0 + 1)).map .int))) := by
        rw [o_mulT (by simp; omega), rep_flat, show ((p.length : Int) - (j : Int)).toNat = p.length - j by omega, List.map_replicate]
      have e5 : opD .Add (.tuple ((p.take j).map .int)) (.tuple ((List.replicate (p.length - j) (p[j]?.getD 0 + 1)).map .int)) = some (.val (tI (p.take j ++ List.replicate (p.length - j) (p[j]?.getD 0 + 1)))) := by
        rw [o_addT (szl (by simp; omega)), ← List.map_append]; rfl
      rw [nxA] at hn
      by_cases h : p[j]?.getD 0 + 1 < m
      · rw [if_pos h] at hn
        simp_arith [hat, e2, h, e3, e4, e5]
        rw [hn]; rfl
      · rw [if_neg h] at hn
        simp_arith [hat, e2, h]
        exact ⟨j, _, by omega, by rw [show p.length - j = p.length - (j + 1) + 1 by omega], rfl, hn⟩
  · rintro ρ ⟨j, t, hj, hr, rfl, hn⟩
    cases j with
    | zero =>
      simp_arith
      rw [hn]; rfl
    | succ j => simp [List.range'_succ] at hr
theorem optT_non (x : Option (List Int)) : cmpD .IsNot (optT x) .none = some (.val (.bool x.isSome)) := by cases x <;> rfl
theorem s_cover {n : Nat} {L : List (List Int)} {lot : List Int} {c : Nat} (hch : chainOk L.length c = true) (hf : ∀ l ∈ L, l.length ≤ 30 ∧ ∀ x ∈ l, 0 ≤ x ∧ x < 30) (hL : L.length ≤ 9) (hc : c ≤ 4) : rv (fns defs (n + 3) 5) [tT L, tI lot, .int (c : Int)] = .ok (.val (covD (covL L lot c))) := by
  rw [rv_def (d := d_cover_of) rfl]
  refine W_eq ?_
  have hm0 : (0 : Int) ≤ (L.length : Int) := by omega
  have e1 : opD .Mult (.tuple [.int 0]) (.int (c : Int)) = some (.val (tI (List.replicate c 0))) := by
    rw [o_mulT (by simp; omega), rep_flat, Int.toNat_natCast]; unfold tI; rw [List.map_replicate]
  have hlen := rowsP_len hm0 (by omega : (L.length : Int) ≤ 9) c
  have p9 : 9 ^ c ≤ 6561 := calc 9 ^ c ≤ 9 ^ 4 := Nat.pow_le_pow_right (by decide) hc
    _ = 6561 := rfl
  simp_arith [d_cover_of, e1]
  have hlots : (6562 : Nat) < lots := by decide
  refine W_wh (fun k ρ => ∃ (i : Nat) (t : S), i ≤ (rowsP L.length c).length ∧ k = (rowsP L.length c).length - i ∧ ρ = [.val (tT L), .val (tI lot), .val (.int c), .val (optT (rowsP L.length c)[i]?), t] ∧ covL L lot c = (((rowsP L.length c).drop i).find? fun row => inn lot (pickL L row).flatten).map (pickL L)) ?_ lots (rowsP L.length c).length _ (by omega) ⟨0, .un, Nat.zero_le _, rfl, ?_, rfl⟩
  · rintro k ρ ⟨i, t, hi, rfl, rfl, hf2⟩
    by_cases hi2 : i < (rowsP L.length c).length
    · have hrow : (rowsP (L.length : Int) c)[i] ∈ rowsP (L.length : Int) c := List.getElem_mem hi2
      have eg : (rowsP (L.length : Int) c)[i]? = some (rowsP (L.length : Int) c)[i] := List.getElem?_eq_getElem hi2
      have hn := chain_s hch hi2
      rw [List.drop_eq_getElem_cons hi2, List.find?_cons] at hf2
      generalize (rowsP (L.length : Int) c)[i] = row at hrow eg hn hf2
      obtain ⟨rl, rr⟩ := rowsP_in hm0 hrow
      simp_arith [eg, optT_non, Option.isSome_some]
      have eo : optT (some row) = tI row := rfl
      have hpk : R.W (Ex.den (fns defs (n + 2)) (.lc (.seq (.v 3)) (.nm 4) [("place", 4)] .nil (.ix (.at 0) (.at 4))) [.val (tT L), .val (tI lot), .val (.int c), .val (tI row), t]) fun q => q = (.own (.list ((pickL L row).map tI)), [.val (tT L), .val (tI lot), .val (.int c), .val (tI row), t]) := by
        refine W_of (ev_lcM .int (fun p => tI (L[p.toNat]?.getD [])) row (by simp_arith; rfl) (fun p hp => by
          obtain ⟨p1, p2⟩ := rr p hp
          simp_arith [tT, at_pick p1 p2])) ?_
        unfold pickL
        rw [List.map_map]; rfl
      simp_arith [eo, s_held hf rr, s_is_within, inn_held]
      cases hw : inn lot (pickL L row).flatten with
      | true =>
        simp_arith [W_eq hpk]
        rw [hf2, hw]; rfl
      | false =>
        rw [hw] at hf2
        simp_arith [s_next (show row.length ≤ 900 by omega), hn]
        exact ⟨_, by omega, i + 1, _, by omega, rfl, rfl, hf2⟩
    · have hi3 : i = (rowsP L.length c).length := by omega
      have eg : (rowsP (L.length : Int) c)[i]? = none := List.getElem?_eq_none (by omega)
      simp_arith [eg, optT_non, Option.isSome_none]
      rw [hf2, hi3, List.drop_length]; rfl
  · rw [chain_0 hch]; rfl


/-! ### fractions, walked -/
theorem s_law_below {n : Nat} {f g : Fr} (hf : bf 900 f) (hg : bf 900 g) : rv (fns defs (n + 1) 30) [fr f, fr g] = .ok (.val (.bool (blw f g))) := by
  rw [rv_def (d := d__law_below) rfl]
  simp_arith [d__law_below, x_fr0, x_fr1, o_mul (hf.s1 (by decide)) (hg.s2 (by decide)), o_mul (hg.s1 (by decide)) (hf.s2 (by decide))]
  rfl
theorem s_is_less {n : Nat} {f g : Fr} (hf : bf 900 f) (hg : bf 900 g) : rv (fns defs (n + 1) 8) [fr f, fr g] = .ok (.val (.bool (blw f g))) := by
  rw [rv_def (d := d_is_less) rfl]
  simp_arith [d_is_less, x_fr0, x_fr1, o_mul (hf.s1 (by decide)) (hg.s2 (by decide)), o_mul (hg.s1 (by decide)) (hf.s2 (by decide))]
  rfl
/-- one turn of Euclid's loop -/
theorem gcd_turn {a b : Nat} {m : Nat} (hb : 0 < b) (h : (b ≤ a ∧ a * b < 2 ^ m) ∨ (a < b ∧ b * b < 2 ^ (m - 1) ∧ 1 ≤ m)) : ∃ m', m' < m ∧ ((a % b ≤ b ∧ b * (a % b) < 2 ^ m') ∨ (b < a % b ∧ (a % b) * (a % b) < 2 ^ (m' - 1) ∧ 1 ≤ m')) := by
  have hr : a % b < b := Nat.mod_lt _ hb
  rcases h with ⟨h1, h2⟩ | ⟨h1, h2, h3⟩
  · cases m with
    | zero =>
      have : 0 < a * b := Nat.mul_pos (by omega) hb
      simp at h2; omega
    | succ m =>
      refine ⟨m, by omega, .inl ⟨by omega, ?_⟩⟩
      have h4 : 2 * (a % b) ≤ a := by
        have h5 := Nat.div_add_mod a b
        have h6 : 1 ≤ a / b := (Nat.one_le_div_iff hb).mpr h1
        have h7 : b * 1 ≤ b * (a / b) := Nat.mul_le_mul_left b h6
        omega
      have h5 : b * (2 * (a % b)) ≤ b * a := Nat.mul_le_mul_left b h4
      have e1 : b * (2 * (a % b)) = 2 * (b * (a % b)) := by rw [← Nat.mul_assoc, Nat.mul_comm b 2, Nat.mul_assoc]
      rw [e1, Nat.mul_comm b a] at h5
      rw [Nat.pow_succ] at h2
      omega
  · refine ⟨m - 1, by omega, .inl ⟨by omega, ?_⟩⟩
    exact Nat.lt_of_le_of_lt (Nat.mul_le_mul_left b (by omega)) h2
theorem gcd_begin {a b : Nat} {k : Nat} (ha : a < 2 ^ k) (hb : b < 2 ^ k) : (b ≤ a ∧ a * b < 2 ^ (2 * k + 1)) ∨ (a < b ∧ b * b < 2 ^ (2 * k + 1 - 1) ∧ 1 ≤ 2 * k + 1) := by
  have e : 2 ^ (2 * k) = 2 ^ k * 2 ^ k := by rw [show 2 * k = k + k by omega, Nat.pow_add]
  by_cases h : b ≤ a
  · refine .inl ⟨h, ?_⟩
    rw [Nat.pow_succ, e]
    have := Nat.mul_lt_mul'' ha hb
    omega
  · refine .inr ⟨by omega, ?_, by omega⟩
    rw [Nat.add_sub_cancel, e]
    exact Nat.mul_lt_mul'' hb hb
theorem s_common {n : Nat} {a b : Nat} {k : Nat} (hk : k ≤ 2000) (ha : a < 2 ^ k) (hb : b < 2 ^ k) : rv (fns defs (n + 1) 6) [.int (a : Int), .int (b : Int)] = .ok (.val (.int (Nat.gcd a b : Int))) := by
  rw [rv_def (d := d_common_part) rfl]
  refine W_eq ?_
  simp_arith [d_common_part]
  have hl : 2 * k + 1 < lots := by have : (4001 : Nat) < lots := by decide
                                   omega
  refine W_wh (fun m ρ => ∃ x y : Nat, ρ = [.val (.int (x : Int)), .val (.int (y : Int))] ∧ Nat.gcd x y = Nat.gcd a b ∧ ((y ≤ x ∧ x * y < 2 ^ m) ∨ (x < y ∧ y * y < 2 ^ (m - 1) ∧ 1 ≤ m))) ?_ lots (2 * k + 1) _ hl ⟨a, b, rfl, rfl, gcd_begin ha hb⟩
  rintro m ρ ⟨x, y, rfl, hg, hm⟩
  by_cases hy : 0 < y
  · have hy' : (0 : Int) < (y : Int) := by omega
    obtain ⟨m', h1, h2⟩ := gcd_turn hy hm
    simp_arith [hy', o_mod hy']
    exact ⟨m', h1, y, x % y, by simp, by rw [← hg, Nat.gcd_comm x y, Nat.gcd_rec y x, Nat.gcd_comm], h2⟩
  · have hy0 : y = 0 := by omega
    subst hy0
    simp_arith [Int.ofNat_zero, Int.lt_irrefl]
    rw [← hg, Nat.gcd_zero_right]
theorem abs_nat (i : Int) : (if i < 0 then -i else i) = (i.natAbs : Int) := by split <;> omega
theorem s_fraction_of {n : Nat} {a b : Int} {k : Nat} (hk : k ≤ 2000) (ha : a.natAbs < 2 ^ k) (hb0 : 0 < b) (hb : b.natAbs < 2 ^ k) : rv (fns defs (n + 2) 7) [.int a, .int b] = .ok (.val (fr (lowF a b))) := by
  rw [rv_def (d := d_fraction_of) rfl]
  have hg := gcd_pos (a := a) hb0
  have e1 := s_common (n := n) hk ha hb
  rw [show ((b.natAbs : Nat) : Int) = b by omega] at e1
  have hgb : sm (Int.gcd a b : Int) := by
    refine sm_of (k := k) ?_ hk
    have : Int.gcd a b ≤ b.natAbs := Nat.gcd_le_right _ (by omega)
    omega
  have e2 : (Nat.gcd a.natAbs b.natAbs : Int) = (Int.gcd a b : Int) := rfl
  simp_arith [d_fraction_of, abs_nat, e1, e2, o_fdiv hg hgb]
  rfl
theorem s_law_low {n : Nat} {a b : Int} {k : Nat} (hk : k ≤ 2000) (ha : a.natAbs < 2 ^ k) (hb0 : 0 < b) (hb : b.natAbs < 2 ^ k) : rv (fns defs (n + 1) 29) [.int a, .int b] = .ok (.val (fr (lowF a b))) := by
  rw [rv_def (d := d__law_low) rfl]
  refine W_eq ?_
  have hg := gcd_pos (a := a) hb0
  have hgb : sm (Int.gcd a b : Int) := by
    refine sm_of (k := k) ?_ hk
    have : Int.gcd a b ≤ b.natAbs := Nat.gcd_le_right _ (by omega)
    omega
  have e2 : (Nat.gcd a.natAbs b.natAbs : Int) = (Int.gcd a b : Int) := rfl
  have eb : ((b.natAbs : Nat) : Int) = b := by omega
  simp_arith [d__law_low, abs_nat]
  have hl : 2 * k + 1 < lots := by have : (4001 : Nat) < lots := by decide
                                   omega
  refine W_wh (fun m ρ => ∃ x y : Nat, ρ = [.val (.int a), .val (.int b), .val (.int (x : Int)), .val (.int (y : Int))] ∧ Nat.gcd x y = Nat.gcd a.natAbs b.natAbs ∧ ((y ≤ x ∧ x * y < 2 ^ m) ∨ (x < y ∧ y * y < 2 ^ (m - 1) ∧ 1 ≤ m))) ?_ lots (2 * k + 1) _ hl ⟨a.natAbs, b.natAbs, by rw [eb], rfl, gcd_begin ha hb⟩
  rintro m ρ ⟨x, y, rfl, hg2, hm⟩
  by_cases hy : 0 < y
  · have hy' : (0 : Int) < (y : Int) := by omega
    obtain ⟨m', h1, h2⟩ := gcd_turn hy hm
    simp_arith [hy', o_mod hy']
    exact ⟨m', h1, y, x % y, by simp, by rw [← hg2, Nat.gcd_comm x y, Nat.gcd_rec y x, Nat.gcd_comm], h2⟩
  · have hy0 : y = 0 := by omega
    subst hy0
    rw [Nat.gcd_zero_right] at hg2
    subst hg2
    simp_arith [Int.ofNat_zero, Int.lt_irrefl, e2, o_fdiv hg hgb]
    rfl
theorem s_middle {n : Nat} {f g : Fr} (hf : bf 900 f) (hg : bf 900 g) : rv (fns defs (n + 3) 9) [fr f, fr g] = .ok (.val (fr (midF f g))) := by
  rw [rv_def (d := d_middle) rfl]
  have h2 := mul_lt hf.2.2 hg.2.2
  have b1 : (f.1 * g.2 + g.1 * f.2).natAbs < 2 ^ 1801 := add_lt (mul_lt hf.1 hg.2.2) (mul_lt hg.1 hf.2.2)
  have b2 : (2 * f.2 * g.2).natAbs < 2 ^ 1801 := by
    rw [Int.mul_assoc, Int.natAbs_mul, Nat.pow_succ]
    show 2 * _ < _
    omega
  have b3 : 0 < 2 * f.2 * g.2 := Int.mul_pos (by have := hf.2.1; omega) hg.2.1
  have b4 : sm (2 * f.2) := sm_of (k := 901) (by rw [Int.natAbs_mul, Nat.pow_succ]; have := hf.2.2; show 2 * _ < _; omega) (by decide)
  simp_arith [d_middle, x_fr0, x_fr1, o_mul (hf.s1 (by decide)) (hg.s2 (by decide)), o_mul (hg.s1 (by decide)) (hf.s2 (by decide)), o_mul (sm_c 2) (hf.s2 (by decide)), o_mul b4 (hg.s2 (by decide)), s_fraction_of (k := 1801) (by decide) b1 b3 b2]
  rfl
theorem s_law_amid {n : Nat} {f g : Fr} (hf : bf 900 f) (hg : bf 900 g) : rv (fns defs (n + 2) 34) [fr f, fr g] = .ok (.val (fr (midF f g))) := by
  rw [rv_def (d := d__law_amid) rfl]
  have h2 := mul_lt hf.2.2 hg.2.2
  have b1 : (f.1 * g.2 + g.1 * f.2).natAbs < 2 ^ 1801 := add_lt (mul_lt hf.1 hg.2.2) (mul_lt hg.1 hf.2.2)
  have b2 : (2 * f.2 * g.2).natAbs < 2 ^ 1801 := by
    rw [Int.mul_assoc, Int.natAbs_mul, Nat.pow_succ]
    show 2 * _ < _
    omega
  have b3 : 0 < 2 * f.2 * g.2 := Int.mul_pos (by have := hf.2.1; omega) hg.2.1
  have b4 : sm (2 * f.2) := sm_of (k := 901) (by rw [Int.natAbs_mul, Nat.pow_succ]; have := hf.2.2; show 2 * _ < _; omega) (by decide)
  simp_arith [d__law_amid, x_fr0, x_fr1, o_mul (hf.s1 (by decide)) (hg.s2 (by decide)), o_mul (hg.s1 (by decide)) (hf.s2 (by decide)), o_mul (sm_c 2) (hf.s2 (by decide)), o_mul b4 (hg.s2 (by decide)), s_law_low (k := 1801) (by decide) b1 b3 b2]
  rfl
theorem blw_self (f : Fr) : blw f f = false := by unfold blw; exact decide_eq_false (by omega)
theorem s_greatest_of {n : Nat} {x : Fr} {xs : List Fr} (h : ∀ f ∈ x :: xs, bf 900 f) : rv (fns defs (n + 2) 11) [.list ((x :: xs).map fr)] = .ok (.val (fr (mostF x xs))) := by
  rw [rv_def (d := d_greatest_of) rfl]
  simp_arith [d_greatest_of, List.map_cons]
  have main := for_fold (F := fns defs (n + 1)) (tg := .nm 2) (b := .cons (.ite (.e (.call 8 (.cons (.ex (.v 1)) (.cons (.ex (.v 2)) .nil)))) (.cons (.set 1 (.v 2)) .nil) .nil) .nil) fr (fun (f : Fr) (t : S) => [.val (.list (fr x :: xs.map fr)), .val (fr f), t]) (fun b o => if blw b o = true then o else b) (fun f => bf 900 f) (x :: xs) x .un (h x (List.mem_cons_self ..)) (fun a o t ho ha => by
    have hb := h o ho
    cases e : blw a o with
    | true => exact ⟨hb, .val (fr o), by simp_arith [s_is_less ha hb, e]⟩
    | false => exact ⟨ha, .val (fr o), by simp_arith [s_is_less ha hb, e]⟩)
  obtain ⟨_, t', h2⟩ := main
  rw [List.map_cons] at h2
  rw [h2]
  simp_arith
  rw [List.foldl_cons, blw_self]
  rfl
theorem s_least_of {n : Nat} {x : Fr} {xs : List Fr} (h : ∀ f ∈ x :: xs, bf 900 f) : rv (fns defs (n + 2) 10) [.list ((x :: xs).map fr)] = .ok (.val (fr (leastF x xs))) := by
  rw [rv_def (d := d_least_of) rfl]
  simp_arith [d_least_of, List.map_cons]
  have main := for_fold (F := fns defs (n + 1)) (tg := .nm 2) (b := .cons (.ite (.e (.call 8 (.cons (.ex (.v 2)) (.cons (.ex (.v 1)) .nil)))) (.cons (.set 1 (.v 2)) .nil) .nil) .nil) fr (fun (f : Fr) (t : S) => [.val (.list (fr x :: xs.map fr)), .val (fr f), t]) (fun b o => if blw o b = true then o else b) (fun f => bf 900 f) (x :: xs) x .un (h x (List.mem_cons_self ..)) (fun a o t ho ha => by
    have hb := h o ho
    cases e : blw o a with
    | true => exact ⟨hb, .val (fr o), by simp_arith [s_is_less hb ha, e]⟩
    | false => exact ⟨ha, .val (fr o), by simp_arith [s_is_less hb ha, e]⟩)
  obtain ⟨_, t', h2⟩ := main
  rw [List.map_cons] at h2
  rw [h2]
  simp_arith
  rw [List.foldl_cons, blw_self]
  rfl
theorem s_law_most {n : Nat} {x : Fr} {xs : List Fr} (h : ∀ f ∈ x :: xs, bf 900 f) : rv (fns defs (n + 2) 31) [.list ((x :: xs).map fr)] = .ok (.val (fr (mostF x xs))) := by
  rw [rv_def (d := d__law_most) rfl]
  simp_arith [d__law_most, List.map_cons, sl_fromL _ (show (0 : Int) ≤ 1 by decide), List.drop_succ_cons, List.drop_zero]
  have main := for_fold (F := fns defs (n + 1)) (tg := .nm 2) (b := .cons (.set 1 (.ite (.e (.call 30 (.cons (.ex (.v 1)) (.cons (.ex (.v 2)) .nil)))) (.v 2) (.v 1))) .nil) fr (fun (f : Fr) (t : S) => [.val (.list (fr x :: xs.map fr)), .val (fr f), t]) (fun b o => if blw b o = true then o else b) (fun f => bf 900 f) xs x .un (h x (List.mem_cons_self ..)) (fun a o t ho ha => by
    have hb := h o (List.mem_cons_of_mem _ ho)
    cases e : blw a o with
    | true => exact ⟨hb, .val (fr o), by simp_arith [s_law_below ha hb, e]⟩
    | false => exact ⟨ha, .val (fr o), by simp_arith [s_law_below ha hb, e]⟩)
  obtain ⟨_, t', h2⟩ := main
  rw [h2]
  simp_arith
  rfl
theorem s_law_least {n : Nat} {x : Fr} {xs : List Fr} (h : ∀ f ∈ x :: xs, bf 900 f) : rv (fns defs (n + 2) 32) [.list ((x :: xs).map fr)] = .ok (.val (fr (leastF x xs))) := by
  rw [rv_def (d := d__law_least) rfl]
  simp_arith [d__law_least, List.map_cons, sl_fromL _ (show (0 : Int) ≤ 1 by decide), List.drop_succ_cons, List.drop_zero]
  have main := for_fold (F := fns defs (n + 1)) (tg := .nm 2) (b := .cons (.set 1 (.ite (.e (.call 30 (.cons (.ex (.v 2)) (.cons (.ex (.v 1)) .nil)))) (.v 2) (.v 1))) .nil) fr (fun (f : Fr) (t : S) => [.val (.list (fr x :: xs.map fr)), .val (fr f), t]) (fun b o => if blw o b = true then o else b) (fun f => bf 900 f) xs x .un (h x (List.mem_cons_self ..)) (fun a o t ho ha => by
    have hb := h o (List.mem_cons_of_mem _ ho)
    cases e : blw o a with
    | true => exact ⟨hb, .val (fr o), by simp_arith [s_law_below hb ha, e]⟩
    | false => exact ⟨ha, .val (fr o), by simp_arith [s_law_below hb ha, e]⟩)
  obtain ⟨_, t', h2⟩ := main
  rw [h2]
  simp_arith
  rfl


theorem fr_enum (told : List Fr) (p : Fr × Nat → Bool) : PyData.tuple (((told.zipIdx).filter p).map fun q => PyData.int (q.2 : Int)) = tI (((told.zipIdx).filter p).map fun q => (q.2 : Int)) := by
  unfold tI; rw [List.map_map]; rfl
theorem s_ends_of {n : Nat} {L : List (List Int)} {told : List Fr} (hL : L ≠ []) (ht : told ≠ []) (hl : told.length ≤ 1000) (hb : ∀ f ∈ told, bf 900 f) : rv (fns defs (n + 3) 12) [tT L, .tuple (told.map fr)] = .ok (.val (.tuple [fr (end1 L told), fr (end2 L told)])) := by
  rw [rv_def (d := d_ends_of) rfl]
  refine W_eq ?_
  have hp : ∀ f ∈ told, 0 < f.2 := fun f hf => (hb f hf).2.1
  have hz : ∀ p ∈ told.zipIdx, bf 900 p.1 := fun p hp => by obtain ⟨_, _, h⟩ := List.mem_zipIdx hp; rw [h]; exact hb _ (List.getElem_mem _)
  have ev1 : ∀ f x y, f ∈ told → Ex.den (fns defs (n + 2)) lc_ends_of_1 [.val (tT L), .val (.tuple (told.map fr)), x, y, .val (fr f), .un, .un] = .ok (.own (.list ((lessI told f).map .int)), [.val (tT L), .val (.tuple (told.map fr)), x, y, .val (fr f), .un, .un]) := by
    intro f x y hf
    unfold lc_ends_of_1
    rw [ev_lcF (fun p : Fr × Nat => .tuple [.int (p.2 : Int), fr p.1]) (fun p => blw p.1 f) (fun p => .int (p.2 : Int)) told.zipIdx (by simp_arith; rfl) (fun p hp => by
      cases h : blw p.1 f <;> simp_arith [s_is_less (hz p hp) (hb f hf), h])]
    unfold lessI; rw [List.map_map]; rfl
  have ev2 : ∀ f x y, f ∈ told → Ex.den (fns defs (n + 2)) lc_ends_of_2 [.val (tT L), .val (.tuple (told.map fr)), x, y, .val (fr f), .un, .un] = .ok (.own (.list ((moreI told f).map .int)), [.val (tT L), .val (.tuple (told.map fr)), x, y, .val (fr f), .un, .un]) := by
    intro f x y hf
    unfold lc_ends_of_2
    rw [ev_lcF (fun p : Fr × Nat => .tuple [.int (p.2 : Int), fr p.1]) (fun p => blw f p.1) (fun p => .int (p.2 : Int)) told.zipIdx (by simp_arith; rfl) (fun p hp => by
      cases h : blw f p.1 <;> simp_arith [s_is_less (hb f hf) (hz p hp), h])]
    unfold moreI; rw [List.map_map]; rfl
  unfold lc_ends_of_1 at ev1
  unfold lc_ends_of_2 at ev2
  simp_arith [d_ends_of]
  refine W_for fr (fun rest ρ => ∃ (pre : List Fr) (t : S), pre ++ rest = told ∧ ρ = [.val (tT L), .val (.tuple (told.map fr)), .own (.list ((lowsL L told).take 0 ++ (pre.filter fun f => mayB L (lessI told f)) |>.map fr)), .own (.list ((pre.filter fun f => mayB L (moreI told f)).map fr)), t, .un, .un]) ?_ ?_ told _ ⟨[], .un, rfl, rfl⟩
  · rintro f r ρ ⟨pre, t, e, rfl⟩
    have hf : f ∈ told := by rw [← e]; simp
    have hpl : pre.length ≤ 1000 := by have := congrArg List.length e; simp at this; omega
    have z1 : (pre.filter fun f => mayB L (lessI told f)).length < sizeLine := szl' (by have := List.length_filter_le (fun f => mayB L (lessI told f)) pre; omega)
    have z2 : (pre.filter fun f => mayB L (moreI told f)).length < sizeLine := szl' (by have := List.length_filter_le (fun f => mayB L (moreI told f)) pre; omega)
    have et : ∀ l : List Int, PyData.tuple (l.map .int) = tI l := fun _ => rfl
    have fin : ∀ (x y : Bool), mayB L (lessI told f) = x → mayB L (moreI told f) = y → ∃ pre' t', pre' ++ r = told ∧ [S.val (tT L), .val (.tuple (told.map fr)), .own (.list ((pre.filter fun f => mayB L (lessI told f)).map fr ++ (if x = true then [fr f] else []))), .own (.list ((pre.filter fun f => mayB L (moreI told f)).map fr ++ (if y = true then [fr f] else []))), .val (fr f), .un, .un] = [S.val (tT L), .val (.tuple (told.map fr)), .own (.list ((pre'.filter fun f => mayB L (lessI told f)).map fr)), .own (.list ((pre'.filter fun f => mayB L (moreI told f)).map fr)), t', .un, .un] := by
      intro x y hx hy
      refine ⟨pre ++ [f], .val (fr f), by simp [e], ?_⟩
      rw [List.filter_append, List.filter_append, List.map_append, List.map_append]
      subst hx hy
      congr 4
      · congr 2; cases h : mayB L (lessI told f) <;> simp [h]
      · congr 3; cases h : mayB L (moreI told f) <;> simp [h]
    cases h1 : mayB L (lessI told f) <;> cases h2 : mayB L (moreI told f) <;>
      · have := fin _ _ h1 h2
        simp_arith [ev1 f _ _ hf, ev2 f _ _ hf, et, s_may_lie, h1, h2, List.take_zero, z1, z2]
        simpa using this
  · rintro ρ ⟨pre, t, e, rfl⟩
    rw [List.append_nil] at e
    subst e
    have n1 := lows_ne hL ht hp
    have n2 := highs_ne hL ht hp
    have e1 : (pre.filter fun f => mayB L (lessI pre f)) = lowsL L pre := rfl
    have e2 : (pre.filter fun f => mayB L (moreI pre f)) = highsL L pre := rfl
    have b1 : ∀ f ∈ lowsL L pre, bf 900 f := fun f hf => hb f (List.mem_filter.mp hf).1
    have b2 : ∀ f ∈ highsL L pre, bf 900 f := fun f hf => hb f (List.mem_filter.mp hf).1
    rw [e1, e2]
    unfold end1 end2
    cases hl1 : lowsL L pre with
    | nil => exact absurd hl1 n1
    | cons x xs =>
      cases hl2 : highsL L pre with
      | nil => exact absurd hl2 n2
      | cons y ys =>
        have g1 := s_greatest_of (n := n) (x := x) (xs := xs) (by rw [← hl1]; exact b1)
        have g2 := s_least_of (n := n) (x := y) (xs := ys) (by rw [← hl2]; exact b2)
        rw [List.map_cons] at g1 g2
        simp_arith [List.take_zero, g1, g2]


theorem s_law_ends {n : Nat} {L : List (List Int)} {told : List Fr} (hL : L ≠ []) (ht : told ≠ []) (hl : told.length ≤ 1000) (hb : ∀ f ∈ told, bf 900 f) : rv (fns defs (n + 3) 33) [tT L, .list (told.map fr)] = .ok (.val (.tuple [fr (end1 L told), fr (end2 L told)])) := by
  rw [rv_def (d := d__law_ends) rfl]
  refine W_eq ?_
  have hp : ∀ f ∈ told, 0 < f.2 := fun f hf => (hb f hf).2.1
  have hz : ∀ p ∈ told.zipIdx, bf 900 p.1 := fun p hp => by obtain ⟨_, _, h⟩ := List.mem_zipIdx hp; rw [h]; exact hb _ (List.getElem_mem _)
  have ev1 : ∀ f x y s5 s8, f ∈ told → Ex.den (fns defs (n + 2)) lc__law_ends_1 [.val (tT L), .val (.list (told.map fr)), x, y, .val (fr f), s5, .un, .un, s8] = .ok (.own (.list ((lessI told f).map .int)), [.val (tT L), .val (.list (told.map fr)), x, y, .val (fr f), s5, .un, .un, s8]) := by
    intro f x y s5 s8 hf
    unfold lc__law_ends_1
    rw [ev_lcF (fun p : Fr × Nat => .tuple [.int (p.2 : Int), fr p.1]) (fun p => blw p.1 f) (fun p => .int (p.2 : Int)) told.zipIdx (by simp_arith; rfl) (fun p hp => by
      cases h : blw p.1 f <;> simp_arith [s_law_below (hz p hp) (hb f hf), h])]
    unfold lessI; rw [List.map_map]; rfl
  have ev2 : ∀ f x y s5 s8, f ∈ told → Ex.den (fns defs (n + 2)) lc__law_ends_2 [.val (tT L), .val (.list (told.map fr)), x, y, .val (fr f), s5, .un, .un, s8] = .ok (.own (.list ((moreI told f).map .int)), [.val (tT L), .val (.list (told.map fr)), x, y, .val (fr f), s5, .un, .un, s8]) := by
    intro f x y s5 s8 hf
    unfold lc__law_ends_2
    rw [ev_lcF (fun p : Fr × Nat => .tuple [.int (p.2 : Int), fr p.1]) (fun p => blw f p.1) (fun p => .int (p.2 : Int)) told.zipIdx (by simp_arith; rfl) (fun p hp => by
      cases h : blw f p.1 <;> simp_arith [s_law_below (hb f hf) (hz p hp), h])]
    unfold moreI; rw [List.map_map]; rfl
  unfold lc__law_ends_1 at ev1
  unfold lc__law_ends_2 at ev2
  simp_arith [d__law_ends]
  refine W_for fr (fun rest ρ => ∃ (pre : List Fr) (t s5 s8 : S), pre ++ rest = told ∧ ρ = [.val (tT L), .val (.list (told.map fr)), .own (.list ((pre.filter fun f => mayB L (lessI told f)).map fr)), .own (.list ((pre.filter fun f => mayB L (moreI told f)).map fr)), t, s5, .un, .un, s8]) ?_ ?_ told _ ⟨[], .un, .un, .un, rfl, rfl⟩
  · rintro f r ρ ⟨pre, t, s5, s8, e, rfl⟩
    have hf : f ∈ told := by rw [← e]; simp
    have hpl : pre.length ≤ 1000 := by have := congrArg List.length e; simp at this; omega
    have z1 : ∀ ds : List D, ds.length ≤ 1 → ((pre.filter fun f => mayB L (lessI told f)).map fr).length + ds.length ≤ sizeLine := fun ds h => szl (by have := List.length_filter_le (fun f => mayB L (lessI told f)) pre; simp only [List.length_map]; omega)
    have z2 : ∀ ds : List D, ds.length ≤ 1 → ((pre.filter fun f => mayB L (moreI told f)).map fr).length + ds.length ≤ sizeLine := fun ds h => szl (by have := List.length_filter_le (fun f => mayB L (moreI told f)) pre; simp only [List.length_map]; omega)
    have et : ∀ l : List Int, PyData.tuple (l.map .int) = tI l := fun _ => rfl
    have fin : ∀ (x y : Bool), mayB L (lessI told f) = x → mayB L (moreI told f) = y → ∃ pre' t' s5' s8', pre' ++ r = told ∧ [S.val (tT L), .val (.list (told.map fr)), .own (.list ((pre.filter fun f => mayB L (lessI told f)).map fr ++ (if x = true then [fr f] else []))), .own (.list ((pre.filter fun f => mayB L (moreI told f)).map fr ++ (if y = true then [fr f] else []))), .val (fr f), .val (tI (lessI told f)), .un, .un, .val (tI (moreI told f))] = [S.val (tT L), .val (.list (told.map fr)), .own (.list ((pre'.filter fun f => mayB L (lessI told f)).map fr)), .own (.list ((pre'.filter fun f => mayB L (moreI told f)).map fr)), t', s5', .un, .un, s8'] := by
      intro x y hx hy
      refine ⟨pre ++ [f], .val (fr f), .val (tI (lessI told f)), .val (tI (moreI told f)), by simp [e], ?_⟩
      rw [List.filter_append, List.filter_append, List.map_append, List.map_append]
      subst hx hy
      congr 4
      · congr 2; cases h : mayB L (lessI told f) <;> simp [h]
      · congr 3; cases h : mayB L (moreI told f) <;> simp [h]
    cases h1 : mayB L (lessI told f) <;> cases h2 : mayB L (moreI told f) <;>
      · have := fin _ _ h1 h2
        simp_arith [ev1 f _ _ _ _ hf, ev2 f _ _ _ _ hf, et, s_law_may, h1, h2, o_addL (z1 [] (by simp)), o_addL (z1 [fr f] (by simp)), o_addL (z2 [] (by simp)), o_addL (z2 [fr f] (by simp))]
        simpa using this
  · rintro ρ ⟨pre, t, s5, s8, e, rfl⟩
    rw [List.append_nil] at e
    subst e
    have n1 := lows_ne hL ht hp
    have n2 := highs_ne hL ht hp
    have e1 : (pre.filter fun f => mayB L (lessI pre f)) = lowsL L pre := rfl
    have e2 : (pre.filter fun f => mayB L (moreI pre f)) = highsL L pre := rfl
    have b1 : ∀ f ∈ lowsL L pre, bf 900 f := fun f hf => hb f (List.mem_filter.mp hf).1
    have b2 : ∀ f ∈ highsL L pre, bf 900 f := fun f hf => hb f (List.mem_filter.mp hf).1
    rw [e1, e2]
    unfold end1 end2
    cases hl1 : lowsL L pre with
    | nil => exact absurd hl1 n1
    | cons x xs =>
      cases hl2 : highsL L pre with
      | nil => exact absurd hl2 n2
      | cons y ys =>
        have g1 := s_law_most (n := n) (x := x) (xs := xs) (by rw [← hl1]; exact b1)
        have g2 := s_law_least (n := n) (x := y) (xs := ys) (by rw [← hl2]; exact b2)
        rw [List.map_cons] at g1 g2
        simp_arith [g1, g2]
theorem end1_bf {L : List (List Int)} {told : List Fr} {k : Nat} (hL : L ≠ []) (ht : told ≠ []) (hb : ∀ f ∈ told, bf k f) : bf k (end1 L told) := hb _ (end1_in (lows_ne hL ht fun f hf => (hb f hf).2.1)).1
theorem end2_bf {L : List (List Int)} {told : List Fr} {k : Nat} (hL : L ≠ []) (ht : told ≠ []) (hb : ∀ f ∈ told, bf k f) : bf k (end2 L told) := hb _ (end2_in (highs_ne hL ht fun f hf => (hb f hf).2.1)).1
theorem s_middle_of {n : Nat} {L : List (List Int)} {told : List Fr} (hL : L ≠ []) (ht : told ≠ []) (hl : told.length ≤ 1000) (hb : ∀ f ∈ told, bf 900 f) : rv (fns defs (n + 4) 13) [tT L, .tuple (told.map fr)] = .ok (.val (fr (midF (end1 L told) (end2 L told)))) := by
  rw [rv_def (d := d_middle_of) rfl]
  simp_arith [d_middle_of, s_ends_of hL ht hl hb, s_middle (end1_bf hL ht hb) (end2_bf hL ht hb)]
theorem s_apart {n : Nat} {x : Fr} {xs : List Fr} (h : ∀ f ∈ x :: xs, bf 450 f) : rv (fns defs (n + 3) 35) [.list ((x :: xs).map fr)] = .ok (.val (fr (lowF ((mostF x xs).1 * (leastF x xs).2 - (leastF x xs).1 * (mostF x xs).2) ((mostF x xs).2 * (leastF x xs).2)))) := by
  rw [rv_def (d := d__law_apart) rfl]
  have b1 := h _ (mostF_mem xs x)
  have b2 := h _ (leastF_mem xs x)
  have h9 : ∀ f ∈ x :: xs, bf 900 f := fun f hf => (h f hf).mono (by decide)
  have g1 := s_law_most (n := n) h9
  have g2 := s_law_least (n := n) h9
  rw [List.map_cons] at g1 g2
  have c1 : ((mostF x xs).1 * (leastF x xs).2 - (leastF x xs).1 * (mostF x xs).2).natAbs < 2 ^ 901 := by
    have a1 := mul_lt b1.1 b2.2.2
    have a2 := mul_lt b2.1 b1.2.2
    rw [Nat.pow_succ]
    omega
  have c2 := Nat.lt_of_lt_of_le (mul_lt b1.2.2 b2.2.2) (Nat.pow_le_pow_right (by decide) (show 450 + 450 ≤ 901 by decide))
  simp_arith [d__law_apart, List.map_cons, g1, g2, x_fr0, x_fr1, o_mul (b1.s1 (by decide)) (b2.s2 (by decide)), o_mul (b2.s1 (by decide)) (b1.s2 (by decide)), o_mul (b1.s2 (by decide)) (b2.s2 (by decide)), s_law_low (k := 901) (by decide) c1 (Int.mul_pos b1.2.1 b2.2.1) c2]
theorem s_fraction {n : Nat} : Bx (fns defs (n + 3) 36) [] fun v => ∃ f : Fr, v = .val (fr f) ∧ bf 100 f := by
  refine Bx_def (d := d__law_fraction) rfl fun b hb => ?_
  have p20 : opD .Pow (.int 10) (.int 20) = some (.val (.int 100000000000000000000)) := by rw [o_pow (by decide)]; rfl
  have p15 : opD .Pow (.int 10) (.int 15) = some (.val (.int 1000000000000000)) := by rw [o_pow (by decide)]; rfl
  simp_arith [d__law_fraction, p20]
  refine W_callB [.list [.int 3, .int 9, .int 100000000000000000000]] (s_pick (n := n) (by simp) (by simp)) rfl rfl (.inr rfl) rfl hb ?_
  rintro v b1 hb1 ⟨d, rfl, hd⟩
  obtain ⟨g, rfl, g0, g1⟩ : ∃ g : Int, d = .int g ∧ 0 < g ∧ g ≤ 100000000000000000000 := by
    simp at hd
    rcases hd with rfl | rfl | rfl
    · exact ⟨_, rfl, by decide, by decide⟩
    · exact ⟨_, rfl, by decide, by decide⟩
    · exact ⟨_, rfl, by decide, by decide⟩
  simp_arith
  refine W_callB [.int g] (s_take (n := n + 1) g0 (by omega)) rfl rfl (.inr rfl) rfl hb1 ?_
  rintro v b2 hb2 ⟨x, rfl, x0, x1⟩
  simp_arith
  refine W_callB [.int 3] (s_take (n := n + 1) (by decide) (by decide)) rfl rfl (.inr rfl) rfl hb2 ?_
  rintro v b3 hb3 ⟨y, rfl, y0, y1⟩
  simp_arith [p15]
  refine W_callB [.list [.int 2, .int 6, .int 1000000000000000]] (s_pick (n := n) (by simp) (by simp)) rfl rfl (.inr rfl) rfl hb3 ?_
  rintro v b4 hb4 ⟨d, rfl, hd⟩
  obtain ⟨g', rfl, g0', g1'⟩ : ∃ g : Int, d = .int g ∧ 0 < g ∧ g ≤ 1000000000000000 := by
    simp at hd
    rcases hd with rfl | rfl | rfl
    · exact ⟨_, rfl, by decide, by decide⟩
    · exact ⟨_, rfl, by decide, by decide⟩
    · exact ⟨_, rfl, by decide, by decide⟩
  simp_arith
  refine W_callB [.int g'] (s_take (n := n + 1) g0' (by omega)) rfl rfl (.inr rfl) rfl hb4 ?_
  rintro v b5 hb5 ⟨z, rfl, z0, z1⟩
  have c1 : (x - y).natAbs < 2 ^ 100 := by omega
  have c2 : (1 + z).natAbs < 2 ^ 100 := by omega
  simp_arith [s_law_low (n := n + 1) (k := 100) (by decide) c1 (show 0 < 1 + z by omega) c2]
  exact bxR_rt hb5 ⟨_, rfl, lowF_bf c1 (by omega) c2⟩


theorem s_round_values {n : Nat} {L : List (List Int)} {values : List Fr} {lot : List Int} {ls : List ((Int × Int) × Fr)} (hL : L ≠ []) (hm : values ≠ []) (hl : values.length ≤ 1000) (hv : ∀ f ∈ values, bf 900 f) (hs : ∀ p ∈ ls, bf 900 p.2) :
    R.W (fns defs (n + 5) 14 [.val (tT L), .val (.tuple (values.map fr)), .val (tI lot), .bor (.tuple (ls.map enL))]) fun r => r.1 = .val (.tuple (newD L (kvsL ls) values lot)) ∧ ∃ x y z rest, r.2 = x :: y :: z :: .bor (.tuple (ls.map enL)) :: rest := by
  have e : fns defs (n + 5) 14 = fnF d_round_values.N.length (d_round_values.body.den (fns defs (n + 4))) := rfl
  rw [e]
  unfold fnF
  rw [W_bind]
  have hkv := kvsL_bf hs
  have ht : ∀ h, ∀ f ∈ toldF (kvsL ls) values lot h, bf 900 f := fun h => toldF_bf (by decide) hkv hv h
  have tne : ∀ h, toldF (kvsL ls) values lot h ≠ [] := fun h z => by
    have := toldF_len (kvsL ls) values lot h
    rw [z] at this
    exact hm (List.eq_nil_of_length_eq_zero this.symm)
  have hr := r_1 (show values.length ≤ 1000000 by omega)
  have ev1 : ∀ (h : Nat) (ds : List D) (s7 : S), Ex.den (fns defs (n + 4)) lc_round_values_1 [.val (tT L), .val (.tuple (values.map fr)), .val (tI lot), .bor (.tuple (ls.map enL)), .own (.dict (kvsL ls)), .own (.list ds), .val (.int (h : Int)), s7, .un] = .ok (.own (.list ((toldF (kvsL ls) values lot h).map fr)), [.val (tT L), .val (.tuple (values.map fr)), .val (tI lot), .bor (.tuple (ls.map enL)), .own (.dict (kvsL ls)), .own (.list ds), .val (.int (h : Int)), s7, .un]) := by
    intro h ds s7
    unfold lc_round_values_1
    rw [ev_lcM (fun (i : Nat) => .int (i : Int)) (fun (i : Nat) => fr (if (i : Int) ∈ lot then sayF (kvsL ls) i h else values[i]?.getD (0, 1))) (List.range values.length) (by simp_arith [hr]; rfl) (fun i hi => by
      have hi := List.mem_range.mp hi
      by_cases hh : (i : Int) ∈ lot
      · simp_arith [hh, key_2]
        have := (sayF_ok (k := 900) (by decide) hkv (i : Int) (h : Int)).1
        exact this
      · simp_arith [hh, at_map fr hi, List.getElem?_eq_getElem hi, Option.getD_some])]
    unfold toldF
    rw [List.map_map]; rfl
  unfold lc_round_values_1 at ev1
  have pl : pairsD (ls.map enL) = some (ls.map fun p => (fr p.1, fr p.2)) := pairs_L ls
  have ek : mkDict (ls.map fun p => (fr p.1, fr p.2)) = kvsL ls := rfl
  simp_arith [d_round_values, pl, ek, hr, List.length_replicate]
  refine W_for (fun (i : Nat) => .int (i : Int)) (fun rest ρ => ∃ (pre : List Nat) (t s7 : S), pre ++ rest = List.range values.length ∧ ρ = [.val (tT L), .val (.tuple (values.map fr)), .val (tI lot), .bor (.tuple (ls.map enL)), .own (.dict (kvsL ls)), .own (.list (pre.map fun (i : Nat) => if (i : Int) ∈ lot then .none else fr (newF L (kvsL ls) values lot i))), t, s7, .un]) ?_ ?_ (List.range values.length) _ ⟨[], .un, .un, rfl, rfl⟩
  · rintro h r ρ ⟨pre, t, s7, e2, rfl⟩
    have hpl : pre.length < sizeLine := szl' (by have := congrArg List.length e2; simp at this; omega)
    have fin : ∀ d : D, d = (if (h : Int) ∈ lot then .none else fr (newF L (kvsL ls) values lot h)) → ∃ (pre' : List Nat) (t' s7' : S), pre' ++ r = List.range values.length ∧ [S.val (tT L), .val (.tuple (values.map fr)), .val (tI lot), .bor (.tuple (ls.map enL)), .own (.dict (kvsL ls)), .own (.list ((pre.map fun (i : Nat) => if (i : Int) ∈ lot then .none else fr (newF L (kvsL ls) values lot i)) ++ [d])), .val (.int (h : Int)), .own (.list ((toldF (kvsL ls) values lot h).map fr)), .un] = [S.val (tT L), .val (.tuple (values.map fr)), .val (tI lot), .bor (.tuple (ls.map enL)), .own (.dict (kvsL ls)), .own (.list (pre'.map fun (i : Nat) => if (i : Int) ∈ lot then .none else fr (newF L (kvsL ls) values lot i))), t', s7', .un] := by
      intro d hd
      refine ⟨pre ++ [h], .val (.int (h : Int)), .own (.list ((toldF (kvsL ls) values lot h).map fr)), by simp [e2], ?_⟩
      rw [List.map_append, hd]; rfl
    have mo := s_middle_of (n := n) hL (tne h) (by rw [toldF_len]; exact hl) (ht h)
    by_cases hh : (h : Int) ∈ lot
    · simp_arith [ev1, hh, hpl]
      exact fin _ (by rw [if_pos hh])
    · simp_arith [ev1, hh, hpl, mo]
      exact fin _ (by rw [if_neg hh]; rfl)
  · rintro ρ ⟨pre, t, s7, e2, rfl⟩
    rw [List.append_nil] at e2
    subst e2
    simp_arith [lentOk]
    exact ⟨rfl, _, _, _, _, rfl⟩
theorem s_law_new {n : Nat} {L : List (List Int)} {values : List Fr} {lot : List Int} {ls : List ((Int × Int) × Fr)} (hL : L ≠ []) (hm : values ≠ []) (hl : values.length ≤ 1000) (hv : ∀ f ∈ values, bf 900 f) (hs : ∀ p ∈ ls, bf 900 p.2) :
    rv (fns defs (n + 4) 37) [tT L, .tuple (values.map fr), tI lot, .tuple (ls.map enL)] = .ok (.val (.tuple (newD L (kvsL ls) values lot))) := by
  rw [rv_def (d := d__law_new) rfl]
  refine W_eq ?_
  have hkv := kvsL_bf hs
  have ht : ∀ h, ∀ f ∈ toldF (kvsL ls) values lot h, bf 900 f := fun h => toldF_bf (by decide) hkv hv h
  have tne : ∀ h, toldF (kvsL ls) values lot h ≠ [] := fun h z => by
    have := toldF_len (kvsL ls) values lot h
    rw [z] at this
    exact hm (List.eq_nil_of_length_eq_zero this.symm)
  have hr := r_1 (show values.length ≤ 1000000 by omega)
  have ev1 : ∀ (h : Nat) (ds : List D) (s7 s9 : S), Ex.den (fns defs (n + 3)) lc__law_new_1 [.val (tT L), .val (.tuple (values.map fr)), .val (tI lot), .val (.tuple (ls.map enL)), .own (.dict (kvsL ls)), .own (.list ds), .val (.int (h : Int)), s7, .un, s9] = .ok (.own (.list ((toldF (kvsL ls) values lot h).map fr)), [.val (tT L), .val (.tuple (values.map fr)), .val (tI lot), .val (.tuple (ls.map enL)), .own (.dict (kvsL ls)), .own (.list ds), .val (.int (h : Int)), s7, .un, s9]) := by
    intro h ds s7 s9
    unfold lc__law_new_1
    rw [ev_lcM (fun (i : Nat) => .int (i : Int)) (fun (i : Nat) => fr (if (i : Int) ∈ lot then sayF (kvsL ls) i h else values[i]?.getD (0, 1))) (List.range values.length) (by simp_arith [hr]; rfl) (fun i hi => by
      have hi := List.mem_range.mp hi
      by_cases hh : (i : Int) ∈ lot
      · simp_arith [hh, key_2]
        have := (sayF_ok (k := 900) (by decide) hkv (i : Int) (h : Int)).1
        exact this
      · simp_arith [hh, at_map fr hi, List.getElem?_eq_getElem hi, Option.getD_some])]
    unfold toldF
    rw [List.map_map]; rfl
  unfold lc__law_new_1 at ev1
  have pl : dctLD (.list (ls.map enL)) = some (.own (.dict (kvsL ls))) := by
    show (pairsD (ls.map enL)).map _ = _
    rw [pairs_L]; rfl
  simp_arith [d__law_new, pl, hr]
  refine W_for (fun (i : Nat) => .int (i : Int)) (fun rest ρ => ∃ (pre : List Nat) (t s7 s9 : S), pre ++ rest = List.range values.length ∧ ρ = [.val (tT L), .val (.tuple (values.map fr)), .val (tI lot), .val (.tuple (ls.map enL)), .own (.dict (kvsL ls)), .own (.list (pre.map fun (i : Nat) => if (i : Int) ∈ lot then .none else fr (newF L (kvsL ls) values lot i))), t, s7, .un, s9]) ?_ ?_ (List.range values.length) _ ⟨[], .un, .un, .un, rfl, rfl⟩
  · rintro h r ρ ⟨pre, t, s7, s9, e2, rfl⟩
    have hpl : pre.length < sizeLine := szl' (by have := congrArg List.length e2; simp at this; omega)
    have fin : ∀ (d : D) (s7' s9' : S), d = (if (h : Int) ∈ lot then .none else fr (newF L (kvsL ls) values lot h)) → ∃ (pre' : List Nat) (t' s7'' s9'' : S), pre' ++ r = List.range values.length ∧ [S.val (tT L), .val (.tuple (values.map fr)), .val (tI lot), .val (.tuple (ls.map enL)), .own (.dict (kvsL ls)), .own (.list ((pre.map fun (i : Nat) => if (i : Int) ∈ lot then .none else fr (newF L (kvsL ls) values lot i)) ++ [d])), .val (.int (h : Int)), s7', .un, s9'] = [S.val (tT L), .val (.tuple (values.map fr)), .val (tI lot), .val (.tuple (ls.map enL)), .own (.dict (kvsL ls)), .own (.list (pre'.map fun (i : Nat) => if (i : Int) ∈ lot then .none else fr (newF L (kvsL ls) values lot i))), t', s7'', .un, s9''] := by
      intro d s7' s9' hd
      refine ⟨pre ++ [h], .val (.int (h : Int)), s7', s9', by simp [e2], ?_⟩
      rw [List.map_append, hd]; rfl
    have mo := s_law_ends (n := n) hL (tne h) (by rw [toldF_len]; exact hl) (ht h)
    have am := s_law_amid (n := n + 1) (end1_bf hL (tne h) (ht h)) (end2_bf hL (tne h) (ht h))
    by_cases hh : (h : Int) ∈ lot
    · simp_arith [ev1, hh, hpl, mo]
      exact fin _ _ _ (by rw [if_pos hh])
    · simp_arith [ev1, hh, hpl, mo, am]
      exact fin _ _ _ (by rw [if_neg hh]; rfl)
  · rintro ρ ⟨pre, t, s7, s9, e2, rfl⟩
    rw [List.append_nil] at e2
    subst e2
    simp_arith
    rfl


theorem s_complete {n : Nat} {m : Nat} (hm : m ≤ 9) : rv (fns defs (n + 1) 16) [.int (m : Int)] = .ok (.val (.tuple [.int (m : Int), .tuple ((waysL m).map fr)])) := by
  rw [rv_def (d := d_complete) rfl]
  refine W_eq ?_
  have hr := r_1 (show m ≤ 1000000 by omega)
  rw [rgI_map] at hr
  have ev1 : ∀ (a : Int) (ds : List D), Ex.den (fns defs n) lc_complete_1 [.val (.int (m : Int)), .own (.list ds), .val (.int a), .un] = .ok (.own (.list ((((rgI m).filter fun b => !decide (b = a)).map fun b => (a, b)).map fr)), [.val (.int (m : Int)), .own (.list ds), .val (.int a), .un]) := by
    intro a ds
    unfold lc_complete_1
    rw [ev_lcF .int (fun b => !decide (b = a)) (fun b => fr (a, b)) (rgI m) (by simp_arith [hr]; rfl) (fun b hb => by
      by_cases h : b = a <;> simp_arith [h, fr])]
    rw [List.map_map]; rfl
  unfold lc_complete_1 at ev1
  simp_arith [d_complete, hr]
  refine W_for .int (fun rest ρ => ∃ (pre : List Int) (t : S), pre ++ rest = rgI m ∧ ρ = [.val (.int (m : Int)), .own (.list ((pre.flatMap fun a => ((rgI m).filter fun b => !decide (b = a)).map fun b => (a, b)).map fr)), t, .un]) ?_ ?_ (rgI m) _ ⟨[], .un, rfl, rfl⟩
  · rintro a r ρ ⟨pre, t, e, rfl⟩
    have hf : ∀ a : Int, (((rgI m).filter fun b => !decide (b = a)).map fun b => (a, b)).length ≤ 9 := fun a => by
      rw [List.length_map]
      have := List.length_filter_le (fun b => !decide (b = a)) (rgI m)
      rw [rgI_len] at this
      omega
    have h1 := flatMap_len (f := fun a => ((rgI m).filter fun b => !decide (b = a)).map fun b => (a, b)) (k := 9) (xs := pre) fun a _ => hf a
    have hpl : pre.length ≤ 9 := by have := congrArg List.length e; rw [rgI_len] at this; simp at this; omega
    have z : ((pre.flatMap fun a => ((rgI m).filter fun b => !decide (b = a)).map fun b => (a, b))).length + (((rgI m).filter fun b => !decide (b = a))).length ≤ sizeLine := szl (by have := hf a; rw [List.length_map] at this; omega)
    simp_arith [ev1, z]
    refine ⟨pre ++ [a], .val (.int a), by simp [e], ?_⟩
    rw [List.flatMap_append, List.map_append]
    simp
  · rintro ρ ⟨pre, t, e, rfl⟩
    rw [List.append_nil] at e
    subst e
    simp_arith
    rfl
/-- halving, until it is small -/
theorem s_rounds {n : Nat} {g s : Fr} (hg : bf 100 g) (hs : bf 100 s) (hgs : qv g ≤ qv s * 2 ^ 60) : rv (fns defs (n + 4) 15) [fr g, fr s] = .ok (.val (.int (hN (qv s) 60 (qv g)))) := by
  rw [rv_def (d := d_rounds_till) rfl]
  refine W_eq ?_
  simp_arith [d_rounds_till]
  have hl : (61 : Nat) < lots := by decide
  refine W_wh (fun m ρ => ∃ (i : Nat) (f : Fr), m + i = 60 ∧ bf (100 + 2 * i) f ∧ ρ = [.val (fr f), .val (fr s), .val (.int (i : Int))] ∧ hN (qv s) 60 (qv g) = i + hN (qv s) m (qv f) ∧ qv f ≤ qv s * 2 ^ m) ?_ lots 60 _ (by omega) ⟨0, g, rfl, hg, rfl, by simp, hgs⟩
  rintro m ρ ⟨i, f, hm, hf, rfl, hN1, hb⟩
  have b1 : bf 900 s := hs.mono (by decide)
  have b2 : bf 900 f := hf.mono (by omega)
  have e01 : PyData.tuple [.int 0, .int 1] = fr (0, 1) := rfl
  have b0 : bf 900 ((0, 1) : Fr) := ⟨by decide, by decide, by decide⟩
  cases h : blw s f with
  | true =>
    have hq := (blw_q b1.2.1 b2.2.1).mp h
    cases m with
    | zero => simp at hb; grind
    | succ m =>
      have q2 : qv (midF (0, 1) f) = qv f / 2 := by
        rw [q_mid b0.2.1 b2.2.1]
        have : qv ((0, 1) : Fr) = 0 := by unfold qv; simp [Rat.div_def]
        grind
      have bm : bf (100 + 2 * (i + 1)) (midF (0, 1) f) := by
        unfold midF
        have e1 : (0 : Int) * f.2 + f.1 * 1 = f.1 := by omega
        have e2 : (2 : Int) * 1 * f.2 = 2 * f.2 := by omega
        rw [e1, e2]
        have p0 := hf.2.1
        have p1 := hf.2.2
        have p2 := hf.1
        have ee : 2 ^ (100 + 2 * (i + 1)) = 2 ^ (100 + 2 * i) * 4 := by rw [show 100 + 2 * (i + 1) = (100 + 2 * i) + 2 by omega, Nat.pow_add]
        exact lowF_bf (by omega) (by omega) (by rw [Int.natAbs_mul]; show 2 * _ < _; omega)
      rw [hN_y hq] at hN1
      simp_arith [s_is_less b1 b2, h, e01, s_middle b0 b2]
      refine ⟨m, by omega, i + 1, _, by omega, bm, by simp, ?_, ?_⟩
      · rw [q2]; omega
      · rw [q2]
        have : qv s * 2 ^ (m + 1) = qv s * 2 ^ m * 2 := by rw [Rat.pow_succ, Rat.mul_assoc]
        grind
  | false =>
    have hq := (blw_nq b1.2.1 b2.2.1).mp h
    have h0 : hN (qv s) m (qv f) = 0 := hN_n (by grind)
    simp_arith [s_is_less b1 b2, h]
    rw [hN1, h0]; rfl
theorem s_halved {n : Nat} {g s : Fr} (hg : bf 100 g) (hs : bf 100 s) (hgs : qv g ≤ qv s * 2 ^ 60) : rv (fns defs (n + 2) 38) [fr g, fr s] = .ok (.val (.int (hN (qv s) 60 (qv g)))) := by
  rw [rv_def (d := d__law_halved) rfl]
  refine W_eq ?_
  simp_arith [d__law_halved]
  have hl : (61 : Nat) < lots := by decide
  refine W_wh (fun m ρ => ∃ (i : Nat) (f : Fr), m + i = 60 ∧ bf (100 + 2 * i) f ∧ ρ = [.val (fr f), .val (fr s), .val (.int (i : Int))] ∧ hN (qv s) 60 (qv g) = i + hN (qv s) m (qv f) ∧ qv f ≤ qv s * 2 ^ m) ?_ lots 60 _ (by omega) ⟨0, g, rfl, hg, rfl, by simp, hgs⟩
  rintro m ρ ⟨i, f, hm, hf, rfl, hN1, hb⟩
  have b1 : bf 900 s := hs.mono (by decide)
  have b2 : bf 900 f := hf.mono (by omega)
  cases h : blw s f with
  | true =>
    have hq := (blw_q b1.2.1 b2.2.1).mp h
    cases m with
    | zero => simp at hb; grind
    | succ m =>
      have q2 : qv ((f.1, f.2 * 2) : Fr) = qv f / 2 := by
        unfold qv
        have := castp b2.2.1
        simp only [Rat.intCast_mul, Rat.intCast_ofNat]
        grind
      have bm : bf (100 + 2 * (i + 1)) ((f.1, f.2 * 2) : Fr) := by
        have p0 := hf.2.1
        have p1 := hf.2.2
        have p2 := hf.1
        have ee : 2 ^ (100 + 2 * (i + 1)) = 2 ^ (100 + 2 * i) * 4 := by rw [show 100 + 2 * (i + 1) = (100 + 2 * i) + 2 by omega, Nat.pow_add]
        exact ⟨by show f.1.natAbs < _; omega, by show 0 < f.2 * 2; omega, by show (f.2 * 2).natAbs < _; rw [Int.natAbs_mul]; show _ * 2 < _; omega⟩
      rw [hN_y hq] at hN1
      simp_arith [s_law_below b1 b2, h, x_fr0, x_fr1, o_mul (b2.s2 (by decide)) (sm_c 2)]
      refine ⟨m, by omega, i + 1, (f.1, f.2 * 2), by omega, bm, by simp [fr], ?_, ?_⟩
      · rw [q2]; omega
      · rw [q2]
        have : qv s * 2 ^ (m + 1) = qv s * 2 ^ m * 2 := by rw [Rat.pow_succ, Rat.mul_assoc]
        grind
  | false =>
    have hq := (blw_nq b1.2.1 b2.2.1).mp h
    have h0 : hN (qv s) m (qv f) = 0 := hN_n (by grind)
    simp_arith [s_law_below b1 b2, h]
    rw [hN1, h0]; rfl


section
variable {n : Nat} {sc : D} {o1 s2 s3 s4 s9 s11 s12 s13 s14 s16 s17 s18 s19 s20 s21 : S} {m : Nat} {L : List (List Int)} {cv : Option (List (List Int))} {Q : Fl × En → Prop}
/-- the values are drawn -/
theorem in_0 (hm : m ≤ 9) (hm1 : 1 ≤ m) {b : Int × Int} (hb : okB b)
    (next : ∀ (b' : Int × Int) (fs : List Fr), okB b' → fs.length = m → (∀ f ∈ fs, bf 100 f) → R.W (Sts.den (fns defs (n + 6)) (fb_law_1.dr 2) [.val sc, o1, .own (.list (fs.map fr)), s3, s4, .own (bx b'), .val (.int m), .val (tT L), .val (covD cv), s9, .un, s11, s12, s13, s14, .un, s16, s17, s18, s19, s20, s21]) Q) :
    R.W (Sts.den (fns defs (n + 6)) fb_law_1 [.val sc, o1, s2, s3, s4, .own (bx b), .val (.int m), .val (tT L), .val (covD cv), s9, .un, s11, s12, s13, s14, .un, s16, s17, s18, s19, s20, s21]) Q := by
  have e : fb_law_1 = .cons (Sts.hd fb_law_1) (.cons (Sts.hd (fb_law_1.dr 1)) (fb_law_1.dr 2)) := rfl
  rw [e]
  generalize fb_law_1.dr 2 = B at next ⊢
  simp_arith [Sts.hd, Sts.dr, fb_law_1]
  rw [ex_lc]
  simp_arith [r_1 (show m ≤ 1000000 by omega)]
  refine W_lcL (fun (i : Nat) => .int (i : Int)) (List.range m) (fun out rest ρ => ∃ (b : Int × Int) (t : S) (fs : List Fr), okB b ∧ ρ = [.val sc, o1, s2, s3, s4, .own (bx b), .val (.int m), .val (tT L), .val (covD cv), s9, t, s11, s12, s13, s14, .un, s16, s17, s18, s19, s20, s21] ∧ out = fs.map fr ∧ fs.length + rest.length = m ∧ ∀ f ∈ fs, bf 100 f) ⟨b, .un, [], hb, rfl, rfl, by simp, by simp⟩ ?_ ?_
  · rintro out i r ρ ⟨b, t, fs, hb, rfl, rfl, hl, hf⟩
    simp_arith
    refine W_callB [] (s_fraction (n := n + 3)) rfl rfl (.inl rfl) rfl hb ?_
    rintro v b' hb' ⟨f, rfl, hf'⟩
    simp_arith
    refine ⟨b', .val (.int i), fs ++ [f], hb', rfl, by simp, by simp at hl ⊢; omega, fun g hg => ?_⟩
    rcases List.mem_append.mp hg with h | h
    · exact hf g h
    · simp at h; subst h; exact hf'
  · rintro out ρ' ⟨b, t, fs, hb, rfl, rfl, hl, hf⟩
    simp at hl
    simp_arith [backE, List.getD_cons_succ, List.getD_cons_zero]
    refine W_callB [.int 2] (s_take (n := n + 5) (by decide) (by decide)) rfl rfl (.inl rfl) rfl hb ?_
    rintro v b' hb' ⟨x, rfl, x0, x1⟩
    by_cases hx : x = 0
    · have hlast : L2.atI (fs.map fr) ((m : Int) - 1) = some (fr (fs[m - 1]'(by omega))) := by
        have := at_mapZ fr (xs := fs) (i := (m : Int) - 1) (by omega) (by omega)
        rw [this]
        congr 2
        simp only [show ((m : Int) - 1).toNat = m - 1 by omega]
      have h0 : L2.ixN fs.length 0 = some 0 := ixn_lit (by decide) (by omega)
      simp_arith [hx, hlast, h0]
      have := next b' (fs.set 0 (fs[m - 1]'(by omega))) hb' (by simp [hl]) (fun f hf' => by
        rcases List.mem_or_eq_of_mem_set hf' with h | h
        · exact hf f h
        · rw [h]; exact hf _ (List.getElem_mem _))
      rw [List.map_set] at this
      exact this
    · simp_arith [hx]
      exact next b' fs hb' hl hf
/-- ends, middles; who lies -/
theorem in_2 (hL : fam m 4 L) (hm : m ≤ 9) (hm1 : 1 ≤ m) {b : Int × Int} (hb : okB b) {fs : List Fr} (hfl : fs.length = m) (hf : ∀ f ∈ fs, bf 100 f)
    (next : ∀ (b' : Int × Int) (lot : List Int) (s2 s11 : S), okB b' → mayB L lot = true → R.W (Sts.den (fns defs (n + 6)) (fb_law_1.dr 5) [.val sc, o1, s2, s3, s4, .own (bx b'), .val (.int m), .val (tT L), .val (covD cv), s9, .un, s11, .val (tI lot), .val (.tuple (fs.map fr)), s14, .un, s16, s17, s18, s19, s20, s21]) Q) :
    R.W (Sts.den (fns defs (n + 6)) (fb_law_1.dr 2) [.val sc, o1, .own (.list (fs.map fr)), s3, s4, .own (bx b), .val (.int m), .val (tT L), .val (covD cv), s9, .un, s11, s12, s13, s14, .un, s16, s17, s18, s19, s20, s21]) Q := by
  have e : fb_law_1.dr 2 = .cons (Sts.hd (fb_law_1.dr 2)) (.cons (Sts.hd (fb_law_1.dr 3)) (.cons (Sts.hd (fb_law_1.dr 4)) (fb_law_1.dr 5))) := rfl
  rw [e]
  generalize fb_law_1.dr 5 = B at next ⊢
  have hne : fs ≠ [] := by intro z; subst z; simp at hfl; omega
  have hf9 : ∀ f ∈ fs, bf 900 f := fun f h => (hf f h).mono (by decide)
  have b1 := end1_bf hL.1 hne hf9
  have b2 := end2_bf hL.1 hne hf9
  have g1 := s_law_ends (n := n + 3) hL.1 hne (by omega) hf9
  have g2 := s_ends_of (n := n + 3) hL.1 hne (by omega) hf9
  have g3 := s_middle_of (n := n + 2) hL.1 hne (by omega) hf9
  have g4 := s_law_amid (n := n + 4) b1 b2
  have g5 := s_same 3 (.tuple [.tuple [fr (end1 L fs), fr (end2 L fs)], fr (midF (end1 L fs) (end2 L fs))]) (n + 2) (pl_tup fun d hd => by
      simp at hd
      rcases hd with rfl | rfl
      · exact pl_tup fun d hd => by simp at hd; rcases hd with rfl | rfl <;> exact pl_fr _
      · exact pl_fr _) (dp_tup (k := 2) fun d hd => by
      simp at hd
      rcases hd with rfl | rfl
      · exact dp_tup (k := 1) fun d hd => by simp at hd; rcases hd with rfl | rfl <;> exact dp_fr _
      · have := dp_fr (midF (end1 L fs) (end2 L fs)); omega)
  have hfl1 : L.flatten.length ≤ 62 ∧ (DLr.sortU DLr.ltI L.flatten).length ≤ 9 := ⟨by have := hL.flat.1; omega, by have := hL.flat.2; omega⟩
  simp_arith [Sts.hd, Sts.dr, fb_law_1, g1, g2, g3, g4, g5]
  refine W_callB [tT L] (s_any_lying (n := n + 2) hL.1 hfl1.1 hfl1.2) rfl rfl (.inl rfl) rfl hb ?_
  rintro v b' hb' ⟨lot, rfl, hlot⟩
  simp_arith
  exact next b' lot _ _ hb' hlot
end


section
variable {n : Nat} {sc : D} {o1 s2 s3 s4 s9 s11 s12 s13 s14 s16 s17 s18 s19 s20 s21 : S} {m : Nat} {L : List (List Int)} {cv : Option (List (List Int))} {Q : Fl × En → Prop}
/-- what liars say -/
theorem in_5 (hm : m ≤ 9) {b : Int × Int} (hb : okB b) {lot : List Int}
    (next : ∀ (b' : Int × Int) (ls : List ((Int × Int) × Fr)), okB b' → (∀ p ∈ ls, bf 100 p.2) → R.W (Sts.den (fns defs (n + 6)) (fb_law_1.dr 6) [.val sc, o1, s2, s3, s4, .own (bx b'), .val (.int m), .val (tT L), .val (covD cv), s9, .un, s11, .val (tI lot), s13, .own (.tuple (ls.map enL)), .un, s16, s17, s18, s19, s20, s21]) Q) :
    R.W (Sts.den (fns defs (n + 6)) (fb_law_1.dr 5) [.val sc, o1, s2, s3, s4, .own (bx b), .val (.int m), .val (tT L), .val (covD cv), s9, .un, s11, .val (tI lot), s13, s14, .un, s16, s17, s18, s19, s20, s21]) Q := by
  have e : fb_law_1.dr 5 = .cons (Sts.hd (fb_law_1.dr 5)) (fb_law_1.dr 6) := rfl
  rw [e]
  generalize fb_law_1.dr 6 = B at next ⊢
  simp_arith [Sts.hd, Sts.dr, fb_law_1]
  rw [ex_lc]
  simp_arith [s_complete (n := n + 5) hm]
  refine W_lcL fr (waysL m) (fun out rest ρ => ∃ (b : Int × Int) (t : S) (ls : List ((Int × Int) × Fr)), okB b ∧ ρ = [.val sc, o1, s2, s3, s4, .own (bx b), .val (.int m), .val (tT L), .val (covD cv), s9, .un, s11, .val (tI lot), s13, s14, t, s16, s17, s18, s19, s20, s21] ∧ out = ls.map enL ∧ ∀ p ∈ ls, bf 100 p.2) ⟨b, .un, [], hb, rfl, rfl, by simp⟩ ?_ ?_
  · rintro out w r ρ ⟨b, t, ls, hb, rfl, rfl, hf⟩
    by_cases hw : w.1 ∈ lot
    · simp_arith [x_fr0, hw]
      refine W_callB [.int 4] (s_take (n := n + 5) (by decide) (by decide)) rfl rfl (.inl rfl) rfl hb ?_
      rintro v b' hb' ⟨x, rfl, x0, x1⟩
      by_cases hx : 0 < x
      · simp_arith [hx]
        refine W_callB [] (s_fraction (n := n + 3)) rfl rfl (.inl rfl) rfl hb' ?_
        rintro v b2 hb2 ⟨f, rfl, hf'⟩
        simp_arith
        refine ⟨b2, .val (fr w), ls ++ [(w, f)], hb2, rfl, by simp [enL], fun g hg => ?_⟩
        rcases List.mem_append.mp hg with h | h
        · exact hf g h
        · simp at h; subst h; exact hf'
      · simp_arith [hx]
        exact ⟨b', .val (fr w), ls, hb', rfl, by simp, hf⟩
    · simp_arith [x_fr0, hw]
      exact ⟨b, .val (fr w), ls, hb, rfl, by simp, hf⟩
  · rintro out ρ' ⟨b, t, ls, hb, rfl, rfl, hf⟩
    simp_arith [backE, List.getD_cons_succ, List.getD_cons_zero]
    exact next b ls hb hf
/-- the round -/
theorem in_6 (hL : fam m 4 L) {b : Int × Int} {lot : List Int} {ls : List ((Int × Int) × Fr)} {values : List Fr} (hvm : values.length = m) (hm1 : 1 ≤ m) (hm : m ≤ 9) (hv : ∀ f ∈ values, bf 100 f) (hls : ∀ p ∈ ls, bf 100 p.2)
    (next : ∀ s2 s14, R.W (Sts.den (fns defs (n + 6)) (fb_law_1.dr 8) [.val sc, o1, s2, s3, s4, .own (bx b), .val (.int m), .val (tT L), .val (covD cv), s9, .un, s11, .val (tI lot), .val (.tuple (values.map fr)), s14, .un, .val (.tuple (newD L (kvsL ls) values lot)), s17, s18, s19, s20, s21]) Q) :
    R.W (Sts.den (fns defs (n + 6)) (fb_law_1.dr 6) [.val sc, o1, s2, s3, s4, .own (bx b), .val (.int m), .val (tT L), .val (covD cv), s9, .un, s11, .val (tI lot), .val (.tuple (values.map fr)), .own (.tuple (ls.map enL)), .un, s16, s17, s18, s19, s20, s21]) Q := by
  have e : fb_law_1.dr 6 = .cons (Sts.hd (fb_law_1.dr 6)) (.cons (Sts.hd (fb_law_1.dr 7)) (fb_law_1.dr 8)) := rfl
  rw [e]
  generalize fb_law_1.dr 8 = B at next ⊢
  have hne : values ≠ [] := by intro z; subst z; simp at hvm; omega
  have hv9 : ∀ f ∈ values, bf 900 f := fun f h => (hv f h).mono (by decide)
  have hl9 : ∀ p ∈ ls, bf 900 p.2 := fun f h => (hls f h).mono (by decide)
  have g1 := s_round_values (n := n + 1) (lot := lot) hL.1 hne (by omega) hv9 hl9
  have g2 := s_law_new (n := n + 2) (lot := lot) hL.1 hne (by omega) hv9 hl9
  have g3 := s_same 2 (.tuple (newD L (kvsL ls) values lot)) (n + 3) (pl_new ..) (dp_new ..)
  simp_arith [Sts.hd, Sts.dr, fb_law_1]
  refine W_call4 (Q' := fun v => v = .val (.tuple (newD L (kvsL ls) values lot))) g1 rfl (.inl rfl) ?_
  rintro v rfl
  simp_arith [g2, g3]
  exact next _ _
/-- honest houses -/
theorem in_8 {b : Int × Int} {lot : List Int} (hm : m ≤ 9)
    (next : R.W (Sts.den (fns defs (n + 6)) (fb_law_1.dr 9) [.val sc, o1, s2, s3, s4, .own (bx b), .val (.int m), .val (tT L), .val (covD cv), s9, .un, s11, .val (tI lot), s13, s14, .un, s16, .own (.list (((rgI m).filter fun h => !decide (h ∈ lot)).map .int)), s18, s19, s20, s21]) Q) :
    R.W (Sts.den (fns defs (n + 6)) (fb_law_1.dr 8) [.val sc, o1, s2, s3, s4, .own (bx b), .val (.int m), .val (tT L), .val (covD cv), s9, .un, s11, .val (tI lot), s13, s14, .un, s16, s17, s18, s19, s20, s21]) Q := by
  have e : fb_law_1.dr 8 = .cons (Sts.hd (fb_law_1.dr 8)) (fb_law_1.dr 9) := rfl
  rw [e]
  generalize fb_law_1.dr 9 = B at next ⊢
  have hr := r_1 (show m ≤ 1000000 by omega)
  rw [rgI_map] at hr
  have ev : Ex.den (fns defs (n + 6)) lc_law_3 [.val sc, o1, s2, s3, s4, .own (bx b), .val (.int m), .val (tT L), .val (covD cv), s9, .un, s11, .val (tI lot), s13, s14, .un, s16, s17, s18, s19, s20, s21] = .ok (.own (.list (((rgI m).filter fun h => !decide (h ∈ lot)).map .int)), [.val sc, o1, s2, s3, s4, .own (bx b), .val (.int m), .val (tT L), .val (covD cv), s9, .un, s11, .val (tI lot), s13, s14, .un, s16, s17, s18, s19, s20, s21]) := by
    unfold lc_law_3
    rw [ev_lcF .int (fun h => !decide (h ∈ lot)) .int (rgI m) (by simp_arith [hr]; rfl) (fun h hh => by
      by_cases hx : h ∈ lot <;> simp_arith [hx])]
  unfold lc_law_3 at ev
  simp_arith [Sts.hd, Sts.dr, fb_law_1, ev]
  exact next
/-- as near to one another as is due -/
theorem in_9 (hL : fam m 4 L) {b : Int × Int} {lot : List Int} {ls : List ((Int × Int) × Fr)} {values : List Fr} (hvm : values.length = m) (hm1 : 1 ≤ m) (hm : m ≤ 9) (hv : ∀ f ∈ values, bf 100 f) (hls : ∀ p ∈ ls, bf 100 p.2) (hlot : mayB L lot = true) (hcv : cv = covL L (rgI m) 3)
    (next : ∀ s17 s18 s19 s20, Q (.nx, [.val sc, o1, s2, s3, s4, .own (bx b), .val (.int m), .val (tT L), .val (covD cv), s9, .un, s11, .val (tI lot), .val (.tuple (values.map fr)), s14, .un, .val (.tuple (newD L (kvsL ls) values lot)), s17, s18, s19, s20, s21])) :
    R.W (Sts.den (fns defs (n + 6)) (fb_law_1.dr 9) [.val sc, o1, s2, s3, s4, .own (bx b), .val (.int m), .val (tT L), .val (covD cv), s9, .un, s11, .val (tI lot), .val (.tuple (values.map fr)), s14, .un, .val (.tuple (newD L (kvsL ls) values lot)), .own (.list (((rgI m).filter fun h => !decide (h ∈ lot)).map .int)), s18, s19, s20, s21]) Q := by
  have e : fb_law_1.dr 9 = .cons (Sts.hd (fb_law_1.dr 9)) .nil := rfl
  rw [e]
  cases hc : cv with
  | some z =>
    subst hcv
    rw [hc] at next
    simp_arith [Sts.hd, Sts.dr, fb_law_1, isn_cov, Option.isNone_some]
    exact next _ _ _ _
  | none =>
    rw [hc] at hcv next
    have hc3 : covL L (rgI values.length) 3 = none := by rw [hvm]; exact hcv.symm
    have hne : values ≠ [] := by intro z; subst z; simp at hvm; omega
    have hkv9 := kvsL_bf (k := 900) (ls := ls) fun p hp => (hls p hp).mono (by decide)
    have hkv1 := kvsL_bf (k := 100) (ls := ls) hls
    have hv9 : ∀ f ∈ values, bf 900 f := fun f h => (hv f h).mono (by decide)
    have tne : ∀ h, toldF (kvsL ls) values lot h ≠ [] := fun h z => by
      have := toldF_len (kvsL ls) values lot h
      rw [z] at this
      exact hne (List.eq_nil_of_length_eq_zero this.symm)
    have bnew : ∀ h, bf 201 (newF L (kvsL ls) values lot h) := fun h => by
      have ht := toldF_bf (lot := lot) (by decide) hkv1 hv h
      exact midF_bf (end1_bf hL.1 (tne h) ht) (end2_bf hL.1 (tne h) ht)
    -- the honest houses
    obtain ⟨h0, hh0, hn0, _, _⟩ := no3 (P := lot) (Q := lot) (T := lot) hcv.symm hlot hlot hlot
    have hHne : ((rgI m).filter fun h => !decide (h ∈ lot)) ≠ [] := by
      intro z
      have : h0 ∈ ((rgI m).filter fun h => !decide (h ∈ lot)) := List.mem_filter.mpr ⟨hh0, by simpa using hn0⟩
      rw [z] at this
      simp at this
    have hHin : ∀ h ∈ ((rgI m).filter fun h => !decide (h ∈ lot)), 0 ≤ h ∧ h.toNat < values.length ∧ h ∉ lot := fun h hh => by
      obtain ⟨h1, h2⟩ := List.mem_filter.mp hh
      have h1 := mem_rgI.mp h1
      exact ⟨h1.1, by omega, by simpa using h2⟩
    have hHdef : ((rgI values.length).filter fun h => !decide (h ∈ lot)) = ((rgI m).filter fun h => !decide (h ∈ lot)) := by rw [hvm]
    generalize ((rgI m).filter fun h => !decide (h ∈ lot)) = H at hHne hHin hHdef
    have e4 : Ex.den (fns defs (n + 6)) lc_law_4 [.val sc, o1, s2, s3, s4, .own (bx b), .val (.int m), .val (tT L), .val (covD none), s9, .un, s11, .val (tI lot), .val (.tuple (values.map fr)), s14, .un, .val (.tuple (newD L (kvsL ls) values lot)), .own (.list (H.map .int)), s18, s19, s20, s21] = .ok (.own (.list ((H.map (vF values)).map fr)), [.val sc, o1, s2, s3, s4, .own (bx b), .val (.int m), .val (tT L), .val (covD none), s9, .un, s11, .val (tI lot), .val (.tuple (values.map fr)), s14, .un, .val (.tuple (newD L (kvsL ls) values lot)), .val (.list (H.map .int)), s18, s19, s20, s21]) := by
      unfold lc_law_4
      rw [ev_lcM .int (fun h => fr (vF values h)) H (by simp_arith; rfl) (fun h hh => by
        obtain ⟨a1, a2, a3⟩ := hHin h hh
        have := at_mapZ fr a1 a2
        simp_arith [this]
        unfold vF
        rw [List.getElem?_eq_getElem a2]; rfl)]
      rw [List.map_map]; rfl
    have e5 : Ex.den (fns defs (n + 6)) lc_law_5 [.val sc, o1, s2, s3, s4, .own (bx b), .val (.int m), .val (tT L), .val (covD none), s9, .un, s11, .val (tI lot), .val (.tuple (values.map fr)), s14, .un, .val (.tuple (newD L (kvsL ls) values lot)), .val (.list (H.map .int)), s18, s19, s20, s21] = .ok (.own (.list ((H.map (newF L (kvsL ls) values lot)).map fr)), [.val sc, o1, s2, s3, s4, .own (bx b), .val (.int m), .val (tT L), .val (covD none), s9, .un, s11, .val (tI lot), .val (.tuple (values.map fr)), s14, .un, .val (.tuple (newD L (kvsL ls) values lot)), .val (.list (H.map .int)), s18, s19, s20, s21]) := by
      unfold lc_law_5
      rw [ev_lcM .int (fun h => fr (newF L (kvsL ls) values lot h)) H (by simp_arith; rfl) (fun h hh => by
        obtain ⟨a1, a2, a3⟩ := hHin h hh
        have := at_mapZ (fun (i : Nat) => if (i : Int) ∈ lot then PyData.none else fr (newF L (kvsL ls) values lot i)) (xs := List.range values.length) a1 (by rw [List.length_range]; exact a2)
        rw [List.getElem_range, Int.toNat_of_nonneg a1, if_neg a3] at this
        simp_arith [newD, this])]
      rw [List.map_map]; rfl
    cases hO : H.map (vF values) with
    | nil => exact absurd (List.map_eq_nil_iff.mp hO) hHne
    | cons x xs =>
      cases hN : H.map (newF L (kvsL ls) values lot) with
      | nil => exact absurd (List.map_eq_nil_iff.mp hN) hHne
      | cons y ys =>
        rw [hO] at e4
        rw [hN] at e5
        have bx1 : ∀ f ∈ x :: xs, bf 100 f := fun f hf => by
          rw [← hO] at hf
          obtain ⟨h, hh, rfl⟩ := List.mem_map.mp hf
          obtain ⟨a1, a2, a3⟩ := hHin h hh
          unfold vF
          rw [List.getElem?_eq_getElem a2]
          exact hv _ (List.getElem_mem a2)
        have by1 : ∀ f ∈ y :: ys, bf 201 f := fun f hf => by
          rw [← hN] at hf
          obtain ⟨h, hh, rfl⟩ := List.mem_map.mp hf
          exact bnew h
        obtain ⟨r1, r2, r3⟩ := round_law (x := x) (y := y) (xs := xs) (ys := ys) (kvs := kvsL ls) hL.1 hc3 hlot hne hkv9 hv9 (by rw [hHdef, hO]) (by rw [hHdef, hN]) fun f hf => (by1 f hf).2.1
        have bx9 : ∀ f ∈ x :: xs, bf 900 f := fun f hf => (bx1 f hf).mono (by decide)
        have by9 : ∀ f ∈ y :: ys, bf 900 f := fun f hf => (by1 f hf).mono (by decide)
        have g1 := s_law_most (n := n + 4) bx9
        have g2 := s_law_least (n := n + 4) bx9
        have g3 := s_law_most (n := n + 4) by9
        have g4 := s_law_least (n := n + 4) by9
        have g5 := s_apart (n := n + 3) (fun f hf => (bx1 f hf).mono (show 100 ≤ 450 by decide))
        have g6 := s_apart (n := n + 3) (fun f hf => (by1 f hf).mono (show 201 ≤ 450 by decide))
        have q1 := s_law_below (n := n + 5) (bx9 _ (mostF_mem xs x)) (by9 _ (mostF_mem ys y))
        have q2 := s_law_below (n := n + 5) (by9 _ (leastF_mem ys y)) (bx9 _ (leastF_mem xs x))
        have ba := ap_bf bx1
        have bb := ap_bf by1
        have bb2 : bf 900 ((2 * (apF y ys).1, (apF y ys).2) : Fr) := ⟨by
          have h1 : (apF y ys).1.natAbs < 2 ^ 899 := (bb.mono (show 2 * 201 + 1 ≤ 899 by decide)).1
          have e : 2 ^ 900 = 2 ^ 899 * 2 := by rw [← Nat.pow_succ]
          rw [e]
          show (2 * (apF y ys).1).natAbs < _
          rw [Int.natAbs_mul]; show 2 * _ < _; omega, bb.2.1, (bb.mono (show 2 * 201 + 1 ≤ 900 by decide)).2.2⟩
        have q3 := s_law_below (n := n + 5) (ba.mono (show 2 * 100 + 1 ≤ 900 by decide)) bb2
        rw [r1] at q1
        rw [r2] at q2
        rw [r3] at q3
        have e20 : PyData.tuple [.int (2 * (apF y ys).1), .int (apF y ys).2] = fr (2 * (apF y ys).1, (apF y ys).2) := rfl
        have ea : ∀ (z : Fr) (zs : List Fr), lowF ((mostF z zs).1 * (leastF z zs).2 - (leastF z zs).1 * (mostF z zs).2) ((mostF z zs).2 * (leastF z zs).2) = apF z zs := fun _ _ => rfl
        rw [ea] at g5 g6
        have hsm := o_mul (sm_c 2) (bb.s1 (by decide))
        rw [List.map_cons] at g1 g2 g3 g4 g5 g6 e4 e5
        unfold lc_law_4 at e4
        unfold lc_law_5 at e5
        have en : (covD none) = .none := rfl
        rw [en] at e4 e5 next
        rw [en]
        simp_arith [Sts.hd, Sts.dr, fb_law_1, e4, e5, g1, g2, g3, g4, g5, g6, q1, q2, q3, x_fr0, x_fr1, hsm, e20]
        exact next _ _ _ _
end


theorem q_le60 {p q a c : Int} (p1 : p < 1000000) (q0 : 0 < q) (a0 : 0 < a) (c0 : 0 < c) (c1 : c ≤ 1000000) (p0 : 0 ≤ p) : qv (lowF p q) ≤ qv (lowF a c) * 2 ^ 60 := by
  rw [q_low q0, q_low c0]
  have h1 : ¬ ((a * 2 ^ 60 : Int) : Rat) / (c : Rat) < (p : Rat) / (q : Rat) := by
    rw [q_lt c0 q0]
    have e1 : p * c ≤ 1000000 * 1000000 := Int.mul_le_mul (by omega) c1 (by omega) (by decide)
    have e2 : 1 * 1 ≤ a * q := Int.mul_le_mul (by omega) (by omega) (by decide) (by omega)
    have e3 : a * 2 ^ 60 * q = 2 ^ 60 * (a * q) := by rw [Int.mul_comm a, Int.mul_assoc]
    rw [e3]
    omega
  have h2 : ((a * 2 ^ 60 : Int) : Rat) / (c : Rat) = (a : Rat) / (c : Rat) * 2 ^ 60 := by
    have := castp c0
    simp only [Rat.intCast_mul, Rat.intCast_pow, Rat.intCast_ofNat]
    grind
  rw [h2] at h1
  grind
section
variable {n : Nat} {ns : List Int} {o1 s2 s3 s4 s5 s6 s7 s8 s9 s11 s12 s13 s14 s16 s17 s18 s19 s20 s21 : S} {Q : Fl × En → Prop}
/-- the gaps -/
theorem out_6 {sc : D} {b : Int × Int} (hb : okB b)
    (next : ∀ (b' : Int × Int) s20 s21, Q (.nx, [.val sc, o1, s2, s3, s4, .own (bx b'), s6, s7, s8, s9, .un, s11, s12, s13, s14, .un, s16, s17, s18, s19, s20, s21])) :
    R.W (Sts.den (fns defs (n + 6)) (fb_law_2.dr 6) [.val sc, o1, s2, s3, s4, .own (bx b), s6, s7, s8, s9, .un, s11, s12, s13, s14, .un, s16, s17, s18, s19, s20, s21]) Q := by
  have e : fb_law_2.dr 6 = .cons (Sts.hd (fb_law_2.dr 6)) (.cons (Sts.hd (fb_law_2.dr 7)) .nil) := rfl
  rw [e]
  have p6 : opD .Pow (.int 10) (.int 6) = some (.val (.int 1000000)) := by rw [o_pow (by decide)]; rfl
  simp_arith [Sts.hd, Sts.dr, fb_law_2, p6]
  refine W_callB [.int 1000000] (s_take (n := n + 5) (by decide) (by decide)) rfl rfl (.inl rfl) rfl hb ?_
  rintro v b1 hb1 ⟨p, rfl, p0, p1⟩
  simp_arith
  refine W_callB [.int 50] (s_take (n := n + 5) (by decide) (by decide)) rfl rfl (.inl rfl) rfl hb1 ?_
  rintro v b2 hb2 ⟨q, rfl, q0, q1⟩
  have l1 := s_law_low (n := n + 5) (a := p) (b := 1 + q) (k := 100) (by decide) (by omega) (by omega) (by omega)
  have f1 : bf 100 (lowF p (1 + q)) := lowF_bf (by omega) (by omega) (by omega)
  simp_arith [l1]
  refine W_callB [.int 9] (s_take (n := n + 5) (by decide) (by decide)) rfl rfl (.inl rfl) rfl hb2 ?_
  rintro v b3 hb3 ⟨a, rfl, a0, a1⟩
  simp_arith [p6]
  refine W_callB [.int 1000000] (s_take (n := n + 5) (by decide) (by decide)) rfl rfl (.inl rfl) rfl hb3 ?_
  rintro v b4 hb4 ⟨c, rfl, c0, c1⟩
  have l2 := s_law_low (n := n + 5) (a := 1 + a) (b := 1 + c) (k := 100) (by decide) (by omega) (by omega) (by omega)
  have f2 : bf 100 (lowF (1 + a) (1 + c)) := lowF_bf (by omega) (by omega) (by omega)
  have hq : qv (lowF p (1 + q)) ≤ qv (lowF (1 + a) (1 + c)) * 2 ^ 60 := q_le60 p1 (by omega) (by omega) (by omega) (by omega) p0
  have r1 := s_rounds (n := n + 2) f1 f2 hq
  have r2 := s_halved (n := n + 4) f1 f2 hq
  have r3 := s_same 0 (.int (hN (qv (lowF (1 + a) (1 + c))) 60 (qv (lowF p (1 + q))))) (n + 5) (pl_int _) (by simp [PyData.depth])
  simp_arith [l2, r1, r2, r3]
  exact next _ _ _
/-- a turn -/
theorem out_0 {k : Nat} (hns : ns.length ≤ 63) (hk : k ≤ 1000)
    (next : ∀ s2 s5 s6 s7 s8 s9 s11 s12 s13 s14 s16 s17 s18 s19 s20 s21, Q (.nx, [.val (.list (ns.map .int)), o1, s2, s3, .val (.int (k : Int)), s5, s6, s7, s8, s9, .un, s11, s12, s13, s14, .un, s16, s17, s18, s19, s20, s21])) :
    R.W (Sts.den (fns defs (n + 6)) fb_law_2 [.val (.list (ns.map .int)), o1, s2, s3, .val (.int (k : Int)), s5, s6, s7, s8, s9, .un, s11, s12, s13, s14, .un, s16, s17, s18, s19, s20, s21]) Q := by
  have e : fb_law_2 = .cons (Sts.hd fb_law_2) (.cons (Sts.hd (fb_law_2.dr 1)) (.cons (Sts.hd (fb_law_2.dr 2)) (.cons (Sts.hd (fb_law_2.dr 3)) (.cons (Sts.hd (fb_law_2.dr 4)) (.cons (.for (.rng (.cons (.ex (.c (.int 6))) .nil)) (.nm 9) fb_law_1) (fb_law_2.dr 6)))))) := rfl
  have o6 := @out_6 n
  rw [e]
  generalize fb_law_2.dr 6 = B at o6 ⊢
  obtain ⟨b0, g0, hb0⟩ : ∃ b, rv (fns defs (n + 6) 17) [.list (ns.map .int), .int (k : Int)] = .ok (.own (bx b)) ∧ okB b := by
    obtain ⟨a, h1, b, rfl, h2⟩ := (s_box (n := n + 5) ns hns k (by omega) (by omega)).ex
    exact ⟨b, h1, h2⟩
  have in0 := @in_0 n
  have in2 := @in_2 n
  have in5 := @in_5 n
  have in6 := @in_6 n
  have in8 := @in_8 n
  have in9 := @in_9 n
  generalize hI : fb_law_1 = I at in0 in2 in5 in6 in8 in9 ⊢
  simp_arith [Sts.hd, Sts.dr, fb_law_2, g0]
  refine W_callB [.int 3] (s_take (n := n + 5) (by decide) (by decide)) rfl rfl (.inl rfl) rfl hb0 ?_
  rintro v b1 hb1 ⟨x, rfl, x0, x1⟩
  obtain ⟨m, hm, hm3, hm5⟩ : ∃ m : Nat, 3 + x = (m : Int) ∧ 3 ≤ m ∧ m ≤ 5 := ⟨(3 + x).toNat, by omega, by omega, by omega⟩
  simp_arith [hm]
  refine W_callB [.int (m : Int), .int 4] (s_any_liars (n := n + 3) m 4 (by omega) (by omega) (by decide) (by decide)) rfl rfl (.inl rfl) rfl hb1 ?_
  rintro v b2 hb2 ⟨L, rfl, hL⟩
  have hL : fam m 4 L := hL
  have lot := hL.lot
  have hl4 : L.length ≤ 4 := hL.2.1
  have hl1 : 1 ≤ L.length := List.length_pos_iff.mpr hL.1
  have c1 := s_hold (n := n + 4) (L := L) (lot := rgI m) (c := 3) (by omega) (fun l hl => by have := (lot l hl).1; omega) (by decide)
  have c2 := s_cover (n := n + 3) (L := L) (lot := rgI m) (c := 3) (chain3 L.length hl1 (by omega)) (fun l hl => ⟨by have := (lot l hl).1; omega, fun x hx => by have := (lot l hl).2 x hx; omega⟩) (by omega) (by decide)
  have c3 := s_same 2 (covD (covL L (rgI m) 3)) (n + 3) (pl_cov _) (dp_cov _)
  have e3 : ((3 : Nat) : Int) = 3 := rfl
  rw [e3] at c1 c2
  have et : PyData.tuple ((rgI m).map .int) = tI (rgI m) := rfl
  have r6 : range1D [.int 6] = some ((List.range 6).map fun (i : Nat) => .int (i : Int)) := r_1 (n := 6) (by decide)
  simp_arith [l_1 (show m ≤ 1000000 by omega), l_1t (show m ≤ 1000000 by omega), rgI_map, et, c1, c2, c3, r6]
  refine W_for (fun (i : Nat) => .int (i : Int)) (fun rest ρ => ∃ (b : Int × Int) (s2 s9 s11 s12 s13 s14 s16 s17 s18 s19 s20 s21 : S), okB b ∧ ρ = [.val (.list (ns.map .int)), o1, s2, s3, .val (.int (k : Int)), .own (bx b), .val (.int (m : Int)), .val (tT L), .val (covD (covL L (rgI m) 3)), s9, .un, s11, s12, s13, s14, .un, s16, s17, s18, s19, s20, s21]) ?_ ?_ (List.range 6) _ ⟨b2, _, _, _, _, _, _, _, _, _, _, _, _, hb2, rfl⟩
  · rintro i r ρ ⟨b, s2, s9, s11, s12, s13, s14, s16, s17, s18, s19, s20, s21, hb, rfl⟩
    simp_arith
    refine in0 (by omega) (by omega) hb ?_
    intro b3 fs hb3 hfs hbf
    refine in2 hL (by omega) (by omega) hb3 hfs hbf ?_
    intro b4 lt s2 s11 hb4 hlt
    refine in5 (by omega) hb4 ?_
    intro b5 ls hb5 hls
    refine in6 hL hfs (by omega) (by omega) hbf hls ?_
    intro s2 s14
    refine in8 (by omega) ?_
    refine in9 hL hfs (by omega) (by omega) hbf hls hlt rfl ?_
    intro s17 s18 s19 s20
    exact ⟨b5, _, _, _, _, _, _, _, _, _, _, _, _, hb5, rfl⟩
  · rintro ρ ⟨b, s2, s9, s11, s12, s13, s14, s16, s17, s18, s19, s20, s21, hb, rfl⟩
    simp_arith
    refine o6 hb ?_
    intro b' s20 s21
    exact next _ _ _ _ _ _ _ _ _ _ _ _ _ _ _ _
end


def onesC : List (List Int) := [[0], [1], [2], [3]]
def toldC : List Fr := [(3, 1), (1, 1), (2, 1), (90, 1)]
theorem turns (l : Int) (h : 0 ≤ l) : ∃ t : Nat, (if (if (9 : Int) < l then (9 : Int) else l) > 5 then (if (9 : Int) < l then (9 : Int) else l) else 5) = (t : Int) ∧ t ≤ 9 := by
  by_cases h9 : 9 < l
  · rw [if_pos h9]; exact ⟨9, rfl, by decide⟩
  · rw [if_neg h9]
    by_cases h5 : l > 5
    · rw [if_pos h5]; exact ⟨l.toNat, by omega, by omega⟩
    · rw [if_neg h5]; exact ⟨5, rfl, by decide⟩
set_option maxHeartbeats 800000 in
theorem s_law {n : Nat} {ns : List Int} (hns : ns.length ≤ 63) : rv (fns defs (n + 7) 39) [.list (ns.map .int)] = .ok (.val (.bool true)) := by
  obtain ⟨t, ht, ht9⟩ := turns (ns.length : Int) (by omega)
  rw [rv_def (d := d_law) rfl]
  refine W_eq ?_
  have e : d_law.body = .cons (Sts.hd d_law.body) (.cons (Sts.hd (d_law.body.dr 1)) (.cons (Sts.hd (d_law.body.dr 2)) (.cons (.for (.rng (.cons (.ex (.bi .max (.cons (.ex (.c (.int 5))) (.cons (.ex (.bi .min (.cons (.ex (.bi .len (.cons (.at 0) .nil))) (.cons (.ex (.c (.int 9))) .nil)))) .nil)))) .nil)) (.nm 4) fb_law_2) (.cons (.ret (.c (.bool true))) .nil)))) := rfl
  have o0 := @out_0 n
  rw [e]
  generalize fb_law_2 = B at o0 ⊢
  have fm : ∀ a b : Int, PyData.tuple [.int a, .int b] = fr (a, b) := fun _ _ => rfl
  have eO : PyData.tuple [.tuple [.int 0], .tuple [.int 1], .tuple [.int 2], .tuple [.int 3]] = tT onesC := rfl
  have eT : PyData.tuple [fr (3, 1), fr (1, 1), fr (2, 1), fr (90, 1)] = .tuple (toldC.map fr) := rfl
  have e1 : PyData.tuple [.tuple []] = tT [[]] := rfl
  have bT : ∀ f ∈ toldC, bf 900 f := fun f hf => bf.mono (j := 10) (by
    have : ∀ f ∈ toldC, f.1.natAbs < 2 ^ 10 ∧ 0 < f.2 ∧ f.2.natAbs < 2 ^ 10 := by decide +kernel
    exact this f hf) (by decide)
  have bC : ∀ a b : Int, a.natAbs < 2 ^ 10 → 0 < b → b.natAbs < 2 ^ 10 → bf 100 (a, b) := fun a b h1 h2 h3 => bf.mono (j := 10) ⟨h1, h2, h3⟩ (by decide)
  have g1 := s_ends_of (n := n + 3) (L := onesC) (told := toldC) (by decide) (by decide) (by decide) bT
  have g2 := s_middle_of (n := n + 2) (L := onesC) (told := toldC) (by decide) (by decide) (by decide) bT
  have g3 := s_ends_of (n := n + 3) (L := [[]]) (told := toldC) (by decide) (by decide) (by decide) bT
  have g4 := s_rounds (n := n + 2) (g := (10, 1)) (s := (1, 1)) (bC _ _ (by decide) (by decide) (by decide)) (bC _ _ (by decide) (by decide) (by decide)) (by decide +kernel)
  have g5 := s_rounds (n := n + 2) (g := (1, 2)) (s := (1, 2)) (bC _ _ (by decide) (by decide) (by decide)) (bC _ _ (by decide) (by decide) (by decide)) (by decide +kernel)
  have g6 := s_rounds (n := n + 2) (g := (0, 1)) (s := (1, 9)) (bC _ _ (by decide) (by decide) (by decide)) (bC _ _ (by decide) (by decide) (by decide)) (by decide +kernel)
  rw [show end1 onesC toldC = (2, 1) by decide +kernel, show end2 onesC toldC = (3, 1) by decide +kernel] at g1 g2
  rw [show midF (2, 1) (3, 1) = (5, 2) by decide +kernel] at g2
  rw [show end1 [[]] toldC = (1, 1) by decide +kernel, show end2 [[]] toldC = (90, 1) by decide +kernel] at g3
  rw [show hN (qv (1, 1)) 60 (qv (10, 1)) = 4 by decide +kernel] at g4
  rw [show hN (qv (1, 2)) 60 (qv (1, 2)) = 0 by decide +kernel] at g5
  rw [show hN (qv (1, 9)) 60 (qv (0, 1)) = 0 by decide +kernel] at g6
  have i4 : ((4 : Nat) : Int) = 4 := rfl
  have i0 : ((0 : Nat) : Int) = 0 := rfl
  rw [i4] at g4
  rw [i0] at g5 g6
  have g7 := s_same 3 (.tuple [.tuple [fr (2, 1), fr (3, 1)], fr (5, 2), .tuple [fr (1, 1), fr (90, 1)], .int 4, .int 0, .int 0]) (n + 2) (by decide +kernel) (by decide +kernel)
  simp_arith [Sts.hd, Sts.dr, d_law, fm, eO, eT, e1, g1, g2, g3, g4, g5, g6, g7]
  rw [ht]
  simp_arith [r_1 (show t ≤ 1000000 by omega)]
  refine W_for (fun (i : Nat) => .int (i : Int)) (fun rest ρ => (∀ i ∈ rest, i < 1000) ∧ ∃ (o1 s2 s3 s4 s5 s6 s7 s8 s9 s11 s12 s13 s14 s16 s17 s18 s19 s20 s21 : S), ρ = [.val (.list (ns.map .int)), o1, s2, s3, s4, s5, s6, s7, s8, s9, .un, s11, s12, s13, s14, .un, s16, s17, s18, s19, s20, s21]) ?_ ?_ (List.range t) _ ⟨fun i hi => by have := List.mem_range.mp hi; omega, _, _, _, _, _, _, _, _, _, _, _, _, _, _, _, _, _, _, _, rfl⟩
  · rintro i r ρ ⟨hi, o1, s2, s3, s4, s5, s6, s7, s8, s9, s11, s12, s13, s14, s16, s17, s18, s19, s20, s21, rfl⟩
    simp_arith
    refine o0 hns (by have := hi i (List.mem_cons_self ..); omega) ?_
    intros
    exact ⟨fun j hj => hi j (List.mem_cons_of_mem _ hj), _, _, _, _, _, _, _, _, _, _, _, _, _, _, _, _, _, _, _, rfl⟩
  · rintro ρ ⟨hi, o1, s2, s3, s4, s5, s6, s7, s8, s9, s11, s12, s13, s14, s16, s17, s18, s19, s20, s21, rfl⟩
    simp_arith


end DL

set_option maxHeartbeats 0
namespace DL
open PySem PySem.Spec PyProof.Rows L2
theorem law_outs {ns : List Int} (h : ns.length ≤ 63) : ∃ outs, fns defs 7 39 [.val (.list (ns.map .int))] = .ok (.val (.bool true), outs) ∧ True := by
  have e := s_law (n := 0) h
  unfold rv at e
  rw [List.map_cons, List.map_nil] at e
  cases h2 : fns defs 7 39 [.val (.list (ns.map .int))] with
  | ok r =>
    rw [show (0 : Nat) + 7 = 7 from rfl, h2] at e
    obtain ⟨a, b⟩ := r
    have e : R.ok a = R.ok (S.val (.bool true)) := e
    cases e
    exact ⟨b, rfl, trivial⟩
  | exc c d => rw [show (0 : Nat) + 7 = 7 from rfl, h2] at e; cases e
  | stuck => rw [show (0 : Nat) + 7 = 7 from rfl, h2] at e; cases e
def topS (i : Nat) : Stmt := PySem.Challenge.pw_nonelearns_k94_whole_ends_and_middles.main.body.getD i (.Pass ⟨0, 0, 0, 0⟩)
abbrev tx_is_within : Stmt := topS 1
theorem chk_is_within : d_is_within.chk blts tab tx_is_within = true := by decide +kernel
abbrev tx_put_together : Stmt := topS 2
theorem chk_put_together : d_put_together.chk blts tab tx_put_together = true := by decide +kernel
abbrev tx_may_lie : Stmt := topS 4
theorem chk_may_lie : d_may_lie.chk blts tab tx_may_lie = true := by decide +kernel
abbrev tx_next_places : Stmt := topS 5
theorem chk_next_places : d_next_places.chk blts tab tx_next_places = true := by decide +kernel
abbrev tx_held_by : Stmt := topS 6
theorem chk_held_by : d_held_by.chk blts tab tx_held_by = true := by decide +kernel
abbrev tx_cover_of : Stmt := topS 7
theorem chk_cover_of : d_cover_of.chk blts tab tx_cover_of = true := by decide +kernel
abbrev tx_common_part : Stmt := topS 9
theorem chk_common_part : d_common_part.chk blts tab tx_common_part = true := by decide +kernel
abbrev tx_fraction_of : Stmt := topS 10
theorem chk_fraction_of : d_fraction_of.chk blts tab tx_fraction_of = true := by decide +kernel
abbrev tx_is_less : Stmt := topS 11
theorem chk_is_less : d_is_less.chk blts tab tx_is_less = true := by decide +kernel
abbrev tx_middle : Stmt := topS 12
theorem chk_middle : d_middle.chk blts tab tx_middle = true := by decide +kernel
abbrev tx_least_of : Stmt := topS 13
theorem chk_least_of : d_least_of.chk blts tab tx_least_of = true := by decide +kernel
abbrev tx_greatest_of : Stmt := topS 14
theorem chk_greatest_of : d_greatest_of.chk blts tab tx_greatest_of = true := by decide +kernel
abbrev tx_ends_of : Stmt := topS 16
theorem chk_ends_of : d_ends_of.chk blts tab tx_ends_of = true := by decide +kernel
abbrev tx_middle_of : Stmt := topS 17
theorem chk_middle_of : d_middle_of.chk blts tab tx_middle_of = true := by decide +kernel
abbrev tx_round_values : Stmt := topS 18
theorem chk_round_values : d_round_values.chk blts tab tx_round_values = true := by decide +kernel
abbrev tx_rounds_till : Stmt := topS 19
theorem chk_rounds_till : d_rounds_till.chk blts tab tx_rounds_till = true := by decide +kernel
abbrev tx_complete : Stmt := topS 21
theorem chk_complete : d_complete.chk blts tab tx_complete = true := by decide +kernel
abbrev tx__law_box : Stmt := topS 23
theorem chk__law_box : d__law_box.chk blts tab tx__law_box = true := by decide +kernel
abbrev tx__law_take : Stmt := topS 24
theorem chk__law_take : d__law_take.chk blts tab tx__law_take = true := by decide +kernel
abbrev tx__law_pick : Stmt := topS 25
theorem chk__law_pick : d__law_pick.chk blts tab tx__law_pick = true := by decide +kernel
abbrev tx__law_same : Stmt := topS 26
theorem chk__law_same : d__law_same.chk blts tab tx__law_same = true := by decide +kernel
abbrev tx__law_in : Stmt := topS 27
theorem chk__law_in : d__law_in.chk blts tab tx__law_in = true := by decide +kernel
abbrev tx__law_may : Stmt := topS 28
theorem chk__law_may : d__law_may.chk blts tab tx__law_may = true := by decide +kernel
abbrev tx__law_all_lying : Stmt := topS 29
theorem chk__law_all_lying : d__law_all_lying.chk blts tab tx__law_all_lying = true := by decide +kernel
abbrev tx__law_greatest : Stmt := topS 30
theorem chk__law_greatest : d__law_greatest.chk blts tab tx__law_greatest = true := by decide +kernel
abbrev tx__law_drawn_lot : Stmt := topS 31
theorem chk__law_drawn_lot : d__law_drawn_lot.chk blts tab tx__law_drawn_lot = true := by decide +kernel
abbrev tx__law_any_liars : Stmt := topS 32
theorem chk__law_any_liars : d__law_any_liars.chk blts tab tx__law_any_liars = true := by decide +kernel
abbrev tx__law_hold : Stmt := topS 33
theorem chk__law_hold : d__law_hold.chk blts tab tx__law_hold = true := by decide +kernel
abbrev tx__law_any_lying : Stmt := topS 34
theorem chk__law_any_lying : d__law_any_lying.chk blts tab tx__law_any_lying = true := by decide +kernel
abbrev tx__law_low : Stmt := topS 35
theorem chk__law_low : d__law_low.chk blts tab tx__law_low = true := by decide +kernel
abbrev tx__law_below : Stmt := topS 36
theorem chk__law_below : d__law_below.chk blts tab tx__law_below = true := by decide +kernel
abbrev tx__law_most : Stmt := topS 37
theorem chk__law_most : d__law_most.chk blts tab tx__law_most = true := by decide +kernel
abbrev tx__law_least : Stmt := topS 38
theorem chk__law_least : d__law_least.chk blts tab tx__law_least = true := by decide +kernel
abbrev tx__law_ends : Stmt := topS 39
theorem chk__law_ends : d__law_ends.chk blts tab tx__law_ends = true := by decide +kernel
abbrev tx__law_amid : Stmt := topS 40
theorem chk__law_amid : d__law_amid.chk blts tab tx__law_amid = true := by decide +kernel
abbrev tx__law_apart : Stmt := topS 41
theorem chk__law_apart : d__law_apart.chk blts tab tx__law_apart = true := by decide +kernel
abbrev tx__law_fraction : Stmt := topS 42
theorem chk__law_fraction : d__law_fraction.chk blts tab tx__law_fraction = true := by decide +kernel
abbrev tx__law_new : Stmt := topS 43
theorem chk__law_new : d__law_new.chk blts tab tx__law_new = true := by decide +kernel
abbrev tx__law_halved : Stmt := topS 44
theorem chk__law_halved : d__law_halved.chk blts tab tx__law_halved = true := by decide +kernel
abbrev tx_law : Stmt := topS 45
theorem chk_law : d_law.chk blts tab tx_law = true := by decide +kernel

theorem bnd_is_within : BindEq d_is_within tx_is_within := fun kV doc pm an cdv ct us ws hl => match us, ws, hl with | [], [a, b], _ => rfl | [a], [b], _ => rfl | [a, b], [], _ => rfl
theorem bnd_put_together : BindEq d_put_together tx_put_together := fun kV doc pm an cdv ct us ws hl => match us, ws, hl with | [], [a, b], _ => rfl | [a], [b], _ => rfl | [a, b], [], _ => rfl
theorem bnd_may_lie : BindEq d_may_lie tx_may_lie := fun kV doc pm an cdv ct us ws hl => match us, ws, hl with | [], [a, b], _ => rfl | [a], [b], _ => rfl | [a, b], [], _ => rfl
theorem bnd_next_places : BindEq d_next_places tx_next_places := fun kV doc pm an cdv ct us ws hl => match us, ws, hl with | [], [a, b], _ => rfl | [a], [b], _ => rfl | [a, b], [], _ => rfl
theorem bnd_held_by : BindEq d_held_by tx_held_by := fun kV doc pm an cdv ct us ws hl => match us, ws, hl with | [], [a, b], _ => rfl | [a], [b], _ => rfl | [a, b], [], _ => rfl
theorem bnd_cover_of : BindEq d_cover_of tx_cover_of := fun kV doc pm an cdv ct us ws hl => match us, ws, hl with | [], [a, b, c], _ => rfl | [a], [b, c], _ => rfl | [a, b], [c], _ => rfl | [a, b, c], [], _ => rfl
theorem bnd_common_part : BindEq d_common_part tx_common_part := fun kV doc pm an cdv ct us ws hl => match us, ws, hl with | [], [a, b], _ => rfl | [a], [b], _ => rfl | [a, b], [], _ => rfl
theorem bnd_fraction_of : BindEq d_fraction_of tx_fraction_of := fun kV doc pm an cdv ct us ws hl => match us, ws, hl with | [], [a, b], _ => rfl | [a], [b], _ => rfl | [a, b], [], _ => rfl
theorem bnd_is_less : BindEq d_is_less tx_is_less := fun kV doc pm an cdv ct us ws hl => match us, ws, hl with | [], [a, b], _ => rfl | [a], [b], _ => rfl | [a, b], [], _ => rfl
theorem bnd_middle : BindEq d_middle tx_middle := fun kV doc pm an cdv ct us ws hl => match us, ws, hl with | [], [a, b], _ => rfl | [a], [b], _ => rfl | [a, b], [], _ => rfl
theorem bnd_least_of : BindEq d_least_of tx_least_of := fun kV doc pm an cdv ct us ws hl => match us, ws, hl with | [], [a], _ => rfl | [a], [], _ => rfl
theorem bnd_greatest_of : BindEq d_greatest_of tx_greatest_of := fun kV doc pm an cdv ct us ws hl => match us, ws, hl with | [], [a], _ => rfl | [a], [], _ => rfl
theorem bnd_ends_of : BindEq d_ends_of tx_ends_of := fun kV doc pm an cdv ct us ws hl => match us, ws, hl with | [], [a, b], _ => rfl | [a], [b], _ => rfl | [a, b], [], _ => rfl
theorem bnd_middle_of : BindEq d_middle_of tx_middle_of := fun kV doc pm an cdv ct us ws hl => match us, ws, hl with | [], [a, b], _ => rfl | [a], [b], _ => rfl | [a, b], [], _ => rfl
theorem bnd_round_values : BindEq d_round_values tx_round_values := fun kV doc pm an cdv ct us ws hl => match us, ws, hl with | [], [a, b, c, d], _ => rfl | [a], [b, c, d], _ => rfl | [a, b], [c, d], _ => rfl | [a, b, c], [d], _ => rfl | [a, b, c, d], [], _ => rfl
theorem bnd_rounds_till : BindEq d_rounds_till tx_rounds_till := fun kV doc pm an cdv ct us ws hl => match us, ws, hl with | [], [a, b], _ => rfl | [a], [b], _ => rfl | [a, b], [], _ => rfl
theorem bnd_complete : BindEq d_complete tx_complete := fun kV doc pm an cdv ct us ws hl => match us, ws, hl with | [], [a], _ => rfl | [a], [], _ => rfl
theorem bnd__law_box : BindEq d__law_box tx__law_box := fun kV doc pm an cdv ct us ws hl => match us, ws, hl with | [], [a, b], _ => rfl | [a], [b], _ => rfl | [a, b], [], _ => rfl
theorem bnd__law_take : BindEq d__law_take tx__law_take := fun kV doc pm an cdv ct us ws hl => match us, ws, hl with | [], [a, b], _ => rfl | [a], [b], _ => rfl | [a, b], [], _ => rfl
theorem bnd__law_pick : BindEq d__law_pick tx__law_pick := fun kV doc pm an cdv ct us ws hl => match us, ws, hl with | [], [a, b], _ => rfl | [a], [b], _ => rfl | [a, b], [], _ => rfl
theorem bnd__law_same : BindEq d__law_same tx__law_same := fun kV doc pm an cdv ct us ws hl => match us, ws, hl with | [], [a, b], _ => rfl | [a], [b], _ => rfl | [a, b], [], _ => rfl
theorem bnd__law_in : BindEq d__law_in tx__law_in := fun kV doc pm an cdv ct us ws hl => match us, ws, hl with | [], [a, b], _ => rfl | [a], [b], _ => rfl | [a, b], [], _ => rfl
theorem bnd__law_may : BindEq d__law_may tx__law_may := fun kV doc pm an cdv ct us ws hl => match us, ws, hl with | [], [a, b], _ => rfl | [a], [b], _ => rfl | [a, b], [], _ => rfl
theorem bnd__law_all_lying : BindEq d__law_all_lying tx__law_all_lying := fun kV doc pm an cdv ct us ws hl => match us, ws, hl with | [], [a], _ => rfl | [a], [], _ => rfl
theorem bnd__law_greatest : BindEq d__law_greatest tx__law_greatest := fun kV doc pm an cdv ct us ws hl => match us, ws, hl with | [], [a], _ => rfl | [a], [], _ => rfl
theorem bnd__law_drawn_lot : BindEq d__law_drawn_lot tx__law_drawn_lot := fun kV doc pm an cdv ct us ws hl => match us, ws, hl with | [], [a, b, c], _ => rfl | [a], [b, c], _ => rfl | [a, b], [c], _ => rfl | [a, b, c], [], _ => rfl
theorem bnd__law_any_liars : BindEq d__law_any_liars tx__law_any_liars := fun kV doc pm an cdv ct us ws hl => match us, ws, hl with | [], [a, b, c], _ => rfl | [a], [b, c], _ => rfl | [a, b], [c], _ => rfl | [a, b, c], [], _ => rfl
theorem bnd__law_hold : BindEq d__law_hold tx__law_hold := fun kV doc pm an cdv ct us ws hl => match us, ws, hl with | [], [a, b, c], _ => rfl | [a], [b, c], _ => rfl | [a, b], [c], _ => rfl | [a, b, c], [], _ => rfl
theorem bnd__law_any_lying : BindEq d__law_any_lying tx__law_any_lying := fun kV doc pm an cdv ct us ws hl => match us, ws, hl with | [], [a, b], _ => rfl | [a], [b], _ => rfl | [a, b], [], _ => rfl
theorem bnd__law_low : BindEq d__law_low tx__law_low := fun kV doc pm an cdv ct us ws hl => match us, ws, hl with | [], [a, b], _ => rfl | [a], [b], _ => rfl | [a, b], [], _ => rfl
theorem bnd__law_below : BindEq d__law_below tx__law_below := fun kV doc pm an cdv ct us ws hl => match us, ws, hl with | [], [a, b], _ => rfl | [a], [b], _ => rfl | [a, b], [], _ => rfl
theorem bnd__law_most : BindEq d__law_most tx__law_most := fun kV doc pm an cdv ct us ws hl => match us, ws, hl with | [], [a], _ => rfl | [a], [], _ => rfl
theorem bnd__law_least : BindEq d__law_least tx__law_least := fun kV doc pm an cdv ct us ws hl => match us, ws, hl with | [], [a], _ => rfl | [a], [], _ => rfl
theorem bnd__law_ends : BindEq d__law_ends tx__law_ends := fun kV doc pm an cdv ct us ws hl => match us, ws, hl with | [], [a, b], _ => rfl | [a], [b], _ => rfl | [a, b], [], _ => rfl
theorem bnd__law_amid : BindEq d__law_amid tx__law_amid := fun kV doc pm an cdv ct us ws hl => match us, ws, hl with | [], [a, b], _ => rfl | [a], [b], _ => rfl | [a, b], [], _ => rfl
theorem bnd__law_apart : BindEq d__law_apart tx__law_apart := fun kV doc pm an cdv ct us ws hl => match us, ws, hl with | [], [a], _ => rfl | [a], [], _ => rfl
theorem bnd__law_fraction : BindEq d__law_fraction tx__law_fraction := fun kV doc pm an cdv ct us ws hl => match us, ws, hl with | [], [a], _ => rfl | [a], [], _ => rfl
theorem bnd__law_new : BindEq d__law_new tx__law_new := fun kV doc pm an cdv ct us ws hl => match us, ws, hl with | [], [a, b, c, d], _ => rfl | [a], [b, c, d], _ => rfl | [a, b], [c, d], _ => rfl | [a, b, c], [d], _ => rfl | [a, b, c, d], [], _ => rfl
theorem bnd__law_halved : BindEq d__law_halved tx__law_halved := fun kV doc pm an cdv ct us ws hl => match us, ws, hl with | [], [a, b], _ => rfl | [a], [b], _ => rfl | [a, b], [], _ => rfl
theorem bnd_law : BindEq d_law tx_law := fun kV doc pm an cdv ct us ws hl => match us, ws, hl with | [], [a], _ => rfl | [a], [], _ => rfl
def fnL0 : List He.DefD := [defD d_is_within tx_is_within, defD d_put_together tx_put_together, defD d_may_lie tx_may_lie, defD d_next_places tx_next_places, defD d_held_by tx_held_by, defD d_cover_of tx_cover_of, defD d_common_part tx_common_part, defD d_fraction_of tx_fraction_of, defD d_is_less tx_is_less, defD d_middle tx_middle, defD d_least_of tx_least_of, defD d_greatest_of tx_greatest_of, defD d_ends_of tx_ends_of, defD d_middle_of tx_middle_of, defD d_round_values tx_round_values, defD d_rounds_till tx_rounds_till, defD d_complete tx_complete, defD d__law_box tx__law_box, defD d__law_take tx__law_take, defD d__law_pick tx__law_pick]
def fnL1 : List He.DefD := [defD d__law_same tx__law_same, defD d__law_in tx__law_in, defD d__law_may tx__law_may, defD d__law_all_lying tx__law_all_lying, defD d__law_greatest tx__law_greatest, defD d__law_drawn_lot tx__law_drawn_lot, defD d__law_any_liars tx__law_any_liars, defD d__law_hold tx__law_hold, defD d__law_any_lying tx__law_any_lying, defD d__law_low tx__law_low, defD d__law_below tx__law_below, defD d__law_most tx__law_most, defD d__law_least tx__law_least, defD d__law_ends tx__law_ends, defD d__law_amid tx__law_amid, defD d__law_apart tx__law_apart, defD d__law_fraction tx__law_fraction, defD d__law_new tx__law_new, defD d__law_halved tx__law_halved, defD d_law tx_law]
def fnL : List He.DefD := fnL0 ++ fnL1
def faL0 : List He.Fa := [.glo "is_within", .glo "put_together", .glo "may_lie", .glo "next_places", .glo "held_by", .glo "cover_of", .glo "common_part", .glo "fraction_of", .glo "is_less", .glo "middle", .glo "least_of", .glo "greatest_of", .glo "ends_of", .glo "middle_of", .glo "round_values", .glo "rounds_till", .glo "complete", .glo "_law_box", .glo "_law_take", .glo "_law_pick"]
def faL1 : List He.Fa := [.glo "_law_same", .glo "_law_in", .glo "_law_may", .glo "_law_all_lying", .glo "_law_greatest", .glo "_law_drawn_lot", .glo "_law_any_liars", .glo "_law_hold", .glo "_law_any_lying", .glo "_law_low", .glo "_law_below", .glo "_law_most", .glo "_law_least", .glo "_law_ends", .glo "_law_amid", .glo "_law_apart", .glo "_law_fraction", .glo "_law_new", .glo "_law_halved", .glo "law"]
def faL2 : List He.Fa := [.free "abs", .free "all", .free "any", .free "bool", .free "dict", .free "enumerate", .free "int", .free "isinstance", .free "len", .free "list", .free "max", .free "min", .free "range", .free "set", .free "sorted", .free "str", .free "sum", .free "tuple", .free "zip"]
def faL : List He.Fa := faL0 ++ faL1 ++ faL2
abbrev rowL : PySem.W.OpenRow := PySem.W.OpenLaw.row PySem.Challenge.rw_nonelearns_k94_whole_ends_and_middles
abbrev hkL : PySem.W.Hook := He.hookD 4 faL fnL
def obL (s : PySem.W.SharedT) : He.AlD := He.obsDG 4 faL fnL (HandSHeadRun.getT s)
theorem ob_eqL (s : PySem.W.SharedT) : obL s = hkL.obs s.abs := He.obsDG_eq (HandSHeadRun.getT_eq s)
def looseL0 : List Str := ["is_within", "put_together", "may_lie", "next_places", "held_by", "cover_of", "common_part", "fraction_of", "is_less", "middle", "least_of", "greatest_of", "ends_of", "middle_of", "round_values", "rounds_till", "complete", "_law_box", "_law_take", "_law_pick"]
def looseL1 : List Str := ["_law_same", "_law_in", "_law_may", "_law_all_lying", "_law_greatest", "_law_drawn_lot", "_law_any_liars", "_law_hold", "_law_any_lying", "_law_low", "_law_below", "_law_most", "_law_least", "_law_ends", "_law_amid", "_law_apart", "_law_fraction", "_law_new", "_law_halved"]
def looseL : List Str := looseL0 ++ looseL1
theorem runL (w : World) : HandSHeadRun.RunEq rowL (PySem.W.view rowL.prog [45]) hkL obL 6000 looseL w := by
  intro os
  kernel_rfl
section
variable {P : Program} {w : World} {K : PySem.W.Frag} {h : Heap} {mg : Str → Option Value}
theorem liesL (X : K.In h) (G : h.Ns mainGlobals mg) (c : He.SaysD faL fnL K) : ∀ (i : Nat) (d : Df), defs[i]? = some d → ∃ st, d.chk blts tab st = true ∧ Lies K mg d st
  | 0, d, hi => by cases hi; exact ⟨tx_is_within, chk_is_within, lies_of X G c 0 0 rfl rfl bnd_is_within⟩
  | 1, d, hi => by cases hi; exact ⟨tx_put_together, chk_put_together, lies_of X G c 1 1 rfl rfl bnd_put_together⟩
  | 2, d, hi => by cases hi; exact ⟨tx_may_lie, chk_may_lie, lies_of X G c 2 2 rfl rfl bnd_may_lie⟩
  | 3, d, hi => by cases hi; exact ⟨tx_next_places, chk_next_places, lies_of X G c 3 3 rfl rfl bnd_next_places⟩
  | 4, d, hi => by cases hi; exact ⟨tx_held_by, chk_held_by, lies_of X G c 4 4 rfl rfl bnd_held_by⟩
  | 5, d, hi => by cases hi; exact ⟨tx_cover_of, chk_cover_of, lies_of X G c 5 5 rfl rfl bnd_cover_of⟩
  | 6, d, hi => by cases hi; exact ⟨tx_common_part, chk_common_part, lies_of X G c 6 6 rfl rfl bnd_common_part⟩
  | 7, d, hi => by cases hi; exact ⟨tx_fraction_of, chk_fraction_of, lies_of X G c 7 7 rfl rfl bnd_fraction_of⟩
  | 8, d, hi => by cases hi; exact ⟨tx_is_less, chk_is_less, lies_of X G c 8 8 rfl rfl bnd_is_less⟩
  | 9, d, hi => by cases hi; exact ⟨tx_middle, chk_middle, lies_of X G c 9 9 rfl rfl bnd_middle⟩
  | 10, d, hi => by cases hi; exact ⟨tx_least_of, chk_least_of, lies_of X G c 10 10 rfl rfl bnd_least_of⟩
  | 11, d, hi => by cases hi; exact ⟨tx_greatest_of, chk_greatest_of, lies_of X G c 11 11 rfl rfl bnd_greatest_of⟩
  | 12, d, hi => by cases hi; exact ⟨tx_ends_of, chk_ends_of, lies_of X G c 12 12 rfl rfl bnd_ends_of⟩
  | 13, d, hi => by cases hi; exact ⟨tx_middle_of, chk_middle_of, lies_of X G c 13 13 rfl rfl bnd_middle_of⟩
  | 14, d, hi => by cases hi; exact ⟨tx_round_values, chk_round_values, lies_of X G c 14 14 rfl rfl bnd_round_values⟩
  | 15, d, hi => by cases hi; exact ⟨tx_rounds_till, chk_rounds_till, lies_of X G c 15 15 rfl rfl bnd_rounds_till⟩
  | 16, d, hi => by cases hi; exact ⟨tx_complete, chk_complete, lies_of X G c 16 16 rfl rfl bnd_complete⟩
  | 17, d, hi => by cases hi; exact ⟨tx__law_box, chk__law_box, lies_of X G c 17 17 rfl rfl bnd__law_box⟩
  | 18, d, hi => by cases hi; exact ⟨tx__law_take, chk__law_take, lies_of X G c 18 18 rfl rfl bnd__law_take⟩
  | 19, d, hi => by cases hi; exact ⟨tx__law_pick, chk__law_pick, lies_of X G c 19 19 rfl rfl bnd__law_pick⟩
  | 20, d, hi => by cases hi; exact ⟨tx__law_same, chk__law_same, lies_of X G c 20 20 rfl rfl bnd__law_same⟩
  | 21, d, hi => by cases hi; exact ⟨tx__law_in, chk__law_in, lies_of X G c 21 21 rfl rfl bnd__law_in⟩
  | 22, d, hi => by cases hi; exact ⟨tx__law_may, chk__law_may, lies_of X G c 22 22 rfl rfl bnd__law_may⟩
  | 23, d, hi => by cases hi; exact ⟨tx__law_all_lying, chk__law_all_lying, lies_of X G c 23 23 rfl rfl bnd__law_all_lying⟩
  | 24, d, hi => by cases hi; exact ⟨tx__law_greatest, chk__law_greatest, lies_of X G c 24 24 rfl rfl bnd__law_greatest⟩
  | 25, d, hi => by cases hi; exact ⟨tx__law_drawn_lot, chk__law_drawn_lot, lies_of X G c 25 25 rfl rfl bnd__law_drawn_lot⟩
  | 26, d, hi => by cases hi; exact ⟨tx__law_any_liars, chk__law_any_liars, lies_of X G c 26 26 rfl rfl bnd__law_any_liars⟩
  | 27, d, hi => by cases hi; exact ⟨tx__law_hold, chk__law_hold, lies_of X G c 27 27 rfl rfl bnd__law_hold⟩
  | 28, d, hi => by cases hi; exact ⟨tx__law_any_lying, chk__law_any_lying, lies_of X G c 28 28 rfl rfl bnd__law_any_lying⟩
  | 29, d, hi => by cases hi; exact ⟨tx__law_low, chk__law_low, lies_of X G c 29 29 rfl rfl bnd__law_low⟩
  | 30, d, hi => by cases hi; exact ⟨tx__law_below, chk__law_below, lies_of X G c 30 30 rfl rfl bnd__law_below⟩
  | 31, d, hi => by cases hi; exact ⟨tx__law_most, chk__law_most, lies_of X G c 31 31 rfl rfl bnd__law_most⟩
  | 32, d, hi => by cases hi; exact ⟨tx__law_least, chk__law_least, lies_of X G c 32 32 rfl rfl bnd__law_least⟩
  | 33, d, hi => by cases hi; exact ⟨tx__law_ends, chk__law_ends, lies_of X G c 33 33 rfl rfl bnd__law_ends⟩
  | 34, d, hi => by cases hi; exact ⟨tx__law_amid, chk__law_amid, lies_of X G c 34 34 rfl rfl bnd__law_amid⟩
  | 35, d, hi => by cases hi; exact ⟨tx__law_apart, chk__law_apart, lies_of X G c 35 35 rfl rfl bnd__law_apart⟩
  | 36, d, hi => by cases hi; exact ⟨tx__law_fraction, chk__law_fraction, lies_of X G c 36 36 rfl rfl bnd__law_fraction⟩
  | 37, d, hi => by cases hi; exact ⟨tx__law_new, chk__law_new, lies_of X G c 37 37 rfl rfl bnd__law_new⟩
  | 38, d, hi => by cases hi; exact ⟨tx__law_halved, chk__law_halved, lies_of X G c 38 38 rfl rfl bnd__law_halved⟩
  | 39, d, hi => by cases hi; exact ⟨tx_law, chk_law, lies_of X G c 39 39 rfl rfl bnd_law⟩
  | i + 40, d, hi => by cases hi
theorem freeL (X : K.In h) (G : h.Ns mainGlobals mg) (c : He.SaysD faL fnL K) : ∀ x ∈ blts, mg x = none := by
  intro x hx
  have hx : x ∈ [("abs" : Str), ("all" : Str), ("any" : Str), ("bool" : Str), ("dict" : Str), ("enumerate" : Str), ("int" : Str), ("isinstance" : Str), ("len" : Str), ("list" : Str), ("max" : Str), ("min" : Str), ("range" : Str), ("set" : Str), ("sorted" : Str), ("str" : Str), ("sum" : Str), ("tuple" : Str), ("zip" : Str)] := hx
  simp only [List.mem_cons, List.not_mem_nil, or_false] at hx
  rcases hx with rfl | rfl | rfl | rfl | rfl | rfl | rfl | rfl | rfl | rfl | rfl | rfl | rfl | rfl | rfl | rfl | rfl | rfl | rfl
  · exact He.free_ok X G (c.fact 40 (f := .free "abs") rfl)
  · exact He.free_ok X G (c.fact 41 (f := .free "all") rfl)
  · exact He.free_ok X G (c.fact 42 (f := .free "any") rfl)
  · exact He.free_ok X G (c.fact 43 (f := .free "bool") rfl)
  · exact He.free_ok X G (c.fact 44 (f := .free "dict") rfl)
  · exact He.free_ok X G (c.fact 45 (f := .free "enumerate") rfl)
  · exact He.free_ok X G (c.fact 46 (f := .free "int") rfl)
  · exact He.free_ok X G (c.fact 47 (f := .free "isinstance") rfl)
  · exact He.free_ok X G (c.fact 48 (f := .free "len") rfl)
  · exact He.free_ok X G (c.fact 49 (f := .free "list") rfl)
  · exact He.free_ok X G (c.fact 50 (f := .free "max") rfl)
  · exact He.free_ok X G (c.fact 51 (f := .free "min") rfl)
  · exact He.free_ok X G (c.fact 52 (f := .free "range") rfl)
  · exact He.free_ok X G (c.fact 53 (f := .free "set") rfl)
  · exact He.free_ok X G (c.fact 54 (f := .free "sorted") rfl)
  · exact He.free_ok X G (c.fact 55 (f := .free "str") rfl)
  · exact He.free_ok X G (c.fact 56 (f := .free "sum") rfl)
  · exact He.free_ok X G (c.fact 57 (f := .free "tuple") rfl)
  · exact He.free_ok X G (c.fact 58 (f := .free "zip") rfl)
theorem factsL {f : Addr} (X : K.In h) (G : h.Ns mainGlobals mg) (hfa : mg ("law" : Str) = some (.ref f)) (c : He.SaysD faL fnL K) :
    ∃ fd : FuncData, (∀ (s : Shared) (v : Value), BindsTo s fd ⟨[v], []⟩ [("script", v)]) ∧ ∀ base : Heap, K.In base → base.Ns mainGlobals mg → FnOk P w K mg base CX0 7 f fd ["script"] (spD w K 1 (fns defs 7 39)) := by
  obtain ⟨fd, F⟩ := c.def_ 39 (d := defD d_law tx_law) rfl
  have e := hfa.symm.trans (He.glo_ok X G (c.fact 39 (f := .glo "law") rfl))
  cases e
  have b := FunD.bindsA (ps := ["script"]) F fun _ _ _ _ _ _ us hl => match us, hl with | [_], _ => rfl
  exact ⟨fd, fun s v => b s [v] rfl, fun base _ _ => law_fd (freeL X G c) (liesL X G c) 6 (d := d_law) (st := tx_law) rfl chk_law F⟩
end
end DL
open PySem PySem.W PySem.Calls PyProof.Rows
set_option maxRecDepth 100000 in
set_option maxHeartbeats 0 in
theorem PySem.Challenge.cw_nonelearns_k94_whole_ends_and_middles_holds : PySem.Challenge.rw_nonelearns_k94_whole_ends_and_middles.Holds := by
  w_on; o_law
  refine HandSHeadRun.head_any (r := OpenLaw.row PySem.Challenge.rw_nonelearns_k94_whole_ends_and_middles) (q := view (OpenLaw.row PySem.Challenge.rw_nonelearns_k94_whole_ends_and_middles).prog [45]) (H := DL.hkL) (ob := DL.obL) (M := 6000) (loose := DL.looseL) (d := HandSHeadRun.topDef (OpenLaw.row PySem.Challenge.rw_nonelearns_k94_whole_ends_and_middles).prog 45) (kwd := []) DL.ob_eqL
    (by kernel_rfl) (fun s => by kernel_rfl) DL.runL (by kernel_rfl) (by kernel_rfl) (by kernel_rfl) (by rfl) (by first | assumption | decide +kernel) (by decide +kernel) ⟨rfl, rfl, rfl, rfl, rfl, by decide +kernel⟩ ?hw ?hc
  case hw => w_witness2
  case hc =>
    refine L2.walk_ofE (l := PySem.Challenge.rw_nonelearns_k94_whole_ends_and_middles) (n := 63) (k := 7) (x := "script") (CX := L2.CX0) rfl (by decide) (by kernel_rfl) ⟨rfl, by decide, by decide⟩ ?F (fun _ _ _ _ z => z)
    intro w mg fa h Y G hmg0
    obtain ⟨K, KX, c⟩ := Y
    have hmg : mg ("law" : PySem.Str) = some (.ref fa) := by
      have e : (HandSHeadRun.topDef (OpenLaw.row PySem.Challenge.rw_nonelearns_k94_whole_ends_and_middles).prog 45).name = ("law" : PySem.Str) := by kernel_rfl
      rw [← e]
      exact hmg0
    obtain ⟨fd, hb, hF⟩ := DL.factsL (P := (PySem.Challenge.rw_nonelearns_k94_whole_ends_and_middles).prog) (w := w) KX G hmg c
    refine ⟨K, fd, _, KX, hb, fun H a ns hl _ hS => ?_, hF⟩
    obtain ⟨r, e1, e2⟩ := DL.law_outs (ns := ns) hl
    exact DL.law_sp hS e1

