import PyProof.Rows.All
import Wide.All
import OpenK.AllK
import Wide.FinOn
import HandS.ForMost
import HandS.ForExc
import HandS.Walk
import HandS.Sort
import HandS.SortInts
import HandS.ExcIs
import HandS.SetBool
import PyProof.ListMulRoad
import HandS.Wide
import HandS.TupAny
import HandS.TupMul
import HandS.IsInst
import HandS.Style
import HandS.Deep
import PyProof.ReprRoads
import KE.KExcIs
import KE.GoesEnum
import PyProof.FactsAll.tuple_2
import HandS.Star
import HandS.RevTup
import HandS.Dict
import HandS.Iter
import HandS.ExcInit
import HandS.ExcField
import HandS.Conv
import HandS.Zip
import HandS.Text
import HandS.Codes
import PyProof.StrBlock2
import KE.KDictZip
import KE.KItemsList
import PyProof.CollectWalk
import HandS.ListItems
import PyProof.ReprLen
import PyProof.P3Eq
import PySem.Challenge.RW_ringstints_k22_terms_eased
set_option Elab.async false
set_option linter.all false
set_option maxRecDepth 100000
set_option maxHeartbeats 4000000
namespace DL
/-- the package's errors that the text has -/
def exNames : List PySem.Str := ["StintsError", "NoRing", "NoTotal"]
end DL
-- DL0 (exNames: the package's errors that the law's text has) is printed by mkdla.py
/-! a layer of data over the hand layer: each construct's rule tells what it computes, as a plain function of data -/
namespace DL
open PySem PySem.Spec PyProof.Rows L2
abbrev D := PyData
/-- an exception: its class's name, its fields -/
structure Exn where
  cls : Str
  dat : List (Str × D)
inductive R (S α : Type) where
  | stuck
  | ok (a : α)
  | err (x : Exn) (s : S)
def R.bind {S α β : Type} : R S α → (α → R S β) → R S β
  | .stuck, _ => .stuck
  | .ok a, f => f a
  | .err x s, _ => .err x s
def ofO {S α : Type} : Option α → R S α
  | some a => .ok a
  | none => .stuck
/-- what is wanted of a run -/
def R.post {S α : Type} (p : α → Prop) (q : Exn → S → Prop) : R S α → Prop
  | .stuck => False
  | .ok a => p a
  | .err x s => q x s
theorem R.post_bind {S α β : Type} {p : β → Prop} {q : Exn → S → Prop} {r : R S α} {f : α → R S β} (h : (r.bind f).post p q) : r.post (fun a => (f a).post p q) q := by
  cases r with
  | stuck => exact h
  | ok a => exact h
  | err x s => exact h
theorem R.post.imp {S α : Type} {p p' : α → Prop} {q q' : Exn → S → Prop} {r : R S α} (h : r.post p q) (hp : ∀ a, p a → p' a) (hq : ∀ x s, q x s → q' x s) : r.post p' q' := by
  cases r with
  | stuck => exact h
  | ok a => exact hp a h
  | err x s => exact hq x s h
theorem ofO_post {S α : Type} {p : α → Prop} {q : Exn → S → Prop} {o : Option α} (h : (ofO o : R S α).post p q) : ∃ a, o = some a ∧ p a := by
  cases o with
  | none => exact h.elim
  | some a => exact ⟨a, rfl, h⟩
theorem R.post_ok {S α : Type} {p : α → Prop} {q : Exn → S → Prop} {a : α} (h : (R.ok a : R S α).post p q) : p a := h
/-- what the dict at a holds -/
def BDk (h : Heap) (a : Addr) (vs : List (Bool × V)) : Prop := vs.length ≤ sizeLine ∧ (a == sysModules) = false ∧
  ∃ (P : Program) (w : World) (us : List (Bool × Value)), KV vs us ∧ h.DictOf (PpSet.boolK P w) a us
def BD (a : Addr) (vs : List (Bool × V)) : HO := .ext fun h => BDk h a vs
/-- what a slot holds: data that nobody changes; a list that is the slot's own; a dict that is -/
inductive Sl where
  | im (d : D)
  | ow (ds : List D)
  | dk (kvs : List (Key × D))
  /-- .. whose keys are truth values -/
  | db (kvs : List (Bool × D))
def Sl.own : Sl → Bool
  | .im _ => false
  | _ => true
abbrev En := List (Option Sl)
variable {K : PySem.W.Frag}
/-- a list, a tuple that stays: O tells the addresses that may be changed -/
def LL (K : PySem.W.Frag) (O : Addr → Prop) (H : Hp) (a : Addr) (xs : List V) : Prop := SqL K H a xs ∧ (O a → ∀ H' : Hp, SqL K H' a xs)
def LT (K : PySem.W.Frag) (O : Addr → Prop) (H : Hp) (a : Addr) (xs : List V) : Prop := SqT K H a xs ∧ (O a → ∀ H' : Hp, SqT K H' a xs)
/-- the class that the main module's name x stands for -/
def caK (K : PySem.W.Frag) (x : Str) : Addr := match PySem.W.nsIn K mainGlobals x with
  | some (some (.ref a)) => a
  | _ => 0
/-- an exception that was caught, at a; its dict, if it has fields -/
def ExB (cls : Value) (d : Option Addr) (a : Addr) : HO := .ext fun h => ∃ (ob : Obj) (fs : Array Value), h.get? a = some ob ∧ (ob.cls = cls ∧ ob.dict = d) ∧ ob.data = .fields fs
def ExH (K : PySem.W.Frag) (O : Addr → Prop) (H : Hp) (a : Addr) (n : Str) : Prop := H a = some (ExB (.ref (caK K n)) none a) ∧ ¬ O a
/-- .. with one field -/
def ExP (K : PySem.W.Frag) (O : Addr → Prop) (H : Hp) (a dx : Addr) (n f : Str) (v : V) : Prop := (H a = some (ExB (.ref (caK K n)) (some dx) a) ∧ ¬ O a) ∧ (∃ fs, H dx = some (.xd fs) ∧ fs.lookup f = some v) ∧ ¬ O dx
def exSub (n m : Str) : Bool := n == m || m == "StintsError"
def tyFive : List String := ["int", "bool", "tuple", "list", "str"]
/-- what the written part tells of the class of an error -/
structure ExI (K : PySem.W.Frag) (n : Str) : Prop where
  c : ExcC K (caK K n)
  b : ∀ T : String, T ∈ tyFive → PySem.W.kitOne K (.ref (caK K n)) (.type T) = some false
  v : PySem.W.kitOne K (.ref (caK K n)) (.type "ValueError") = some true
  e : PySem.W.exmOne K (.ref (caK K n)) (.ref (caK K "StintsError")) = some true
  s : ∀ m : Str, m ∈ exNames → PySem.W.kitOne K (.ref (caK K n)) (.ref (caK K m)) = some (exSub n m)
mutual
inductive At (K : PySem.W.Frag) (O : Addr → Prop) (H : Hp) : V → D → Prop
  | non : At K O H .non .none
  | bl (b : Bool) : At K O H (.bl b) (.bool b)
  | int (i : Int) : At K O H (.int i) (.int i)
  | str (x : Str) : At K O H (.str x) (.str x)
  | lst {a : Addr} {xs : List V} {ds : List D} : LL K O H a xs → AtAll K O H xs ds → At K O H (.ref a) (.list ds)
  | tup {a : Addr} {xs : List V} {ds : List D} : LT K O H a xs → AtAll K O H xs ds → At K O H (.ref a) (.tuple ds)
  | exc {a : Addr} (n : Str) : ExH K O H a n → ExI K n → At K O H (.ref a) (.dict [(.str n, .none)])
  | excP {a dx : Addr} {v : V} {d : D} (n f : Str) : ExP K O H a dx n f v → ExI K n → At K O H v d → At K O H (.ref a) (.dict [(.str n, .none), (.str f, d)])
inductive AtAll (K : PySem.W.Frag) (O : Addr → Prop) (H : Hp) : List V → List D → Prop
  | nil : AtAll K O H [] []
  | cons {v : V} {vs : List V} {d : D} {ds : List D} : At K O H v d → AtAll K O H vs ds → AtAll K O H (v :: vs) (d :: ds)
end
/-- the heap moves: what may not be changed stays; what is newly to be changed is new -/
structure Mv (O O' : Addr → Prop) (H H' : Hp) : Prop where
  keep : ∀ a o, H a = some o → ¬ O a → H' a = some o
  own : ∀ a, O' a → O a ∨ H a = none
  dom : ∀ a, H' a = none → H a = none
section
variable {O O' O'' : Addr → Prop} {H H' H'' : Hp}
theorem Mv.refl : Mv O O H H := ⟨fun _ _ e _ => e, fun _ h => .inl h, fun _ h => h⟩
theorem Mv.trans (a : Mv O O' H H') (b : Mv O' O'' H' H'') : Mv O O'' H H'' :=
  ⟨fun p o e n => b.keep p o (a.keep p o e n) fun h => (a.own p h).elim n fun z => (by rw [e] at z; cases z),
   fun p h => (b.own p h).elim (a.own p) fun z => .inr (a.dom p z), fun p h => a.dom p (b.dom p h)⟩
theorem SqL.mv {a : Addr} {xs : List V} (k : ∀ o, H a = some o → H' a = some o) (h : SqL K H a xs) : SqL K H' a xs := by
  rcases h with (h | ⟨o, h⟩) | h
  · exact .inl (.inl (k _ h))
  · exact .inl (.inr ⟨o, k _ h⟩)
  · exact .inr h
theorem SqT.mv {a : Addr} {xs : List V} (k : ∀ o, H a = some o → H' a = some o) (h : SqT K H a xs) : SqT K H' a xs := by
  rcases h with (h | ⟨o, h⟩) | h
  · exact .inl (.inl (k _ h))
  · exact .inl (.inr ⟨o, k _ h⟩)
  · exact .inr h
theorem LL.mv {a : Addr} {xs : List V} (m : Mv O O' H H') (h : LL K O H a xs) : LL K O' H' a xs := by
  obtain ⟨s, k⟩ := h
  by_cases hO : O a
  · exact ⟨k hO H', fun _ => k hO⟩
  · refine ⟨SqL.mv (fun o e => m.keep a o e hO) s, fun h' => ?_⟩
    rcases m.own a h' with z | z
    · exact absurd z hO
    · rcases s with (s | ⟨o, s⟩) | s
      · rw [s] at z; cases z
      · rw [s] at z; cases z
      · exact fun _ => .inr s
theorem LT.mv {a : Addr} {xs : List V} (m : Mv O O' H H') (h : LT K O H a xs) : LT K O' H' a xs := by
  obtain ⟨s, k⟩ := h
  by_cases hO : O a
  · exact ⟨k hO H', fun _ => k hO⟩
  · refine ⟨SqT.mv (fun o e => m.keep a o e hO) s, fun h' => ?_⟩
    rcases m.own a h' with z | z
    · exact absurd z hO
    · rcases s with (s | ⟨o, s⟩) | s
      · rw [s] at z; cases z
      · rw [s] at z; cases z
      · exact fun _ => .inr s
theorem ExH.mv {a : Addr} {n : Str} (m : Mv O O' H H') (h : ExH K O H a n) : ExH K O' H' a n := by
  obtain ⟨e, no⟩ := h
  refine ⟨m.keep a _ e no, fun z => ?_⟩
  rcases m.own a z with z | z
  · exact no z
  · rw [z] at e; cases e
theorem ExP.mv {a dx : Addr} {n f : Str} {v : V} (m : Mv O O' H H') (h : ExP K O H a dx n f v) : ExP K O' H' a dx n f v := by
  obtain ⟨⟨e, no⟩, ⟨fs, e2, l⟩, no2⟩ := h
  have key : ∀ {b : Addr} {o : HO}, H b = some o → ¬ O b → ¬ O' b := fun {b o} e n z => by
    rcases m.own b z with z | z
    · exact n z
    · rw [z] at e; cases e
  exact ⟨⟨m.keep a _ e no, key e no⟩, ⟨fs, m.keep dx _ e2 no2, l⟩, key e2 no2⟩
mutual
theorem At.mv (m : Mv O O' H H') : ∀ {v : V} {d : D}, At K O H v d → At K O' H' v d
  | _, _, .non => .non
  | _, _, .bl b => .bl b
  | _, _, .int i => .int i
  | _, _, .str x => .str x
  | _, _, .lst l r => .lst (l.mv m) (AtAll.mv m r)
  | _, _, .tup l r => .tup (l.mv m) (AtAll.mv m r)
  | _, _, .exc n h i => .exc n (h.mv m) i
  | _, _, .excP n f h i a => .excP n f (h.mv m) i (At.mv m a)
theorem AtAll.mv (m : Mv O O' H H') : ∀ {vs : List V} {ds : List D}, AtAll K O H vs ds → AtAll K O' H' vs ds
  | _, _, .nil => .nil
  | _, _, .cons a r => .cons (At.mv m a) (AtAll.mv m r)
end
mutual
theorem At.dp : ∀ {v : V} {d : D}, At K O H v d → PyData.canLay0 d = true → Dp K H v d
  | _, _, .non, _ => .non
  | _, _, .bl b, _ => .bl b
  | _, _, .int i, _ => .int i
  | _, _, .str x, _ => .str x
  | _, _, .lst l r, h => .lst l.1 (AtAll.dp r (by simpa only [PyData.canLay0] using h))
  | _, _, .tup l r, h => .tup l.1 (AtAll.dp r (by simpa only [PyData.canLay0] using h))
  | _, _, .exc n _ _, h => by simp [PyData.canLay0] at h
  | _, _, .excP n f _ _ _, h => by simp [PyData.canLay0] at h
theorem AtAll.dp : ∀ {vs : List V} {ds : List D}, AtAll K O H vs ds → PyData.canLayAll0 ds = true → DpAll K H vs ds
  | _, _, .nil, _ => .nil
  | _, _, .cons a r, h => by
    simp only [PyData.canLayAll0, Bool.and_eq_true] at h
    exact .cons (At.dp a h.1) (AtAll.dp r h.2)
end
theorem AtAll.length : ∀ {vs : List V} {ds : List D}, AtAll K O H vs ds → vs.length = ds.length
  | _, _, .nil => rfl
  | _, _, .cons _ r => congrArg (· + 1) (AtAll.length r)
theorem AtAll.get : ∀ {vs : List V} {ds : List D} {i : Nat} {d : D}, AtAll K O H vs ds → ds[i]? = some d → ∃ v, vs[i]? = some v ∧ At K O H v d
  | _, _, _, _, .nil, e => by simp at e
  | _, _, 0, _, .cons a _, e => by simp at e; subst e; exact ⟨_, rfl, a⟩
  | _, _, i + 1, d, .cons _ r, e => by
    obtain ⟨v, h1, h2⟩ := AtAll.get (i := i) (d := d) r (by simpa using e)
    exact ⟨v, by simpa using h1, h2⟩
theorem AtAll.getV : ∀ {vs : List V} {ds : List D} {i : Nat} {v : V}, AtAll K O H vs ds → vs[i]? = some v → ∃ d, ds[i]? = some d ∧ At K O H v d
  | _, _, _, _, .nil, e => by simp at e
  | _, _, 0, _, .cons a _, e => by simp at e; subst e; exact ⟨_, rfl, a⟩
  | _, _, i + 1, d, .cons _ r, e => by
    obtain ⟨v, h1, h2⟩ := AtAll.getV (i := i) (v := d) r (by simpa using e)
    exact ⟨v, by simpa using h1, h2⟩
theorem AtAll.append : ∀ {vs us : List V} {ds es : List D}, AtAll K O H vs ds → AtAll K O H us es → AtAll K O H (vs ++ us) (ds ++ es)
  | _, _, _, _, .nil, q => q
  | _, _, _, _, .cons a r, q => .cons a (AtAll.append r q)
theorem AtAll.take : ∀ {vs : List V} {ds : List D} (n : Nat), AtAll K O H vs ds → AtAll K O H (vs.take n) (ds.take n)
  | _, _, 0, _ => by simp only [List.take_zero]; exact .nil
  | _, _, _ + 1, .nil => .nil
  | _, _, n + 1, .cons a r => .cons a (AtAll.take n r)
theorem AtAll.drop : ∀ {vs : List V} {ds : List D} (n : Nat), AtAll K O H vs ds → AtAll K O H (vs.drop n) (ds.drop n)
  | _, _, 0, r => by simpa only [List.drop_zero] using r
  | _, _, _ + 1, .nil => .nil
  | _, _, n + 1, .cons _ r => AtAll.drop n r
theorem AtAll.set {v : V} {d : D} (h : At K O H v d) : ∀ {vs : List V} {ds : List D} (n : Nat), AtAll K O H vs ds → AtAll K O H (vs.set n v) (ds.set n d)
  | _, _, _, .nil => .nil
  | _, _, 0, .cons _ r => .cons h r
  | _, _, n + 1, .cons a r => .cons a (AtAll.set h n r)
theorem AtAll.ints : ∀ {vs : List V} {ns : List Int}, AtAll K O H vs (ns.map PyData.int) → vs = ns.map V.int
  | _, [], .nil => rfl
  | _, _ :: _, .cons (.int _) r => congrArg (_ :: ·) (AtAll.ints r)
theorem AtAll.of_ints : ∀ (ns : List Int), AtAll K O H (ns.map V.int) (ns.map PyData.int)
  | [] => .nil
  | i :: r => .cons (.int i) (AtAll.of_ints r)
end
end DL
namespace DL
open PySem PySem.Spec PyProof.Rows L2
variable {K : PySem.W.Frag}
abbrev Sg := List (Option V)
def SlotR (K : PySem.W.Frag) (O : Addr → Prop) (H : Hp) (v : V) : Sl → Prop
  | .im d => At K O H v d
  | .ow ds => ∃ a xs, v = .ref a ∧ O a ∧ H a = some (.lst xs) ∧ AtAll K O H xs ds
  | .dk kvs => ∃ a vs, v = .ref a ∧ O a ∧ H a = some (.dK vs) ∧ vs.map Prod.fst = kvs.map Prod.fst ∧ AtAll K O H (vs.map Prod.snd) (kvs.map Prod.snd)
  | .db kvs => ∃ a vs, v = .ref a ∧ O a ∧ H a = some (BD a vs) ∧ vs.map Prod.fst = kvs.map Prod.fst ∧ AtAll K O H (vs.map Prod.snd) (kvs.map Prod.snd)
def ownedAt (σ : Sg) (env : En) (i : Nat) (a : Addr) : Prop := ∃ s, env[i]? = some (some s) ∧ s.own = true ∧ σ[i]? = some (some (.ref a))
/-- a def's run: what others may change; the heap at the entry; the parameters that it may change -/
structure Bs where
  O0 : Addr → Prop
  H0 : Hp
  ps : List (Nat × Addr)
  /-- what stays as it is, though it is nobody's data -/
  kp : Addr → Option HO
  /-- names whose value stays -/
  fx : List (Nat × V) := []
def Bs.O (B : Bs) (σ : Sg) (env : En) (a : Addr) : Prop := B.O0 a ∨ ∃ i, ownedAt σ env i a
structure SR (K : PySem.W.Frag) (np : List Nat) (B : Bs) (σ : Sg) (H : Hp) (env : En) : Prop where
  len : σ.length = env.length
  slot : ∀ (i : Nat) (s : Sl), env[i]? = some (some s) → ∃ v : V, σ[i]? = some (some v) ∧ SlotR K (B.O σ env) H v s
  dist : ∀ i j a, ownedAt σ env i a → ownedAt σ env j a → i = j
  keep : ∀ a o, B.H0 a = some o → (∀ p ∈ B.ps, p.2 ≠ a) → H a = some o
  dom : ∀ a, H a = none → B.H0 a = none
  new : ∀ i a, ownedAt σ env i a → (i, a) ∈ B.ps ∨ B.H0 a = none
  o0 : ∀ a, B.O0 a → H a ≠ none ∧ ∀ p ∈ B.ps, p.2 ≠ a
  kept : ∀ a o, B.kp a = some o → H a = some o
  kpo : ∀ i a, ownedAt σ env i a → B.kp a = none
  own0 : ∀ i a, ownedAt σ env i a → ¬ B.O0 a
  par : ∀ p ∈ B.ps, ownedAt σ env p.1 p.2 ∧ B.H0 p.2 ≠ none ∧ p.1 ∈ np
  fix : ∀ p ∈ B.fx, σ[p.1]? = some (some p.2) ∧ p.1 ∈ np
abbrev Ex (H H' : Hp) : Prop := ∀ a o, H a = some o → H' a = some o
theorem Ex.dom {H H' : Hp} (e : Ex H H') (a : Addr) (h : H' a = none) : H a = none := by
  cases q : H a with
  | none => rfl
  | some o => rw [e a o q] at h; cases h
theorem Ex.new {H : Hp} {p : Addr} {o : HO} (h : H p = none) : Ex H (upd H p o) := fun a u e => by
  rw [upd_ne (ne_of_none e h)]
  exact e
theorem Mv.ex {O : Addr → Prop} {H H' : Hp} (e : Ex H H') : Mv O O H H' := ⟨fun a o h _ => e a o h, fun _ h => .inl h, Ex.dom e⟩
def plus (O : Addr → Prop) (a : Addr) : Addr → Prop := fun b => O b ∨ b = a
theorem Mv.new {O : Addr → Prop} {H : Hp} {p : Addr} {o : HO} (h : H p = none) : Mv O (plus O p) H (upd H p o) :=
  ⟨fun a u e _ => Ex.new h a u e, fun a z => z.elim .inl fun e => .inr (e ▸ h), Ex.dom (Ex.new h)⟩
theorem Mv.less {O O' : Addr → Prop} {H : Hp} (h : ∀ a, O' a → O a) : Mv O O' H H := ⟨fun _ _ e _ => e, fun a z => .inl (h a z), fun _ e => e⟩
section
variable {O O' : Addr → Prop} {H H' : Hp} {v : V} {s : Sl}
/-- an own list stays where its object and O stay -/
theorem SlotR.mv (m : Mv O O' H H') (hO : ∀ a, v = .ref a → s.own = true → O' a) (hk : ∀ a o, v = .ref a → s.own = true → H a = some o → H' a = some o) (h : SlotR K O H v s) : SlotR K O' H' v s := by
  cases s with
  | im d => exact At.mv m h
  | ow ds =>
    obtain ⟨a, xs, e, _, q, r⟩ := h
    exact ⟨a, xs, e, hO a e rfl, hk a _ e rfl q, AtAll.mv m r⟩
  | dk kvs =>
    obtain ⟨a, vs, e, _, q, f, r⟩ := h
    exact ⟨a, vs, e, hO a e rfl, hk a _ e rfl q, f, AtAll.mv m r⟩
  | db kvs =>
    obtain ⟨a, vs, e, _, q, f, r⟩ := h
    exact ⟨a, vs, e, hO a e rfl, hk a _ e rfl q, f, AtAll.mv m r⟩
theorem SlotR.ref (h : SlotR K O H v s) (ho : s.own = true) : ∃ a o, v = .ref a ∧ O a ∧ H a = some o := by
  cases s with
  | im d => cases ho
  | ow ds => obtain ⟨a, xs, e, q, r, _⟩ := h; exact ⟨a, _, e, q, r⟩
  | dk ds => obtain ⟨a, xs, e, q, r, _⟩ := h; exact ⟨a, _, e, q, r⟩
  | db ds => obtain ⟨a, xs, e, q, r, _⟩ := h; exact ⟨a, _, e, q, r⟩
end
section
variable {np : List Nat} {B : Bs} {σ : Sg} {H H' : Hp} {env env' : En}
theorem SR.odom (I : SR K np B σ H env) (a : Addr) (h : B.O σ env a) : ∃ o, H a = some o := by
  rcases h with h | ⟨i, s, h1, h2, h3⟩
  · cases q : H a with
    | some o => exact ⟨o, rfl⟩
    | none => exact absurd q (I.o0 a h).1
  · obtain ⟨v, e, q⟩ := I.slot i s h1
    obtain ⟨b, o, eb, _, hb⟩ := q.ref h2
    rw [h3] at e
    cases e
    cases eb
    exact ⟨o, hb⟩
theorem SR.nO (I : SR K np B σ H env) {p : Addr} (h : H p = none) : ¬ B.O σ env p := fun z => by
  obtain ⟨o, e⟩ := I.odom p z
  rw [h] at e; cases e
theorem SR.fixSet (I : SR K np B σ H env) {i : Nat} {x : Option V} (hi : i ∉ np) : ∀ p ∈ B.fx, (σ.set i x)[p.1]? = some (some p.2) ∧ p.1 ∈ np := fun p hp => by
  obtain ⟨h1, h2⟩ := I.fix p hp
  exact ⟨by rw [List.getElem?_set_ne (fun z => hi (by rw [z]; exact h2))]; exact h1, h2⟩
theorem SR.ex (I : SR K np B σ H env) (e : Ex H H') : SR K np B σ H' env where
  len := I.len
  slot := fun i s h => by
    obtain ⟨v, e1, q⟩ := I.slot i s h
    exact ⟨v, e1, q.mv (Mv.ex e) (fun a ea ho => .inr ⟨i, s, h, ho, ea ▸ e1⟩) fun a o _ _ z => e a o z⟩
  dist := I.dist
  keep := fun a o h n => e a o (I.keep a o h n)
  dom := fun a h => I.dom a (Ex.dom e a h)
  new := I.new
  o0 := fun a h => ⟨fun z => (I.o0 a h).1 (Ex.dom e a z), (I.o0 a h).2⟩
  kept := fun a o h => e a o (I.kept a o h)
  kpo := I.kpo
  own0 := I.own0
  par := I.par
  fix := I.fix
/-- data in a slot -/
theorem SR.im (I : SR K np B σ H env) {i : Nat} {d : D} (h : env[i]? = some (some (.im d))) : ∃ v : V, σ[i]? = some (some v) ∧ At K (B.O σ env) H v d := I.slot i _ h
/-- an own list -/
theorem SR.ow (I : SR K np B σ H env) {i : Nat} {ds : List D} (h : env[i]? = some (some (.ow ds))) :
    ∃ a xs, σ[i]? = some (some (.ref a)) ∧ B.O σ env a ∧ H a = some (.lst xs) ∧ AtAll K (B.O σ env) H xs ds := by
  obtain ⟨v, e, a, xs, rfl, hO, q, r⟩ := I.slot i _ h
  exact ⟨a, xs, e, hO, q, r⟩
theorem SR.dk (I : SR K np B σ H env) {i : Nat} {kvs : List (Key × D)} (h : env[i]? = some (some (.dk kvs))) :
    ∃ a vs, σ[i]? = some (some (.ref a)) ∧ B.O σ env a ∧ H a = some (.dK vs) ∧ vs.map Prod.fst = kvs.map Prod.fst ∧ AtAll K (B.O σ env) H (vs.map Prod.snd) (kvs.map Prod.snd) := by
  obtain ⟨v, e, a, xs, rfl, hO, q, r⟩ := I.slot i _ h
  exact ⟨a, xs, e, hO, q, r⟩
theorem getElem?_set_some {α : Type} {l : List α} {i j : Nat} {x y : α} (h : (l.set i x)[j]? = some y) : (j = i ∧ y = x) ∨ (j ≠ i ∧ l[j]? = some y) := by
  by_cases e : i = j
  · subst e
    by_cases hl : i < l.length
    · rw [List.getElem?_set_self hl] at h
      cases h
      exact .inl ⟨rfl, rfl⟩
    · rw [List.getElem?_eq_none (by simpa using hl)] at h; cases h
  · rw [List.getElem?_set_ne e] at h
    exact .inr ⟨fun z => e z.symm, h⟩
/-- data is stored -/
theorem SR.setIm (I : SR K np B σ H env) {i : Nat} {v : V} {d : D} (hi : i ∉ np) (h : At K (B.O σ env) H v d) :
    SR K np B (σ.set i (some v)) H (env.set i (some (.im d))) ∧ Mv (B.O σ env) (B.O (σ.set i (some v)) (env.set i (some (.im d)))) H H := by
  have ow : ∀ j a, ownedAt (σ.set i (some v)) (env.set i (some (.im d))) j a → j ≠ i ∧ ownedAt σ env j a := fun j a ⟨s, h1, h2, h3⟩ => by
    rcases getElem?_set_some h1 with ⟨e, e2⟩ | ⟨e, h1⟩
    · cases e2; cases h2
    · rcases getElem?_set_some h3 with ⟨e3, _⟩ | ⟨_, h3⟩
      · exact absurd e3 e
      · exact ⟨e, s, h1, h2, h3⟩
  have wo : ∀ j a, j ≠ i → ownedAt σ env j a → ownedAt (σ.set i (some v)) (env.set i (some (.im d))) j a := fun j a n ⟨s, h1, h2, h3⟩ =>
    ⟨s, by rw [List.getElem?_set_ne (Ne.symm n)]; exact h1, h2, by rw [List.getElem?_set_ne (Ne.symm n)]; exact h3⟩
  have m : Mv (B.O σ env) (B.O (σ.set i (some v)) (env.set i (some (.im d)))) H H := Mv.less fun a z => z.elim .inl fun ⟨j, q⟩ => .inr ⟨j, (ow j a q).2⟩
  refine ⟨⟨by simpa using I.len, fun j s hs => ?_, fun j k a h1 h2 => I.dist j k a (ow j a h1).2 (ow k a h2).2, I.keep, I.dom, fun j a h => I.new j a (ow j a h).2, I.o0, I.kept, fun j a h => I.kpo j a (ow j a h).2, fun j a h => I.own0 j a (ow j a h).2, fun p hp => ?_, I.fixSet hi⟩, m⟩
  · rcases getElem?_set_some hs with ⟨e, e2⟩ | ⟨e, h1⟩
    · cases e2
      subst e
      have hl : j < σ.length := by
        rw [I.len]
        have := (List.getElem?_eq_some_iff.mp hs).1
        simpa using this
      exact ⟨v, by rw [List.getElem?_set_self hl], At.mv m h⟩
    · obtain ⟨u, e1, q⟩ := I.slot j s h1
      refine ⟨u, by rw [List.getElem?_set_ne (Ne.symm e)]; exact e1, q.mv m (fun a ea ho => .inr ⟨j, wo j a e ⟨s, h1, ho, ea ▸ e1⟩⟩) fun _ _ _ _ z => z⟩
  · obtain ⟨h1, h2, h3⟩ := I.par p hp
    exact ⟨wo _ _ (fun z => hi (z ▸ h3)) h1, h2, h3⟩
/-- all slots, with one address more that may be changed -/
def Clean (K : PySem.W.Frag) (O : Addr → Prop) (σ : Sg) (H : Hp) (env : En) : Prop := ∀ (i : Nat) (s : Sl), env[i]? = some (some s) → ∃ v : V, σ[i]? = some (some v) ∧ SlotR K O H v s
/-- a new list -/
def FRes (K : PySem.W.Frag) (O : Addr → Prop) (σ : Sg) (env : En) (H H' : Hp) (v : V) (d : D) : Prop :=
  ∀ ds, d = .list ds → ∃ a xs, v = .ref a ∧ H a = none ∧ ¬ O a ∧ H' a = some (.lst xs) ∧ AtAll K (plus O a) H' xs ds ∧ Clean K (plus O a) σ H' env
/-- a new list is stored as the slot's own -/
theorem SR.setOw (I : SR K np B σ H' env) {Hs : Hp} {i : Nat} {v : V} {ds : List D} (hi : i ∉ np) (hs : ∀ a, Hs a = none → B.H0 a = none) (hk : ∀ a, Hs a = none → B.kp a = none) (h : FRes K (B.O σ env) σ env Hs H' v (.list ds)) :
    SR K np B (σ.set i (some v)) H' (env.set i (some (.ow ds))) ∧ ∃ a, v = .ref a ∧ Hs a = none ∧ (∀ b, B.O (σ.set i (some v)) (env.set i (some (.ow ds))) b → B.O σ env b ∨ b = a) := by
  obtain ⟨a, xs, rfl, na, nO, ha, hx, hc⟩ := h ds rfl
  have ow : ∀ j b, ownedAt (σ.set i (some (.ref a))) (env.set i (some (.ow ds))) j b → (j = i ∧ b = a) ∨ (j ≠ i ∧ ownedAt σ env j b) := fun j b ⟨s, h1, h2, h3⟩ => by
    rcases getElem?_set_some h1 with ⟨e, e2⟩ | ⟨e, h1⟩
    · rcases getElem?_set_some h3 with ⟨_, e3⟩ | ⟨e3, _⟩
      · cases e3; exact .inl ⟨e, rfl⟩
      · exact absurd e e3
    · rcases getElem?_set_some h3 with ⟨e3, _⟩ | ⟨_, h3⟩
      · exact absurd e3 e
      · exact .inr ⟨e, s, h1, h2, h3⟩
  have wo : ∀ j b, j ≠ i → ownedAt σ env j b → ownedAt (σ.set i (some (.ref a))) (env.set i (some (.ow ds))) j b := fun j b n ⟨s, h1, h2, h3⟩ =>
    ⟨s, by rw [List.getElem?_set_ne (Ne.symm n)]; exact h1, h2, by rw [List.getElem?_set_ne (Ne.symm n)]; exact h3⟩
  have sub : ∀ b, B.O (σ.set i (some (.ref a))) (env.set i (some (.ow ds))) b → plus (B.O σ env) a b := fun b z => by
    rcases z with z | ⟨j, q⟩
    · exact .inl (.inl z)
    · rcases ow j b q with ⟨_, e⟩ | ⟨_, q⟩
      · exact .inr e
      · exact .inl (.inr ⟨j, q⟩)
  have m : Mv (plus (B.O σ env) a) (B.O (σ.set i (some (.ref a))) (env.set i (some (.ow ds)))) H' H' := Mv.less sub
  refine ⟨⟨by simpa using I.len, fun j s h1 => ?_, fun j k b h1 h2 => ?_, I.keep, I.dom, fun j b h => ?_, I.o0, I.kept, fun j b h => ?_, fun j b h => ?_, fun p hp => ?_, I.fixSet hi⟩, a, rfl, na, sub⟩
  · rcases getElem?_set_some h1 with ⟨e, e2⟩ | ⟨e, h2⟩
    · cases e2
      subst e
      have hl : j < env.length := by
        have := (List.getElem?_eq_some_iff.mp h1).1
        simpa using this
      have hl' : j < σ.length := by rw [I.len]; exact hl
      exact ⟨.ref a, by rw [List.getElem?_set_self hl'], a, xs, rfl, .inr ⟨j, .ow ds, by rw [List.getElem?_set_self hl], rfl, by rw [List.getElem?_set_self hl']⟩, ha, AtAll.mv m hx⟩
    · obtain ⟨u, e1, q⟩ := hc j s h2
      exact ⟨u, by rw [List.getElem?_set_ne (Ne.symm e)]; exact e1, q.mv m (fun b eb ho => .inr ⟨j, wo j b e ⟨s, h2, ho, eb ▸ e1⟩⟩) fun _ _ _ _ z => z⟩
  · have na' : ∀ l, ¬ ownedAt σ env l a := fun l q => nO (.inr ⟨l, q⟩)
    rcases ow j b h1 with ⟨e1, e2⟩ | ⟨e1, q1⟩
    · rcases ow k b h2 with ⟨e3, e4⟩ | ⟨e3, q2⟩
      · rw [e1, e3]
      · rw [e2] at q2
        exact absurd q2 (na' k)
    · rcases ow k b h2 with ⟨e3, e4⟩ | ⟨e3, q2⟩
      · rw [e4] at q1
        exact absurd q1 (na' j)
      · exact I.dist j k b q1 q2
  · rcases ow j b h with ⟨_, e⟩ | ⟨_, q⟩
    · exact .inr (e ▸ hs a na)
    · exact I.new j b q
  · rcases ow j b h with ⟨_, e⟩ | ⟨_, q⟩
    · exact e ▸ hk a na
    · exact I.kpo j b q
  · rcases ow j b h with ⟨_, e⟩ | ⟨_, q⟩
    · exact fun w => nO (.inl (e ▸ w))
    · exact I.own0 j b q
  · obtain ⟨h1, h2, h3⟩ := I.par p hp
    exact ⟨wo _ _ (fun z => hi (z ▸ h3)) h1, h2, h3⟩
/-- an own list changes in place -/
theorem SR.write (I : SR K np B σ H env) {i : Nat} {a : Addr} {s s' : Sl} {o : HO} (hs : env[i]? = some (some s)) (ho : s.own = true) (ho' : s'.own = true) (ha : σ[i]? = some (some (.ref a)))
    (h : SlotR K (B.O σ env) (upd H a o) (.ref a) s') :
    SR K np B σ (upd H a o) (env.set i (some s')) ∧ Mv (B.O σ env) (B.O σ (env.set i (some s'))) H (upd H a o) := by
  have oi : ownedAt σ env i a := ⟨s, hs, ho, ha⟩
  have ia : ∃ u, H a = some u := I.odom a (.inr ⟨i, oi⟩)
  have ow : ∀ j b, ownedAt σ (env.set i (some s')) j b ↔ ownedAt σ env j b := fun j b => by
    constructor
    · rintro ⟨t, h1, h2, h3⟩
      rcases getElem?_set_some h1 with ⟨e, _⟩ | ⟨_, h1⟩
      · subst e; exact ⟨s, hs, ho, h3⟩
      · exact ⟨t, h1, h2, h3⟩
    · rintro ⟨t, h1, h2, h3⟩
      by_cases e : i = j
      · subst e
        exact ⟨s', by rw [List.getElem?_set_self (List.getElem?_eq_some_iff.mp hs).1], ho', h3⟩
      · exact ⟨t, by rw [List.getElem?_set_ne e]; exact h1, h2, h3⟩
  have eO : ∀ b, B.O σ (env.set i (some s')) b ↔ B.O σ env b := fun b => ⟨fun z => z.elim .inl fun ⟨j, q⟩ => .inr ⟨j, (ow j b).1 q⟩, fun z => z.elim .inl fun ⟨j, q⟩ => .inr ⟨j, (ow j b).2 q⟩⟩
  have m : Mv (B.O σ env) (B.O σ (env.set i (some s'))) H (upd H a o) := ⟨fun b u e n => by
      rw [upd_ne (show b ≠ a from fun z => n (by rw [z]; exact .inr ⟨i, oi⟩))]; exact e, fun b z => .inl ((eO b).1 z), fun b e => by
      by_cases z : b = a
      · rw [z, upd_same] at e; cases e
      · rw [upd_ne z] at e; exact e⟩
  refine ⟨⟨by simpa using I.len, fun j t h1 => ?_, fun j k b h1 h2 => I.dist j k b ((ow j b).1 h1) ((ow k b).1 h2), fun b u e n => ?_, fun b e => I.dom b (m.dom b e), fun j b q => I.new j b ((ow j b).1 q), fun b h => ⟨fun z => (I.o0 b h).1 (m.dom b z), (I.o0 b h).2⟩, fun b u e => ?_, fun j b q => I.kpo j b ((ow j b).1 q), fun j b q => I.own0 j b ((ow j b).1 q), fun p hp => let ⟨h1, h2, h3⟩ := I.par p hp; ⟨(ow _ _).2 h1, h2, h3⟩, I.fix⟩, m⟩
  · rcases getElem?_set_some h1 with ⟨e, e2⟩ | ⟨e, h2⟩
    · cases e2
      subst e
      refine ⟨.ref a, ha, SlotR.mv (Mv.less fun b z => (eO b).1 z) (fun b eb _ => ?_) (fun _ _ _ _ z => z) h⟩
      cases eb
      exact (eO _).2 (.inr ⟨j, oi⟩)
    · obtain ⟨u, e1, q⟩ := I.slot j t h2
      refine ⟨u, e1, q.mv m (fun b eb hb => (eO b).2 (.inr ⟨j, t, h2, hb, eb ▸ e1⟩)) fun b w eb hb z => ?_⟩
      have n : b ≠ a := fun z => e (I.dist j i a ⟨t, h2, hb, by rw [e1, eb, z]⟩ oi)
      rw [upd_ne n]; exact z
  · have n2 : b ≠ a := fun z => by
      rcases I.new i a oi with q | q
      · exact n _ q z.symm
      · rw [z] at e; rw [q] at e; cases e
    rw [upd_ne n2]
    exact I.keep b u e n
  · have n2 : b ≠ a := fun z => by
      have q := I.kpo i a oi
      rw [z] at e; rw [q] at e; cases e
    rw [upd_ne n2]
    exact I.kept b u e
end
end DL
namespace DL
open PySem PySem.Spec PyProof.Rows L2
variable {K : PySem.W.Frag}
def ExnAt (K : PySem.W.Frag) (O : Addr → Prop) (H : Hp) (ca : Str → Addr) (x : Exn) (cls : Value) (dp : Option Addr) : Prop :=
  cls = .ref (ca x.cls) ∧ match x.dat with
    | [] => dp = none
    | f :: fs => ∃ (d : Addr) (vs : List (Str × V)), dp = some d ∧ (H d = some (.xd vs) ∧ ¬ O d) ∧ vs.map Prod.fst = (f :: fs).map Prod.fst ∧ AtAll K O H (vs.map Prod.snd) ((f :: fs).map Prod.snd)
/-- what a def's text stands in: the classes' addresses, the slots of what it may change, what is wanted of an exception -/
structure Z where
  ca : Str → Addr
  np : List Nat
  W : WX
  /-- what is told of a value that is handed back: the heap at the start, the value, the heap, the data -/
  rt : Hp → (Addr → Prop) → V → Hp → D → Prop := fun _ _ _ _ _ => True
def XP (K : PySem.W.Frag) (z : Z) (B : Bs) (σ : Sg) (H : Hp) (env : En) (x : Exn) (env' : En) : Prop :=
  ∀ (cls : Value) (dp : Option Addr) (H' : Hp), SR K z.np B σ H' env' → Mv (B.O σ env) (B.O σ env') H H' → ExnAt K (B.O σ env') H' z.ca x cls dp → z.W cls dp σ H'
theorem XP.step {z : Z} {B : Bs} {σ : Sg} {H H1 : Hp} {env env1 : En} {x : Exn} {e : En} (m : Mv (B.O σ env) (B.O σ env1) H H1) (h : XP K z B σ H env x e) : XP K z B σ H1 env1 x e :=
  fun cls dp H' I m' => h cls dp H' I (m.trans m')
/-- an expression's value -/
def EP1 (K : PySem.W.Frag) (z : Z) (fr : Bool) (B : Bs) (σ : Sg) (H : Hp) (env : En) (Q : VK) (p : D × En) : Prop :=
  ∀ (v : V) (H' : Hp), SR K z.np B σ H' p.2 → Mv (B.O σ env) (B.O σ p.2) H H' → At K (B.O σ p.2) H' v p.1 → (fr = true → FRes K (B.O σ p.2) σ p.2 H H' v p.1) → Q v H'
abbrev EF := En → R En (D × En)
def tE (K : PySem.W.Frag) (z : Z) (fr : Bool) (f : EF) : TE := fun σ H Q => ∃ (B : Bs) (env : En), SR K z.np B σ H env ∧ (f env).post (EP1 K z fr B σ H env Q) (XP K z B σ H env)
def tT (K : PySem.W.Frag) (z : Z) (f : En → R En (Bool × En)) : TT := fun σ H Q => ∃ (B : Bs) (env : En), SR K z.np B σ H env ∧
  (f env).post (fun p => ∀ H', SR K z.np B σ H' p.2 → Mv (B.O σ env) (B.O σ p.2) H H' → Q p.1 H') (XP K z B σ H env)
def tA (K : PySem.W.Frag) (z : Z) (f : En → R En (List D × En)) : TA := fun σ H Q => ∃ (B : Bs) (env : En), SR K z.np B σ H env ∧
  (f env).post (fun p => ∀ (vs : List V) H', SR K z.np B σ H' p.2 → Mv (B.O σ env) (B.O σ p.2) H H' → AtAll K (B.O σ p.2) H' vs p.1 → Q vs H') (XP K z B σ H env)
abbrev DE (z : Z) (X : Cx) (fr : Bool) (e : Expr) (f : EF) : Prop := PE X e (tE X.K z fr f)
abbrev DT (z : Z) (X : Cx) (e : Expr) (f : En → R En (Bool × En)) : Prop := PT X e (tT X.K z f)
abbrev DW (z : Z) (X : Cx) (e : Expr) (f : En → R En (Bool × En)) : Prop := PW X e (tT X.K z f)
abbrev DA (z : Z) (X : Cx) (es : List Expr) (f : En → R En (List D × En)) : Prop := PA X es (tA X.K z f)
section
variable {X : Cx} {e : Expr} {es : List Expr} {z : Z}
theorem pe_weak {t t' : TE} (h : PE X e t) (i : ∀ σ H Q, t' σ H Q → t σ H Q) : PE X e t' := ⟨fun pins s σ H Q I q => h.run pins s σ H Q I (i σ H Q q)⟩
theorem pt_weak {t t' : TT} (h : PT X e t) (i : ∀ σ H Q, t' σ H Q → t σ H Q) : PT X e t' := ⟨fun pins s σ H Q I q => h.run pins s σ H Q I (i σ H Q q)⟩
theorem pw_weak {t t' : TT} (h : PW X e t) (i : ∀ σ H Q, t' σ H Q → t σ H Q) : PW X e t' := ⟨fun whole pins s σ H Q I q => h.run whole pins s σ H Q I (i σ H Q q)⟩
theorem pa_weak {t t' : TA} (h : PA X es t) (i : ∀ σ H Q, t' σ H Q → t σ H Q) : PA X es t' := ⟨fun pos pins s σ H Q I q => h.run pos pins s σ H Q I (i σ H Q q)⟩
/-! ### names, constants -/
def fVar (i : Nat) : EF := fun env => match env[i]? with
  | some (some (.im d)) => .ok (d, env)
  | _ => .stuck
def fC (d : D) : EF := fun env => .ok (d, env)
theorem de_imp {fr : Bool} {f : EF} {t : TE} (h : PE X e t) (i : ∀ (B : Bs) (env : En) (σ : Sg) (H : Hp) (Q : VK), SR X.K z.np B σ H env → (f env).post (EP1 X.K z fr B σ H env Q) (XP X.K z B σ H env) → t σ H Q) : DE z X fr e f :=
  pe_weak h fun σ H Q ⟨B, env, I, p⟩ => i B env σ H Q I p
theorem dt_imp {f : En → R En (Bool × En)} {t : TT} (h : PT X e t) (i : ∀ (B : Bs) (env : En) (σ : Sg) (H : Hp) (Q : Bool → Hp → Prop), SR X.K z.np B σ H env →
    (f env).post (fun p => ∀ H', SR X.K z.np B σ H' p.2 → Mv (B.O σ env) (B.O σ p.2) H H' → Q p.1 H') (XP X.K z B σ H env) → t σ H Q) : DT z X e f :=
  pt_weak h fun σ H Q ⟨B, env, I, p⟩ => i B env σ H Q I p
theorem dw_imp {f : En → R En (Bool × En)} {t : TT} (h : PW X e t) (i : ∀ (B : Bs) (env : En) (σ : Sg) (H : Hp) (Q : Bool → Hp → Prop), SR X.K z.np B σ H env →
    (f env).post (fun p => ∀ H', SR X.K z.np B σ H' p.2 → Mv (B.O σ env) (B.O σ p.2) H H' → Q p.1 H') (XP X.K z B σ H env) → t σ H Q) : DW z X e f :=
  pw_weak h fun σ H Q ⟨B, env, I, p⟩ => i B env σ H Q I p
theorem da_imp {f : En → R En (List D × En)} {t : TA} (h : PA X es t) (i : ∀ (B : Bs) (env : En) (σ : Sg) (H : Hp) (Q : List V → Hp → Prop), SR X.K z.np B σ H env →
    (f env).post (fun p => ∀ (vs : List V) H', SR X.K z.np B σ H' p.2 → Mv (B.O σ env) (B.O σ p.2) H H' → AtAll X.K (B.O σ p.2) H' vs p.1 → Q vs H') (XP X.K z B σ H env) → t σ H Q) : DA z X es f :=
  pa_weak h fun σ H Q ⟨B, env, I, p⟩ => i B env σ H Q I p
theorem de_sh {fr : Bool} {f : EF} (h : DE z X fr e f) : DE z X false e f :=
  de_imp h fun B env σ H Q I p => ⟨B, env, I, p.imp (fun _ q v H' I' m a _ => q v H' I' m a fun z => nomatch z) fun _ _ q => q⟩
theorem FRes.flat {O : Addr → Prop} {σ : Sg} {env : En} {H H' : Hp} {v : V} {d : D} (h : ∀ ds, d ≠ .list ds) : FRes K O σ env H H' v d := fun ds e => absurd e (h ds)
theorem de_var {i : Nat} (h : PE X e (tVar i)) : DE z X false e (fVar i) := de_imp h fun B env σ H Q I p => by
  unfold fVar at p
  split at p
  · rename_i d e
    obtain ⟨v, e1, a⟩ := I.im e
    exact ⟨v, e1, p v H I .refl a fun z => nomatch z⟩
  · exact p.elim
theorem de_c {v : V} {d : D} (h : PE X e (tC v)) (ha : ∀ O H, At X.K O H v d) (hd : ∀ ds, d ≠ .list ds) : DE z X true e (fC d) := de_imp h fun B env σ H Q I p => p v H I .refl (ha _ _) fun _ => .flat hd
theorem de_int {i j pos} : DE z X true (.Constant (.int i) j pos) (fC (.int i)) := de_c pe_int (fun _ _ => .int i) (fun _ q => nomatch q)
theorem de_bl {b j pos} : DE z X true (.Constant (.bool b) j pos) (fC (.bool b)) := de_c pe_bl (fun _ _ => .bl b) (fun _ q => nomatch q)
theorem de_non {j pos} : DE z X true (.Constant .none j pos) (fC .none) := de_c pe_non (fun _ _ => .non) (fun _ q => nomatch q)
theorem de_str {x j pos} : DE z X true (.Constant (.str x) j pos) (fC (.str x)) := de_c pe_str (fun _ _ => .str x) (fun _ q => nomatch q)
/-! ### operators -/
/-- what an operator, a call gives -/
def Res (K : PySem.W.Frag) (fr : Bool) (O : Addr → Prop) (H H' : Hp) (v : V) (d : D) : Prop :=
  Ex H H' ∧ At K O H' v d ∧ (fr = true → ∀ ds, d = .list ds → ∃ (a : Addr) (xs : List V), v = .ref a ∧ H a = none ∧ H' a = some (.lst xs) ∧ AtAll K (plus O a) H' xs ds)
theorem Res.flat {fr : Bool} {O : Addr → Prop} {H : Hp} {v : V} {d : D} (a : At K O H v d) (h : ∀ ds, d ≠ .list ds) : Res K fr O H H v d := ⟨fun _ _ q => q, a, fun _ ds e => absurd e (h ds)⟩
theorem Res.sh {O : Addr → Prop} {H : Hp} {v : V} {d : D} (a : At K O H v d) : Res K false O H H v d := ⟨fun _ _ q => q, a, fun z => nomatch z⟩
def Od (O : Addr → Prop) (H : Hp) : Prop := ∀ a, H a = none → ¬ O a
/-- a new list, a new tuple -/
theorem Res.lst {fr : Bool} {O : Addr → Prop} {H : Hp} {p : Addr} {xs : List V} {ds : List D} (o : Od O H) (hp : H p = none) (a : AtAll K O H xs ds) : Res K fr O H (upd H p (.lst xs)) (.ref p) (.list ds) :=
  ⟨Ex.new hp, .lst ⟨.inl (.inl upd_same), fun z => absurd z (o p hp)⟩ (AtAll.mv (Mv.ex (Ex.new hp)) a), fun _ ds' e => by
    cases e
    exact ⟨p, xs, rfl, hp, upd_same, AtAll.mv (Mv.new hp) a⟩⟩
theorem Res.tup {fr : Bool} {O : Addr → Prop} {H : Hp} {p : Addr} {xs : List V} {ds : List D} (o : Od O H) (hp : H p = none) (a : AtAll K O H xs ds) : Res K fr O H (upd H p (.tup xs)) (.ref p) (.tuple ds) :=
  ⟨Ex.new hp, .tup ⟨.inl (.inl upd_same), fun z => absurd z (o p hp)⟩ (AtAll.mv (Mv.ex (Ex.new hp)) a), fun _ ds' e => nomatch e⟩
theorem SR.od {np : List Nat} {B : Bs} {σ : Sg} {H : Hp} {env : En} (I : SR K np B σ H env) : Od (B.O σ env) H := fun _ h => I.nO h
theorem Clean.of {np : List Nat} {B : Bs} {σ : Sg} {H H' : Hp} {env : En} {p : Addr} (I : SR K np B σ H env) (e : Ex H H') (hp : H p = none) : Clean K (plus (B.O σ env) p) σ H' env := fun i s h => by
  obtain ⟨v, e1, q⟩ := I.slot i s h
  refine ⟨v, e1, q.mv ⟨fun a o x _ => e a o x, fun a z => z.elim .inl fun w => .inr (w ▸ hp), Ex.dom e⟩ (fun a ea ho => .inl (.inr ⟨i, s, h, ho, ea ▸ e1⟩)) fun a o _ _ z => e a o z⟩
theorem FRes.of {fr : Bool} {np : List Nat} {B : Bs} {σ : Sg} {H H2 H' : Hp} {env : En} {v : V} {d : D} (I : SR K np B σ H2 env) (hd : ∀ a, H2 a = none → H a = none) (r : Res K fr (B.O σ env) H2 H' v d) (hf : fr = true) : FRes K (B.O σ env) σ env H H' v d := fun ds e => by
  obtain ⟨a, xs, e1, na, ha, q⟩ := r.2.2 hf ds e
  exact ⟨a, xs, e1, hd a na, I.nO na, ha, q, Clean.of I r.1 na⟩
/-- the end of a rule that makes a value -/
theorem EP1.give {fr : Bool} {B : Bs} {σ : Sg} {H H2 H' : Hp} {env env2 : En} {Q : VK} {v : V} {d : D} (h : EP1 K z fr B σ H env Q (d, env2)) (I : SR K z.np B σ H2 env2) (m : Mv (B.O σ env) (B.O σ env2) H H2) (r : Res K fr (B.O σ env2) H2 H' v d) : Q v H' :=
  h v H' (I.ex r.1) (m.trans (Mv.ex r.1)) r.2.1 (FRes.of I m.dom r)
def OpD (X : Cx) (f : Value → Value → Sem Value) (fr : Bool) (h : D → D → Option D) : Prop :=
  ∃ r : R2, OpR X f r ∧ ∀ (O : Addr → Prop) (H : Hp) (x y : V) (d e w : D) (Q : VK), Od O H → At X.K O H x d → At X.K O H y e → h d e = some w → (∀ v H', Res X.K fr O H H' v w → Q v H') → r x y H Q
def fOp (h : D → D → Option D) (f g : EF) : EF := fun env => (f env).bind fun p => (g p.2).bind fun q => (ofO (h p.1 q.1)).bind fun r => .ok (r, q.2)
theorem e_op {r : R2} {fa fb fr : Bool} {f g : EF} {h : D → D → Option D} {a b : Expr} (sem : ∀ (O : Addr → Prop) (H : Hp) (x y : V) (d e w : D) (Q : VK), Od O H → At X.K O H x d → At X.K O H y e → h d e = some w → (∀ v H', Res X.K fr O H H' v w → Q v H') → r x y H Q)
    {B : Bs} {env : En} {σ : Sg} {H : Hp} {Q : VK} (I : SR X.K z.np B σ H env) (hp : (fOp h f g env).post (EP1 X.K z fr B σ H env Q) (XP X.K z B σ H env)) : tOp r (tE X.K z fa f) (tE X.K z fb g) σ H Q := by
  refine ⟨B, env, I, (R.post_bind hp).imp (fun p hp v H1 I1 m1 a1 _ => ?_) fun _ _ q => q⟩
  refine ⟨B, p.2, I1, (R.post_bind hp).imp (fun q hq u H2 I2 m2 a2 _ => ?_) fun x e hx => hx.step m1⟩
  obtain ⟨w, ew, hw⟩ := ofO_post (R.post_bind hq)
  exact sem _ H2 v u p.1 q.1 w Q I2.od (At.mv m2 a1) a2 ew fun v' H' rr => EP1.give hw I2 (m1.trans m2) rr
theorem de_op {op : Operator} {fa fb fr : Bool} {f g : EF} {h : D → D → Option D} {a b : Expr} {pos : Pos} (ho : OpD X (binaryOp op) fr h) (ha : DE z X fa a f) (hb : DE z X fb b g) : DE z X fr (.BinOp a op b pos) (fOp h f g) := by
  obtain ⟨r, hr, sem⟩ := ho
  exact de_imp (pe_op hr ha hb) fun B env σ H Q I hp => e_op (a := a) (b := b) sem I hp
theorem de_cmp {op : CmpOp} {fa fb fr : Bool} {f g : EF} {h : D → D → Option D} {a b : Expr} {pos : Pos} (ho : OpD X (compareOp op) fr h) (ha : DE z X fa a f) (hb : DE z X fb b g) (hm : behindInMarks op b = false) : DE z X fr (.Compare a [op] [b] pos) (fOp h f g) := by
  obtain ⟨r, hr, sem⟩ := ho
  exact de_imp (pe_cmpR hr ha hb hm) fun B env σ H Q I hp => e_op (a := a) (b := b) sem I hp
def IxD (X : Cx) (fr : Bool) (h : D → D → Option D) : Prop :=
  ∃ r : R2, IxR X r ∧ ∀ (O : Addr → Prop) (H : Hp) (x y : V) (d e w : D) (Q : VK), Od O H → At X.K O H x d → At X.K O H y e → h d e = some w → (∀ v H', Res X.K fr O H H' v w → Q v H') → r x y H Q
theorem de_ix {fa fb fr : Bool} {f g : EF} {h : D → D → Option D} {a b : Expr} {pos : Pos} (ho : IxD X fr h) (ha : DE z X fa a f) (hb : DE z X fb b g) (hs : PlainIx b) : DE z X fr (.Subscript a b pos) (fOp h f g) := by
  obtain ⟨r, hr, sem⟩ := ho
  exact de_imp (pe_ix hr ha hb hs) fun B env σ H Q I hp => e_op (a := a) (b := b) sem I hp
def UnD (X : Cx) (f : Value → Sem Value) (fr : Bool) (h : D → Option D) : Prop :=
  ∃ r : V → Hp → VK → Prop, UnR X f r ∧ ∀ (O : Addr → Prop) (H : Hp) (x : V) (d w : D) (Q : VK), Od O H → At X.K O H x d → h d = some w → (∀ v H', Res X.K fr O H H' v w → Q v H') → r x H Q
def fUn (h : D → Option D) (f : EF) : EF := fun env => (f env).bind fun p => (ofO (h p.1)).bind fun r => .ok (r, p.2)
theorem de_un {op : UnaryOp} {fa fr : Bool} {f : EF} {h : D → Option D} {a : Expr} {pos : Pos} (ho : UnD X (unaryOp op) fr h) (ha : DE z X fa a f) : DE z X fr (.UnaryOp op a pos) (fUn h f) := by
  obtain ⟨r, hr, sem⟩ := ho
  refine de_imp (pe_un hr ha) fun B env σ H Q I hp => ⟨B, env, I, (R.post_bind hp).imp (fun p hp v H1 I1 m1 a1 _ => ?_) fun _ _ q => q⟩
  obtain ⟨w, ew, hw⟩ := ofO_post (R.post_bind hp)
  exact sem _ H1 v p.1 w Q I1.od a1 ew fun v' H' rr => EP1.give hw I1 m1 rr
/-! ### truth -/
def fBool (f : EF) : En → R En (Bool × En) := fun env => (f env).bind fun p => match p.1 with
  | .bool b => .ok (b, p.2)
  | _ => .stuck
theorem dt_val {fr : Bool} {f : EF} (h : DE z X fr e f) (he : ∀ whole, isTrue e X.env whole = (do let v ← whole; standAt e.pos; holding [v] (truthy v)) := by intro _; rfl) : DT z X e (fBool f) := by
  refine dt_imp (pt_val h he) fun B env σ H Q I hp => ⟨B, env, I, (R.post_bind hp).imp (fun p hp v H1 I1 m1 a1 _ => ?_) fun _ _ q => q⟩
  obtain ⟨d, e'⟩ := p
  cases d with
  | bool b =>
    cases a1
    exact ⟨b, rfl, hp H1 I1 m1⟩
  | _ => exact hp.elim
theorem dt_cmp {op : CmpOp} {fa fb fr : Bool} {f g : EF} {h : D → D → Option D} {a b : Expr} {pos : Pos} (ho : OpD X (compareOp op) fr h) (ha : DE z X fa a f) (hb : DE z X fb b g) (hm : behindInMarks op b = false) : DT z X (.Compare a [op] [b] pos) (fBool (fOp h f g)) := by
  obtain ⟨r, hr, sem⟩ := ho
  refine dt_imp (pt_cmpR hr ha hb hm) fun B env σ H Q I hp => e_op (a := a) (b := b) sem I ((R.post_bind hp).imp (fun p hp v H1 I1 m1 a1 _ => ?_) fun _ _ q => q)
  obtain ⟨d, e'⟩ := p
  cases d with
  | bool b =>
    cases a1
    exact ⟨b, rfl, hp H1 I1 m1⟩
  | _ => exact hp.elim
def fNotT (f : En → R En (Bool × En)) : En → R En (Bool × En) := fun env => (f env).bind fun p => .ok (!p.1, p.2)
def fAndT (f g : En → R En (Bool × En)) : En → R En (Bool × En) := fun env => (f env).bind fun p => if p.1 = true then g p.2 else .ok (false, p.2)
def fOrT (f g : En → R En (Bool × En)) : En → R En (Bool × En) := fun env => (f env).bind fun p => if p.1 = true then .ok (true, p.2) else g p.2
section
variable {a b : Expr} {rest : List Expr} {pos : Pos} {f g : En → R En (Bool × En)}
theorem dt_not (ha : DT z X a f) : DT z X (.UnaryOp .Not a pos) (fNotT f) :=
  dt_imp (pt_not ha) fun B env σ H Q I hp => ⟨B, env, I, (R.post_bind hp).imp (fun p hp H1 I1 m1 => hp H1 I1 m1) fun _ _ q => q⟩
theorem dw_and1 (ha : DT z X a f) : DW z X (.BoolOp .And [a] pos) f := pw_and1 ha
theorem dw_or1 (ha : DT z X a f) : DW z X (.BoolOp .Or [a] pos) f := pw_or1 ha
theorem dw_and (ha : DT z X a f) (hb : DW z X (.BoolOp .And (b :: rest) pos) g) : DW z X (.BoolOp .And (a :: b :: rest) pos) (fAndT f g) := by
  refine dw_imp (pw_and ha hb) fun B env σ H Q I hp => ⟨B, env, I, (R.post_bind hp).imp (fun p hp H1 I1 m1 => ?_) fun _ _ q => q⟩
  obtain ⟨c, e⟩ := p
  cases c with
  | true => exact ⟨B, e, I1, R.post.imp hp (fun q hq H2 I2 m2 => hq H2 I2 (m1.trans m2)) fun _ _ q => q.step m1⟩
  | false => exact hp H1 I1 m1
theorem dw_or (ha : DT z X a f) (hb : DW z X (.BoolOp .Or (b :: rest) pos) g) : DW z X (.BoolOp .Or (a :: b :: rest) pos) (fOrT f g) := by
  refine dw_imp (pw_or ha hb) fun B env σ H Q I hp => ⟨B, env, I, (R.post_bind hp).imp (fun p hp H1 I1 m1 => ?_) fun _ _ q => q⟩
  obtain ⟨c, e⟩ := p
  cases c with
  | true => exact hp H1 I1 m1
  | false => exact ⟨B, e, I1, R.post.imp hp (fun q hq H2 I2 m2 => hq H2 I2 (m1.trans m2)) fun _ _ q => q.step m1⟩
end
/-! .. as values -/
def fAndV (f g : EF) : EF := fun env => (f env).bind fun p => match p.1 with
  | .bool true => g p.2
  | .bool false => .ok (.bool false, p.2)
  | _ => .stuck
def fOrV (f g : EF) : EF := fun env => (f env).bind fun p => match p.1 with
  | .bool false => g p.2
  | .bool true => .ok (.bool true, p.2)
  | _ => .stuck
def notD : D → Option D
  | .bool b => some (.bool (!b))
  | _ => none
theorem EP1.step {fr : Bool} {B : Bs} {σ : Sg} {H H1 : Hp} {env env1 : En} {Q : VK} {p : D × En} (m : Mv (B.O σ env) (B.O σ env1) H H1) (h : EP1 K z fr B σ H env Q p) : EP1 K z fr B σ H1 env1 Q p :=
  fun v H' I m' a fr' => h v H' I (m.trans m') a fun z ds e => let ⟨b, xs, e1, na, r⟩ := fr' z ds e; ⟨b, xs, e1, m.dom b na, r⟩
section
variable {a b : Expr} {rest : List Expr} {pos : Pos} {f g : EF} {fa fb : Bool}
theorem de_one {op} (h : DE z X fa a f) : DE z X fa (.BoolOp op [a] pos) f := pe_one h
theorem de_and (ha : DE z X fa a f) (hb : DE z X fb (.BoolOp .And (b :: rest) pos) g) : DE z X fb (.BoolOp .And (a :: b :: rest) pos) (fAndV f g) := by
  refine de_imp (pe_and ha hb) fun B env σ H Q I hp => ⟨B, env, I, (R.post_bind hp).imp (fun p hp v H1 I1 m1 a1 _ => ?_) fun _ _ q => q⟩
  obtain ⟨d, e⟩ := p
  cases d with
  | bool c =>
    cases a1
    refine ⟨c, rfl, ?_⟩
    cases c with
    | true => exact ⟨B, e, I1, R.post.imp hp (fun q hq => hq.step m1) fun _ _ q => q.step m1⟩
    | false => exact hp (.bl false) H1 I1 m1 (.bl false) fun _ => .flat fun _ q => nomatch q
  | _ => exact hp.elim
theorem de_or (ha : DE z X fa a f) (hb : DE z X fb (.BoolOp .Or (b :: rest) pos) g) : DE z X fb (.BoolOp .Or (a :: b :: rest) pos) (fOrV f g) := by
  refine de_imp (pe_or ha hb) fun B env σ H Q I hp => ⟨B, env, I, (R.post_bind hp).imp (fun p hp v H1 I1 m1 a1 _ => ?_) fun _ _ q => q⟩
  obtain ⟨d, e⟩ := p
  cases d with
  | bool c =>
    cases a1
    refine ⟨c, rfl, ?_⟩
    cases c with
    | true => exact hp (.bl true) H1 I1 m1 (.bl true) fun _ => .flat fun _ q => nomatch q
    | false => exact ⟨B, e, I1, R.post.imp hp (fun q hq => hq.step m1) fun _ _ q => q.step m1⟩
  | _ => exact hp.elim
theorem de_not (ha : DE z X fa a f) : DE z X true (.UnaryOp .Not a pos) (fUn notD f) := by
  refine de_imp (pe_not ha) fun B env σ H Q I hp => ⟨B, env, I, (R.post_bind hp).imp (fun p hp v H1 I1 m1 a1 _ => ?_) fun _ _ q => q⟩
  obtain ⟨d, e⟩ := p
  obtain ⟨w, ew, hw⟩ := ofO_post (R.post_bind hp)
  cases d with
  | bool c =>
    cases a1
    cases ew
    exact ⟨c, rfl, EP1.give hw I1 m1 (.flat (.bl _) fun _ q => nomatch q)⟩
  | _ => cases ew
def fIf (t : En → R En (Bool × En)) (f g : EF) : EF := fun env => (t env).bind fun p => if p.1 = true then f p.2 else g p.2
theorem de_if {c : Expr} {t : En → R En (Bool × En)} (hc : DT z X c t) (ha : DE z X fa a f) (hb : DE z X fb b g) : DE z X (fa && fb) (.IfExp c a b pos) (fIf t f g) := by
  refine de_imp (pe_ifExp hc ha hb) fun B env σ H Q I hp => ⟨B, env, I, (R.post_bind hp).imp (fun p hp H1 I1 m1 => ?_) fun _ _ q => q⟩
  obtain ⟨k, e⟩ := p
  cases k with
  | true => exact ⟨B, e, I1, R.post.imp hp (fun q hq v H' I' m' a' f' => hq v H' I' (m1.trans m') a' fun w => let w' : fa = true := by (revert w; cases fa <;> simp)
      fun ds e => let ⟨b, xs, e1, na, r⟩ := f' w' ds e; ⟨b, xs, e1, m1.dom b na, r⟩) fun _ _ q => q.step m1⟩
  | false => exact ⟨B, e, I1, R.post.imp hp (fun q hq v H' I' m' a' f' => hq v H' I' (m1.trans m') a' fun w => let w' : fb = true := by (revert w; cases fa <;> simp)
      fun ds e => let ⟨b, xs, e1, na, r⟩ := f' w' ds e; ⟨b, xs, e1, m1.dom b na, r⟩) fun _ _ q => q.step m1⟩
end
/-! ### chains of two comparisons -/
def fChain (h h' : D → D → Option D) (f g k : EF) : EF := fun env => (f env).bind fun p => (g p.2).bind fun q => (ofO (h p.1 q.1)).bind fun r => match r with
  | .bool true => (k q.2).bind fun s => (ofO (h' q.1 s.1)).bind fun w => .ok (w, s.2)
  | .bool false => .ok (.bool false, q.2)
  | _ => .stuck
theorem de_chain {op op' : CmpOp} {fa fb fc : Bool} {f g k : EF} {h h' : D → D → Option D} {a b c : Expr} {pos : Pos} (ho : OpD X (compareOp op) true h) (ho' : OpD X (compareOp op') true h') (ha : DE z X fa a f) (hb : DE z X fb b g) (hc : DE z X fc c k)
    (hm : lastMarks [op, op'] [b, c] = false := by with_unfolding_all rfl) : DE z X true (.Compare a [op, op'] [b, c] pos) (fChain h h' f g k) := by
  obtain ⟨r, hr, sem⟩ := ho
  obtain ⟨r', hr', sem'⟩ := ho'
  refine de_imp (pe_chain hr hr' ha hb hc hm) fun B env σ H Q I hp => ?_
  refine ⟨B, env, I, (R.post_bind hp).imp (fun p hp v H1 I1 m1 a1 _ => ?_) fun _ _ q => q⟩
  refine ⟨B, p.2, I1, (R.post_bind hp).imp (fun q hq u H2 I2 m2 a2 _ => ?_) fun x e hx => hx.step m1⟩
  obtain ⟨w, ew, hw⟩ := ofO_post (R.post_bind hq)
  refine sem _ H2 v u p.1 q.1 w _ I2.od (At.mv m2 a1) a2 ew fun v' H3 rr => ?_
  have I3 := I2.ex rr.1
  have m3 : Mv (B.O σ env) (B.O σ q.2) H H3 := (m1.trans m2).trans (Mv.ex rr.1)
  cases w with
  | bool t =>
    have av := rr.2.1
    cases av
    refine ⟨t, rfl, ?_⟩
    cases t with
    | false => exact hw (.bl false) H3 I3 m3 (.bl false) fun _ => .flat fun _ q => nomatch q
    | true =>
      refine ⟨B, q.2, I3, (R.post_bind hw).imp (fun s hs u' H4 I4 m4 a4 _ => ?_) fun x e hx => hx.step m3⟩
      obtain ⟨w', ew', hw'⟩ := ofO_post (R.post_bind hs)
      exact sem' _ H4 u u' q.1 s.1 w' Q I4.od (At.mv m4 (At.mv (Mv.ex rr.1) a2)) a4 ew' fun v' H' rr' => EP1.give hw' I4 (m3.trans m4) rr'
  | _ => exact hw.elim
/-! ### lists of expressions, displays -/
theorem da_nil : DA z X [] (fun env => .ok ([], env)) := da_imp pa_nil fun B env σ H Q I hp => hp [] H I .refl .nil
def fCons (f : EF) (g : En → R En (List D × En)) : En → R En (List D × En) := fun env => (f env).bind fun p => (g p.2).bind fun q => .ok (p.1 :: q.1, q.2)
theorem da_cons {fr : Bool} {f : EF} {g : En → R En (List D × En)} (ha : DE z X fr e f) (hr : DA z X es g) (hs : starEach (e :: es) X.env = (false, eval e X.env) :: starEach es X.env := by rfl) : DA z X (e :: es) (fCons f g) :=
  da_imp (pa_cons ha hr hs) fun B env σ H Q I hp => ⟨B, env, I, (R.post_bind hp).imp (fun p hp v H1 I1 m1 a1 _ =>
    ⟨B, p.2, I1, (R.post_bind hp).imp (fun q hq vs H2 I2 m2 a2 => hq (v :: vs) H2 I2 (m1.trans m2) (.cons (At.mv m2 a1) a2)) fun _ _ q => q.step m1⟩) fun _ _ q => q⟩
def fTup (g : En → R En (List D × En)) : EF := fun env => (g env).bind fun p => if p.1.length ≤ sizeLine then .ok (.tuple p.1, p.2) else .stuck
def fLst (g : En → R En (List D × En)) : EF := fun env => (g env).bind fun p => if p.1.length ≤ sizeLine then .ok (.list p.1, p.2) else .stuck
theorem de_tup {x1 : _} {pos : Pos} {g : En → R En (List D × En)} (h : DA z X es g) : DE z X true (.Tuple es x1 pos) (fTup g) :=
  de_imp (pe_tup h) fun B env σ H Q I hp => ⟨B, env, I, (R.post_bind hp).imp (fun p hp vs H1 I1 m1 a1 => by
    by_cases hl : p.1.length ≤ sizeLine
    · simp only [if_pos hl] at hp
      exact ⟨a1.length ▸ hl, fun q hq => EP1.give hp I1 m1 (Res.tup I1.od hq a1)⟩
    · simp only [if_neg hl] at hp
      exact hp.elim) fun _ _ q => q⟩
theorem de_lst {pos : Pos} {g : En → R En (List D × En)} (h : DA z X es g) : DE z X true (.List es pos) (fLst g) :=
  de_imp (pe_lst h) fun B env σ H Q I hp => ⟨B, env, I, (R.post_bind hp).imp (fun p hp vs H1 I1 m1 a1 => by
    by_cases hl : p.1.length ≤ sizeLine
    · simp only [if_pos hl] at hp
      exact ⟨a1.length ▸ hl, fun q hq => EP1.give hp I1 m1 (Res.lst I1.od hq a1)⟩
    · simp only [if_neg hl] at hp
      exact hp.elim) fun _ _ q => q⟩
/-! ### calls of built-ins -/
def CallD (X : Cx) (f : Value) (fr : Bool) (h : List D → Option D) : Prop :=
  ∃ r : List V → Hp → VK → Prop, CallR X f r ∧ ∀ (O : Addr → Prop) (H : Hp) (vs : List V) (ds : List D) (w : D) (Q : VK), Od O H → AtAll X.K O H vs ds → h ds = some w → (∀ v H', Res X.K fr O H H' v w → Q v H') → r vs H Q
def fCall (h : List D → Option D) (g : En → R En (List D × En)) : EF := fun env => (g env).bind fun p => (ofO (h p.1)).bind fun r => .ok (r, p.2)
theorem de_callB {x : Str} {p pos : Pos} {id : String} {fr : Bool} {h : List D → Option D} {g : En → R En (List D × En)} (hc : CallD X (.builtin id) fr h) (hg : Gl X x) (hm : X.mg x = none) (hv : bootBuiltins x = some (.builtin id)) (ha : DA z X (e :: es) g)
    (hn : x ≠ "__name__" := by decide) (hdb : (x == ("__debug__" : Str)) = false := by decide) (he : starEach (e :: es) X.env = (false, eval e X.env) :: starEach es X.env := by rfl) (hpl : (backTo pos (starEach es X.env)).any (·.1) = false := by rfl) :
    DE z X fr (.Call (.Name x p) (e :: es) [] pos) (fCall h g) := by
  obtain ⟨r, hr, sem⟩ := hc
  refine de_imp (pe_callB hr hg hm hv ha hn hdb he hpl) fun B env σ H Q I hp => ⟨B, env, I, (R.post_bind hp).imp (fun p hp vs H1 I1 m1 a1 => ?_) fun _ _ q => q⟩
  obtain ⟨w, ew, hw⟩ := ofO_post (R.post_bind hp)
  exact sem _ H1 vs p.1 w Q I1.od a1 ew fun v H' rr => EP1.give hw I1 m1 rr
theorem de_callTy {x : Str} {p pos : Pos} {T : String} {fr : Bool} {h : List D → Option D} {g : En → R En (List D × En)} (hc : CallD X (.type T) fr h) (hg : Gl X x) (hm : X.mg x = none) (hv : bootBuiltins x = some (.type T)) (ha : DA z X (e :: es) g)
    (hn : x ≠ "__name__" := by decide) (hdb : (x == ("__debug__" : Str)) = false := by decide) (he : starEach (e :: es) X.env = (false, eval e X.env) :: starEach es X.env := by rfl) (hpl : (backTo pos (starEach es X.env)).any (·.1) = false := by rfl) :
    DE z X fr (.Call (.Name x p) (e :: es) [] pos) (fCall h g) := by
  obtain ⟨r, hr, sem⟩ := hc
  refine de_imp (pe_callTy hr hg hm hv ha hn hdb he hpl) fun B env σ H Q I hp => ⟨B, env, I, (R.post_bind hp).imp (fun p hp vs H1 I1 m1 a1 => ?_) fun _ _ q => q⟩
  obtain ⟨w, ew, hw⟩ := ofO_post (R.post_bind hp)
  exact sem _ H1 vs p.1 w Q I1.od a1 ew fun v H' rr => EP1.give hw I1 m1 rr
end
end DL
namespace DL
open PySem PySem.Spec PyProof.Rows L2
variable {K : PySem.W.Frag}
section
variable {X : Cx} {O : Addr → Prop} {H : Hp} {v : V}
theorem At.list_inv {ds : List D} (h : At K O H v (.list ds)) : ∃ a xs, v = .ref a ∧ LL K O H a xs ∧ AtAll K O H xs ds := by cases h with | lst l r => exact ⟨_, _, rfl, l, r⟩
theorem At.tuple_inv {ds : List D} (h : At K O H v (.tuple ds)) : ∃ a xs, v = .ref a ∧ LT K O H a xs ∧ AtAll K O H xs ds := by cases h with | tup l r => exact ⟨_, _, rfl, l, r⟩
/-! ### + -/
def addD : D → D → Option D
  | .int i, .int j => some (.int (i + j))
  | .str x, .str y => if x.length + y.length ≤ sizeLine then some (.str (x ++ y)) else none
  | .list xs, .list ys => if xs.length + ys.length ≤ sizeLine then some (.list (xs ++ ys)) else none
  | .tuple xs, .tuple ys => if xs.length + ys.length ≤ sizeLine then some (.tuple (xs ++ ys)) else none
  | _, _ => none
def rCatL (K : PySem.W.Frag) : R2 := fun x y H Q => ∃ l b xs zs, x = .ref l ∧ y = .ref b ∧ SqL K H l xs ∧ SqL K H b zs ∧ xs.length + zs.length ≤ sizeLine ∧ ∀ p, H p = none → Q (.ref p) (upd H p (.lst (xs ++ zs)))
theorem op_catL : OpR X (binaryOp .Add) (rCatL X.K) := by
  intro pins s σ H x y v u Q I rx ry h
  obtain ⟨l, b, xs, zs, rfl, rfl, hH, hB, hz, q⟩ := h
  cases rx
  cases ry
  obtain ⟨its, r, ⟨⟨cls, dd, data, sl⟩, n, ho, hc, hdd, hd⟩, z⟩ := I.list hH
  obtain ⟨its2, r2, ⟨⟨cls2, dd2, data2, sl2⟩, n2, ho2, hc2, hdd2, hd2⟩, z2⟩ := I.list hB
  simp only at hc hdd hd hc2 hdd2 hd2
  subst hc hdd hd hc2 hdd2 hd2
  have e : its.toArray ++ its2.toArray = (its ++ its2).toArray := by simp
  refine concat_meets ⟨_, ho, rfl⟩ ⟨_, ho2, rfl⟩ noFill_list_add seq_list_add PySem.F.slot_list_add PySem.F.entry_list_add (PySem.F.args_list_add_2 _ _) (PyProof.Rows.list_addW l b its.toArray its2.toArray n n2 none none sl sl2 (by simpa [← r.length, ← r2.length] using hz)) ⟨ho, ho2, ?_⟩
  rw [e]
  exact ⟨.ref _, _, I.lnew (t' := s.toks) (r.append r2) (by rw [List.length_append]; omega), rfl, q _ I.fresh⟩
theorem od_add : OpD X (binaryOp .Add) true addD := by
  refine ⟨_, op_add.or (op_add_str.or (op_catL.or op_catA)), fun O H x y d e w Q od hx hy hw q => ?_⟩
  cases hx with
  | int i =>
    cases hy with
    | int j => cases hw; exact .inl ⟨i, j, rfl, rfl, q _ _ (.flat (.int _) fun _ z => nomatch z)⟩
    | _ => cases hw
  | str a =>
    cases hy with
    | str b =>
      simp only [addD] at hw
      split at hw
      · rename_i hl
        cases hw
        exact .inr (.inl ⟨a, b, rfl, rfl, hl, q _ _ (.flat (.str _) fun _ z => nomatch z)⟩)
      · cases hw
    | _ => cases hw
  | lst l r =>
    cases hy with
    | lst l' r' =>
      simp only [addD] at hw
      split at hw
      · rename_i hl
        cases hw
        exact .inr (.inr (.inl ⟨_, _, _, _, rfl, rfl, l.1, l'.1, by rw [r.length, r'.length]; exact hl, fun p hp => q _ _ (.lst od hp (r.append r'))⟩))
      · cases hw
    | _ => cases hw
  | tup l r =>
    cases hy with
    | tup l' r' =>
      simp only [addD] at hw
      split at hw
      · rename_i hl
        cases hw
        refine .inr (.inr (.inr ⟨_, _, _, _, rfl, rfl, l.1, l'.1, by rw [r.length, r'.length]; exact hl, fun e => ?_, fun _ e => ?_, fun _ _ p hp => q _ _ (.tup od hp (r.append r'))⟩))
        · subst e
          cases r
          exact q _ _ (.flat (.tup l' r') fun _ z => nomatch z)
        · subst e
          cases r'
          rw [List.append_nil] at q
          exact q _ _ (.flat (.tup l r) fun _ z => nomatch z)
      · cases hw
    | _ => cases hw
  | _ => cases hw
/-! ### ints -/
def subD : D → D → Option D
  | .int i, .int j => some (.int (i - j))
  | _, _ => none
theorem od_sub : OpD X (binaryOp .Sub) true subD := by
  refine ⟨_, op_sub, fun O H x y d e w Q od hx hy hw q => ?_⟩
  cases hx with
  | int i =>
    cases hy with
    | int j => cases hw; exact ⟨i, j, rfl, rfl, q _ _ (.flat (.int _) fun _ z => nomatch z)⟩
    | _ => cases hw
  | _ => cases hw
instance (i j : Int) : Decidable (CMul i j) := by unfold CMul; infer_instance
instance (i j : Int) : Decidable (CDivN i j) := by unfold CDivN; infer_instance
instance (i j : Int) : Decidable (CPow i j) := by unfold CPow; infer_instance
def CMulV (i j : Int) : Prop := CMul i j ∨ CMulW i j
instance (i j : Int) : Decidable (CMulW i j) := by unfold CMulW; infer_instance
instance (i j : Int) : Decidable (CMulV i j) := by unfold CMulV; infer_instance
theorem op_mulV : OpR X (binaryOp .Mult) (rI CMulV fun i j => .int (i * j)) := opI fun _ _ _ _ _ _ _ hc q => mul_int q (hc.elim CMul.ok CMulW.ok)
/-- a list * an int, the list as it lies -/
theorem int_rmul_listW (a : Int) (t : Tok) (l : Addr) (items : Array Value) (n : Nat) (sl : Array (Option Value)) :
    Meets (Builtin.«int.__rmul__» ⟨[.int a t, .ref l], []⟩) (fun _ R s => s.heap.get? l = some { cls := .type "list", dict := none, data := .seq items n, slots := sl } ∧ R (.ok (.ret Value.notImplemented)) s) :=
  .of_wp fun prog w A R s h => by obtain ⟨hp, g, d, tk, os⟩ := s; obtain ⟨hl, h⟩ := h; wp_walk; exact ⟨_, rfl, h⟩
theorem list_mulW (l : Addr) (items : Array Value) (n : Nat) (sl : Array (Option Value)) (x : Int) (u : Tok) (hc0 : ¬(!Builtin.List.listFitsIndex x) = true) (hc1 : ¬items.size * x.toNat > (2 ^ 63 - 1) / 8) (hc2 : ¬Builtin.List.listTooLong (items.size * x.toNat) = true) :
    Meets (Builtin.«list.__mul__» ⟨[.ref l, .int x u], []⟩) (fun _ R s => s.heap.get? l = some { cls := .type "list", dict := none, data := .seq items n, slots := sl } ∧ R (.ok (.ret (Value.ref s.heap.objs.size))) { s with heap := s.heap.push { cls := Value.type "list", data := Data.seq (List.foldl (fun x1 x2 => x1 ++ x2) #[] (List.replicate (if items.isEmpty = true then 0 else x.toNat) items)) }, toks := s.toks }) :=
  .of_wp fun prog w A R s h => by
    obtain ⟨hp, g, d, tk, os⟩ := s; obtain ⟨hl, h⟩ := h
    have hsz := AutoListH.joined_fits hc2
    wp_walk; refine wpAny_ite_false (decide_eq_false (Nat.not_lt.mpr hsz)) ?_; wp_walk; exact ⟨_, rfl, h⟩
def rRepL (K : PySem.W.Frag) : R2 := fun x y H Q => ∃ l k xs, x = .ref l ∧ y = .int k ∧ SqL K H l xs ∧ -(2 ^ 63) ≤ k ∧ k < 2 ^ 63 ∧ xs.length * k.toNat ≤ sizeLine ∧
  ∀ p, H p = none → Q (.ref p) (upd H p (.lst (List.replicate k.toNat xs).flatten))
theorem op_repL : OpR X (binaryOp .Mult) (rRepL X.K) := by
  intro pins s σ H x y v u Q I rx ry h
  obtain ⟨l, k, xs, rfl, rfl, hH, h1, h2, hz, q⟩ := h
  cases rx
  obtain ⟨t, rfl⟩ := ry
  obtain ⟨its, r, ⟨⟨cls, dd, data, sl⟩, n, e, hc, hdd, hd⟩, z⟩ := I.list hH
  simp only at hc hdd hd
  subst hc hdd hd
  have hl := r.length
  have hlen : its.toArray.size * k.toNat ≤ sizeLine := by rw [List.size_toArray, ← hl]; exact hz
  have hcap : ¬ its.toArray.size * k.toNat > (2 ^ 63 - 1) / 8 := by
    have : (sizeLine : Nat) ≤ (2 ^ 63 - 1) / 8 := by decide
    omega
  have hfit : ¬ (!Builtin.List.listFitsIndex k) = true := by
    rw [fitsIndex_both h1 h2]
    exact Bool.false_ne_true
  have hlong : ¬ Builtin.List.listTooLong (its.toArray.size * k.toNat) = true := by
    rw [notLongL hlen]
    exact Bool.false_ne_true
  have hnew : List.foldl (fun x1 x2 => x1 ++ x2) #[] (List.replicate (if its.toArray.isEmpty = true then 0 else k.toNat) its.toArray) = (List.replicate k.toNat its).flatten.toArray := by
    have f0 : ∀ m : Nat, List.foldl (fun x1 x2 => x1 ++ x2) #[] (List.replicate m its.toArray) = (List.replicate m its).flatten.toArray := fun m => by
      have := foldl_rep its m []
      rw [List.nil_append] at this
      exact this
    rw [f0]
    cases its with
    | nil => simp
    | cons a r' => rw [if_neg (by simp)]
  refine wpAny_binaryOp_repeat_ref (T := "list") (U := "int") (by decide) ⟨_, e, rfl⟩ (fun s' => typeIs_int s' k t) noFill_list_mul F.fills_int_mul F.slot_int_rmul repeat_list F.slot_int_index.lookup
    (call_meets F.slot_int_rmul (typeIs_int s k t) F.entry_int_rmul (F.args_int_rmul_2 _ _) (int_rmul_listW k t l its.toArray n sl)
      ⟨e, rfl, ⟨_, e, rfl⟩, call_meets F.slot_list_mul ⟨_, e, rfl⟩ F.entry_list_mul (F.args_list_mul_2 _ _) (list_mulW l its.toArray n sl k t hfit hcap hlong) ⟨e, ?_⟩⟩)
  rw [hnew]
  exact ⟨.ref _, _, I.lnew (t' := s.toks) (r.rep k.toNat) (by rw [PyProof.Rows.lm_len_rep_flat, Nat.mul_comm]; exact hz), rfl, q _ I.fresh⟩
theorem AtAll.repN {K : PySem.W.Frag} {O : Addr → Prop} {H : Hp} {vs : List V} {ds : List D} (h : AtAll K O H vs ds) : ∀ k : Nat, AtAll K O H (List.replicate k vs).flatten (List.replicate k ds).flatten
  | 0 => .nil
  | k + 1 => by
    rw [List.replicate_succ, List.replicate_succ, List.flatten_cons, List.flatten_cons]
    exact h.append (AtAll.repN h k)
def mulD : D → D → Option D
  | .int i, .int j => if CMulV i j then some (.int (i * j)) else none
  | .list ds, .int k => if -(2 ^ 63) ≤ k ∧ k < 2 ^ 63 ∧ ds.length * k.toNat ≤ sizeLine then some (.list (List.replicate k.toNat ds).flatten) else none
  | _, _ => none
theorem od_mul : OpD X (binaryOp .Mult) true mulD := by
  refine ⟨_, op_mulV.or op_repL, fun O H x y d e w Q od hx hy hw q => ?_⟩
  cases hx with
  | int i =>
    cases hy with
    | int j =>
      simp only [mulD] at hw
      split at hw
      · rename_i hc
        cases hw
        exact .inl ⟨i, j, rfl, rfl, hc, q _ _ (.flat (.int _) fun _ z => nomatch z)⟩
      · cases hw
    | _ => cases hw
  | lst l r =>
    cases hy with
    | int k =>
      simp only [mulD] at hw
      split at hw
      · rename_i hc
        cases hw
        exact .inr ⟨_, k, _, rfl, rfl, l.1, hc.1, hc.2.1, by rw [r.length]; exact hc.2.2, fun p hp => q _ _ (.lst od hp (r.repN _))⟩
      · cases hw
    | _ => cases hw
  | _ => cases hw
def modD : D → D → Option D
  | .int i, .int j => if j ≠ 0 then some (.int (i.fmod j)) else none
  | _, _ => none
theorem od_mod : OpD X (binaryOp .Mod) true modD := by
  refine ⟨_, op_modN, fun O H x y d e w Q od hx hy hw q => ?_⟩
  cases hx with
  | int i =>
    cases hy with
    | int j =>
      simp only [modD] at hw
      split at hw
      · rename_i hc
        cases hw
        exact ⟨i, j, rfl, rfl, hc, q _ _ (.flat (.int _) fun _ z => nomatch z)⟩
      · cases hw
    | _ => cases hw
  | _ => cases hw
def fdivD : D → D → Option D
  | .int i, .int j => if CDivN i j then some (.int (i.fdiv j)) else none
  | _, _ => none
theorem od_fdiv : OpD X (binaryOp .FloorDiv) true fdivD := by
  refine ⟨_, op_fdivN, fun O H x y d e w Q od hx hy hw q => ?_⟩
  cases hx with
  | int i =>
    cases hy with
    | int j =>
      simp only [fdivD] at hw
      split at hw
      · rename_i hc
        cases hw
        exact ⟨i, j, rfl, rfl, hc, q _ _ (.flat (.int _) fun _ z => nomatch z)⟩
      · cases hw
    | _ => cases hw
  | _ => cases hw
def powD : D → D → Option D
  | .int i, .int j => if CPow i j then some (.int (i ^ j.toNat)) else none
  | _, _ => none
theorem od_pow : OpD X (binaryOp .Pow) true powD := by
  refine ⟨_, op_pow, fun O H x y d e w Q od hx hy hw q => ?_⟩
  cases hx with
  | int i =>
    cases hy with
    | int j =>
      simp only [powD] at hw
      split at hw
      · rename_i hc
        cases hw
        exact ⟨i, j, rfl, rfl, hc, q _ _ (.flat (.int _) fun _ z => nomatch z)⟩
      · cases hw
    | _ => cases hw
  | _ => cases hw
def negD : D → Option D
  | .int i => some (.int (-i))
  | _ => none
theorem ud_neg : UnD X (unaryOp .USub) true negD := by
  refine ⟨_, un_neg, fun O H x d w Q od hx hw q => ?_⟩
  cases hx with
  | int i => cases hw; exact ⟨i, rfl, q _ _ (.flat (.int _) fun _ z => nomatch z)⟩
  | _ => cases hw
/-! ### comparisons -/
def cmpD (p : Int → Int → Bool) : D → D → Option D
  | .int i, .int j => some (.bool (p i j))
  | _, _ => none
theorem od_cmp {f : Value → Value → Sem Value} {p : Int → Int → Bool} (h : OpR X f (rI0 fun i j => .bl (p i j))) : OpD X f true (cmpD p) := by
  refine ⟨_, h, fun O H x y d e w Q od hx hy hw q => ?_⟩
  cases hx with
  | int i =>
    cases hy with
    | int j => cases hw; exact ⟨i, j, rfl, rfl, q _ _ (.flat (.bl _) fun _ z => nomatch z)⟩
    | _ => cases hw
  | _ => cases hw
def ltD := cmpD fun i j => decide (i < j)
def leD := cmpD fun i j => decide (i ≤ j)
def gtD := cmpD fun i j => decide (j < i)
def geD := cmpD fun i j => decide (j ≤ i)
theorem od_lt : OpD X (compareOp .Lt) true ltD := od_cmp op_lt
theorem od_le : OpD X (compareOp .LtE) true leD := od_cmp op_le
theorem od_gt : OpD X (compareOp .Gt) true gtD := od_cmp op_gt
theorem od_ge : OpD X (compareOp .GtE) true geD := od_cmp op_ge
def eqD (d e : D) : Option D := if (SeqAt.shaped d && SeqAt.shaped e) = true then some (.bool (PyData.eqv d e)) else none
def neD (d e : D) : Option D := if (SeqAt.shaped d && SeqAt.shaped e) = true then some (.bool (!PyData.eqv d e)) else none
theorem od_eq (hu : X.A.units + 64 < cLine) : OpD X (compareOp .Eq) true eqD := by
  refine ⟨_, op_eqD hu, fun O H x y d e w Q od hx hy hw q => ?_⟩
  unfold eqD at hw
  split at hw
  · rename_i hs
    cases hw
    rw [Bool.and_eq_true] at hs
    exact ⟨d, e, hx.dp (SeqAt.canLay_of_shaped hs.1), hy.dp (SeqAt.canLay_of_shaped hs.2), hs.1, hs.2, q _ _ (.flat (.bl _) fun _ z => nomatch z)⟩
  · cases hw
theorem od_ne (hu : X.A.units + 64 < cLine) : OpD X (compareOp .NotEq) true neD := by
  refine ⟨_, op_neD hu, fun O H x y d e w Q od hx hy hw q => ?_⟩
  unfold neD at hw
  split at hw
  · rename_i hs
    cases hw
    rw [Bool.and_eq_true] at hs
    exact ⟨d, e, hx.dp (SeqAt.canLay_of_shaped hs.1), hy.dp (SeqAt.canLay_of_shaped hs.2), hs.1, hs.2, q _ _ (.flat (.bl _) fun _ z => nomatch z)⟩
  · cases hw
/-- is, is not, of None and of bools -/
def isD (d e : D) : Option D := match d, e with
  | .none, .none => some (.bool true)
  | _, .none => some (.bool false)
  | .bool a, .bool b => some (.bool (decide (a = b)))
  | _, _ => none
def isntD (d e : D) : Option D := match d, e with
  | .none, .none => some (.bool false)
  | _, .none => some (.bool true)
  | .bool a, .bool b => some (.bool (!decide (a = b)))
  | _, _ => none
theorem od_is : OpD X (compareOp .Is) true isD := by
  refine ⟨_, op_isN.or op_isBl, fun O H x y d e w Q od hx hy hw q => ?_⟩
  cases hy with
  | non =>
    cases hx <;> cases hw <;> exact .inl ⟨rfl, q _ _ (.flat (.bl _) fun _ z => nomatch z)⟩
  | bl b =>
    cases hx with
    | bl a => cases hw; exact .inr ⟨a, b, rfl, rfl, q _ _ (.flat (.bl _) fun _ z => nomatch z)⟩
    | _ => cases hw
  | _ => cases hx <;> cases hw
theorem od_isnt : OpD X (compareOp .IsNot) true isntD := by
  refine ⟨_, op_notN.or op_notBl, fun O H x y d e w Q od hx hy hw q => ?_⟩
  cases hy with
  | non =>
    cases hx <;> cases hw <;> exact .inl ⟨rfl, q _ _ (.flat (.bl _) fun _ z => nomatch z)⟩
  | bl b =>
    cases hx with
    | bl a => cases hw; exact .inr ⟨a, b, rfl, rfl, q _ _ (.flat (.bl _) fun _ z => nomatch z)⟩
    | _ => cases hw
  | _ => cases hx <;> cases hw
/-- x in a list -/
def inD (d e : D) : Option D := match e with
  | .list ds => if (SeqAt.shaped d && SeqAt.shaped (.list ds)) = true then some (.bool (ds.any fun z => PyData.eqv z d)) else none
  | .str y => match d with
    | .str x => some (.bool (!(Builtin.Str.occurrences y x 0 y.length 1).isEmpty))
    | _ => none
  | _ => none
def notinD (d e : D) : Option D := match e with
  | .list ds => if (SeqAt.shaped d && SeqAt.shaped (.list ds)) = true then some (.bool (!ds.any fun z => PyData.eqv z d)) else none
  | .str y => match d with
    | .str x => some (.bool (!(!(Builtin.Str.occurrences y x 0 y.length 1).isEmpty)))
    | _ => none
  | _ => none
theorem od_in (hu : X.A.units + 65 < cLine) : OpD X (compareOp .In) true inD := by
  refine ⟨_, (op_inD hu).or op_in_str, fun O H x y d e w Q od hx hy hw q => ?_⟩
  cases hy with
  | lst l r =>
    simp only [inD] at hw
    split at hw
    · rename_i hs
      cases hw
      rw [Bool.and_eq_true] at hs
      exact .inl ⟨d, _, hx.dp (SeqAt.canLay_of_shaped hs.1), (At.lst l r).dp (SeqAt.canLay_of_shaped hs.2), hs.1, hs.2, q _ _ (.flat (.bl _) fun _ z => nomatch z)⟩
    · cases hw
  | str z =>
    cases hx with
    | str a => cases hw; exact .inr ⟨a, z, rfl, rfl, q _ _ (.flat (.bl _) fun _ z => nomatch z)⟩
    | _ => cases hw
  | _ => cases hw
theorem od_notin (hu : X.A.units + 65 < cLine) : OpD X (compareOp .NotIn) true notinD := by
  refine ⟨_, (op_notInD hu).or op_notin_str, fun O H x y d e w Q od hx hy hw q => ?_⟩
  cases hy with
  | lst l r =>
    simp only [notinD] at hw
    split at hw
    · rename_i hs
      cases hw
      rw [Bool.and_eq_true] at hs
      exact .inl ⟨d, _, hx.dp (SeqAt.canLay_of_shaped hs.1), (At.lst l r).dp (SeqAt.canLay_of_shaped hs.2), hs.1, hs.2, q _ _ (.flat (.bl _) fun _ z => nomatch z)⟩
    · cases hw
  | str z =>
    cases hx with
    | str a => cases hw; exact .inr ⟨a, z, rfl, rfl, q _ _ (.flat (.bl _) fun _ z => nomatch z)⟩
    | _ => cases hw
  | _ => cases hw
/-! ### items -/
theorem atI_at {vs : List V} {ds : List D} {i : Int} {d : D} (r : AtAll K O H vs ds) (h : atI ds i = some d) : ∃ v, atI vs i = some v ∧ At K O H v d := by
  unfold atI at h ⊢
  rw [r.length]
  cases e : ixN ds.length i with
  | none => rw [e] at h; cases h
  | some j =>
    rw [e] at h
    exact r.get h
def ixD (d e : D) : Option D := match d, e with
  | .list ds, .int i => atI ds i
  | .tuple ds, .int i => atI ds i
  | .str z, .int i => if z.length ≤ sizeLine then (atI z.cps.toList i).map fun c => .str ⟨#[c]⟩ else none
  | _, _ => none
theorem xd_ix : IxD X false ixD := by
  refine ⟨_, ix_seq, fun O H x y d e w Q od hx hy hw q => ?_⟩
  cases hy with
  | int i =>
    cases hx with
    | lst l r =>
      obtain ⟨v, h1, h2⟩ := atI_at r hw
      exact .inl ⟨_, _, i, v, rfl, rfl, l.1, h1, q _ _ (.sh h2)⟩
    | tup l r =>
      obtain ⟨v, h1, h2⟩ := atI_at r hw
      exact .inr (.inl ⟨_, _, i, v, rfl, rfl, l.1, h1, q _ _ (.sh h2)⟩)
    | str z =>
      simp only [ixD] at hw
      split at hw
      · rename_i hl
        rw [Option.map_eq_some_iff] at hw
        obtain ⟨c, e1, rfl⟩ := hw
        exact .inr (.inr ⟨z, i, c, rfl, rfl, hl, e1, q _ _ (.sh (.str _))⟩)
      · cases hw
    | _ => cases hw
  | _ => cases hx <;> cases hw
/-! ### slices -/
def cutD (xs : List D) (lo hi : Option Int) : List D := (xs.drop (HT.sIx xs.length 0 lo)).take (HT.sIx xs.length xs.length hi - HT.sIx xs.length 0 lo)
theorem AtAll.cut {vs : List V} {ds : List D} (r : AtAll K O H vs ds) (lo hi : Option Int) : AtAll K O H (cutV vs lo hi) (cutD ds lo hi) := by
  unfold cutV cutD
  rw [r.length]
  exact (r.drop _).take _
end
end DL
namespace DL
open PySem PySem.Spec PyProof.Rows L2
variable {K : PySem.W.Frag}
section
variable {X : Cx} {e : Expr} {es : List Expr} {z : Z}
/-! ### slices -/
def tO (K : PySem.W.Frag) (z : Z) (f : En → R En (Option Int × En)) : TO := fun σ H Q => ∃ (B : Bs) (env : En), SR K z.np B σ H env ∧
  (f env).post (fun p => ∀ H', SR K z.np B σ H' p.2 → Mv (B.O σ env) (B.O σ p.2) H H' → Q p.1 H') (XP K z B σ H env)
abbrev DO (z : Z) (X : Cx) (e : Option Expr) (f : En → R En (Option Int × En)) : Prop := PO X e (tO X.K z f)
theorem po_weak {eo : Option Expr} {t t' : TO} (h : PO X eo t) (i : ∀ σ H Q, t' σ H Q → t σ H Q) : PO X eo t' := ⟨fun pins s σ H Q I q => h.run pins s σ H Q I (i σ H Q q)⟩
def fPart (f : EF) : En → R En (Option Int × En) := fun env => (f env).bind fun p => match p.1 with
  | .int i => .ok (some i, p.2)
  | _ => .stuck
theorem do_none : DO z X none (fun env => .ok (none, env)) := po_weak po_none fun σ H Q ⟨B, env, I, p⟩ => p H I .refl
theorem do_some {fr : Bool} {f : EF} (h : DE z X fr e f) : DO z X (some e) (fPart f) := po_weak (po_some h) fun σ H Q ⟨B, env, I, hp⟩ => by
  refine ⟨B, env, I, (R.post_bind hp).imp (fun p hp v H1 I1 m1 a1 _ => ?_) fun _ _ q => q⟩
  obtain ⟨d, e'⟩ := p
  cases d with
  | int i => cases a1; exact ⟨i, rfl, hp H1 I1 m1⟩
  | _ => exact hp.elim
def SlD (X : Cx) (fr : Bool) (h : D → Option Int → Option Int → Option D) : Prop :=
  ∃ r : V → Option Int → Option Int → Hp → VK → Prop, SlR X r ∧ ∀ (O : Addr → Prop) (H : Hp) (x : V) (d w : D) (lo hi : Option Int) (Q : VK), Od O H → At X.K O H x d → h d lo hi = some w → (∀ v H', Res X.K fr O H H' v w → Q v H') → r x lo hi H Q
def fSl (h : D → Option Int → Option Int → Option D) (f : EF) (fl fh : En → R En (Option Int × En)) : EF := fun env => (f env).bind fun p => (fl p.2).bind fun l => (fh l.2).bind fun u => (ofO (h p.1 l.1 u.1)).bind fun r => .ok (r, u.2)
theorem de_slice {fa fr : Bool} {f : EF} {lo hi : Option Expr} {fl fh : En → R En (Option Int × En)} {h : D → Option Int → Option Int → Option D} {pos p2 : Pos} (ho : SlD X fr h) (ha : DE z X fa e f) (hl : DO z X lo fl) (hu : DO z X hi fh) :
    DE z X fr (.Subscript e (.Slice lo hi none p2) pos) (fSl h f fl fh) := by
  obtain ⟨r, hr, sem⟩ := ho
  refine de_imp (pe_slice hr ha hl hu) fun B env σ H Q I hp => ⟨B, env, I, (R.post_bind hp).imp (fun p hp v H1 I1 m1 a1 _ => ?_) fun _ _ q => q⟩
  refine ⟨B, p.2, I1, (R.post_bind hp).imp (fun l hl' H2 I2 m2 => ?_) fun _ _ q => q.step m1⟩
  refine ⟨B, l.2, I2, (R.post_bind hl').imp (fun u hu' H3 I3 m3 => ?_) fun _ _ q => q.step (m1.trans m2)⟩
  obtain ⟨w, ew, hw⟩ := ofO_post (R.post_bind hu')
  exact sem _ H3 v p.1 w l.1 u.1 Q I3.od (At.mv m3 (At.mv m2 a1)) ew fun v' H' rr => EP1.give hw I3 ((m1.trans m2).trans m3) rr
/-- xs[lo:hi] of a list, a tuple, a text -/
def slD (d : D) (lo hi : Option Int) : Option D := match d with
  | .list ds => some (.list (cutD ds lo hi))
  | .tuple ds => some (.tuple (cutD ds lo hi))
  | _ => none
theorem cut_whole {α : Type} (xs : List α) (lo hi : Option Int) (h : HT.sIx xs.length 0 lo = 0 ∧ HT.sIx xs.length xs.length hi = xs.length) : (xs.drop (HT.sIx xs.length 0 lo)).take (HT.sIx xs.length xs.length hi - HT.sIx xs.length 0 lo) = xs := by
  rw [h.1, h.2]; simp
theorem sd_sl : SlD X true slD := by
  refine ⟨_, sl_list.or sl_tupA, fun O H x d w lo hi Q od hx hw q => ?_⟩
  cases hx with
  | lst l r => cases hw; exact .inl ⟨_, _, rfl, l.1, fun p hp => q _ _ (.lst od hp (r.cut lo hi))⟩
  | tup l r =>
    cases hw
    refine .inr ⟨_, _, rfl, l.1, fun hw => ?_, fun _ p hp => q _ _ (.tup od hp (r.cut lo hi))⟩
    have e := cut_whole _ lo hi (by rw [← r.length]; exact hw)
    unfold cutD at q
    rw [e] at q
    exact q _ _ (.flat (.tup l r) fun _ z => nomatch z)
  | _ => cases hw
/-! ### calls -/
theorem AtAll.one {O : Addr → Prop} {H : Hp} {vs : List V} {d : D} (h : AtAll K O H vs [d]) : ∃ v, vs = [v] ∧ At K O H v d := by
  cases h with | cons a r => cases r; exact ⟨_, rfl, a⟩
theorem AtAll.two {O : Addr → Prop} {H : Hp} {vs : List V} {d e : D} (h : AtAll K O H vs [d, e]) : ∃ v u, vs = [v, u] ∧ At K O H v d ∧ At K O H u e := by
  cases h with | cons a r => cases r with | cons b r => cases r; exact ⟨_, _, rfl, a, b⟩
theorem CallR.or {f : Value} {r r' : List V → Hp → VK → Prop} (h : CallR X f r) (h' : CallR X f r') : CallR X f (fun xs H Q => r xs H Q ∨ r' xs H Q) := by
  intro pins s σ H xs us Q I rx q
  rcases q with q | q
  · exact h pins s σ H xs us Q I rx q
  · exact h' pins s σ H xs us Q I rx q
def lenD : List D → Option D
  | [.list ds] => some (.int ds.length)
  | [.tuple ds] => some (.int ds.length)
  | [.str x] => if x.length ≤ sizeLine then some (.int x.length) else none
  | _ => none
theorem cd_len : CallD X (.builtin "len") true lenD := by
  refine ⟨_, call_len_seq.or call_len_str, fun O H vs ds w Q od ha hw q => ?_⟩
  match ds, hw with
  | [.list xs], hw =>
    obtain ⟨v, rfl, a⟩ := ha.one
    obtain ⟨p, ys, rfl, l, r⟩ := a.list_inv
    cases hw
    exact .inl ⟨p, ys, rfl, .inl l.1, by rw [r.length]; exact q _ _ (.flat (.int _) fun _ z => nomatch z)⟩
  | [.tuple xs], hw =>
    obtain ⟨v, rfl, a⟩ := ha.one
    obtain ⟨p, ys, rfl, l, r⟩ := a.tuple_inv
    cases hw
    exact .inl ⟨p, ys, rfl, .inr l.1, by rw [r.length]; exact q _ _ (.flat (.int _) fun _ z => nomatch z)⟩
  | [.str x], hw =>
    obtain ⟨v, rfl, a⟩ := ha.one
    cases a
    simp only [lenD] at hw
    split at hw
    · rename_i hl
      cases hw
      exact .inr ⟨x, rfl, hl, q _ _ (.flat (.int _) fun _ z => nomatch z)⟩
    · cases hw
  | [], hw => cases hw
  | [.none], hw => cases hw
  | [.bool _], hw => cases hw
  | [.int _], hw => cases hw
  | [.dict _], hw => cases hw
  | _ :: _ :: _, hw => simp [lenD] at hw
def intD : List D → Option D
  | [.int i] => some (.int i)
  | [.bool b] => some (.int (if b then 1 else 0))
  | _ => none
theorem cd_int : CallD X (.type "int") true intD := by
  refine ⟨_, call_int1, fun O H vs ds w Q od ha hw q => ?_⟩
  match ds, hw with
  | [.int i], hw =>
    obtain ⟨v, rfl, a⟩ := ha.one
    cases a
    cases hw
    exact .inl ⟨i, rfl, q _ _ (.flat (.int _) fun _ z => nomatch z)⟩
  | [.bool b], hw =>
    obtain ⟨v, rfl, a⟩ := ha.one
    cases a
    cases hw
    exact .inr ⟨b, rfl, q _ _ (.flat (.int _) fun _ z => nomatch z)⟩
  | [], hw => cases hw
  | [.none], hw => cases hw
  | [.str _], hw => cases hw
  | [.list _], hw => cases hw
  | [.tuple _], hw => cases hw
  | [.dict _], hw => cases hw
  | _ :: _ :: _, hw => simp [intD] at hw
def absD : List D → Option D
  | [.int i] => some (.int (if i < 0 then -i else i))
  | _ => none
theorem absD_inv {ds : List D} {w : D} (h : absD ds = some w) : ∃ i, ds = [.int i] ∧ w = .int (if i < 0 then -i else i) := by
  unfold absD at h
  split at h
  · cases h; exact ⟨_, rfl, rfl⟩
  · cases h
theorem cd_abs : CallD X (.builtin "abs") true absD := by
  refine ⟨_, call_abs, fun O H vs ds w Q od ha hw q => ?_⟩
  obtain ⟨i, rfl, rfl⟩ := absD_inv hw
  obtain ⟨v, rfl, a⟩ := ha.one
  cases a
  exact ⟨i, rfl, q _ _ (.flat (.int _) fun _ z => nomatch z)⟩
def strD : List D → Option D
  | [.int i] => if i.natAbs.log2 < 1920 then some (.str (toString i)) else none
  | _ => none
theorem strD_inv {ds : List D} {w : D} (h : strD ds = some w) : ∃ i, ds = [.int i] ∧ i.natAbs.log2 < 1920 ∧ w = .str (toString i) := by
  unfold strD at h
  split at h
  · split at h
    · rename_i hl
      cases h; exact ⟨_, rfl, hl, rfl⟩
    · cases h
  · cases h
theorem cd_str : CallD X (.type "str") true strD := by
  refine ⟨_, call_str_int, fun O H vs ds w Q od ha hw q => ?_⟩
  obtain ⟨i, rfl, hl, rfl⟩ := strD_inv hw
  obtain ⟨v, rfl, a⟩ := ha.one
  cases a
  exact ⟨i, rfl, hl, q _ _ (.flat (.str _) fun _ z => nomatch z)⟩
/-- the ints of data -/
def intsD : List D → Option (List Int)
  | [] => some []
  | .int i :: r => (intsD r).map (i :: ·)
  | _ :: _ => none
theorem intsD_inv : ∀ {ds : List D} {ns : List Int}, intsD ds = some ns → ds = ns.map PyData.int
  | [], ns, h => by cases h; rfl
  | d :: r, ns, h => by
    cases d with
    | int i =>
      simp only [intsD, Option.map_eq_some_iff] at h
      obtain ⟨ms, h1, rfl⟩ := h
      rw [intsD_inv h1]
      rfl
    | _ => cases h
theorem intsD_map : ∀ ns : List Int, intsD (ns.map PyData.int) = some ns
  | [] => rfl
  | i :: r => by simp only [List.map_cons, intsD, intsD_map r, Option.map_some]
theorem intsD_at {O : Addr → Prop} {H : Hp} {vs : List V} {ds : List D} {ns : List Int} (r : AtAll K O H vs ds) (h : intsD ds = some ns) : vs = ns.map V.int := by
  rw [intsD_inv h] at r
  exact r.ints
/-- sum of a tuple -/
theorem call_sum_tup (hc : X.calm = true) : CallR X (.builtin "sum") (fun vs H Q => ∃ (a : Addr) (ns : List Int), vs = [V.ref a] ∧ SqT X.K H a (ns.map V.int) ∧ Q (.int ns.sum) H) := by
  intro pins s σ H vs us Q I r h
  obtain ⟨a, ns, rfl, hs, q⟩ := h
  obtain ⟨its, rv, hl, _⟩ := I.tuple hs
  rw [Vals.ref1 r]
  have hi := rv.ints
  obtain ⟨xs, e⟩ := hi.allInts.items
  have hn : numsOf (intItems xs).toList = ns := by rw [← e]; exact hi.numsOf
  rw [nums_intItems] at hn
  have hT : s.heap.IsTuple a (intItems xs) := by rw [← e]; exact hl
  have hlt : a < s.heap.objs.size := hl.lt
  refine call_sum_walkG (wpAny_pyIter_tuple hT ?_)
  refine ⟨_, [_, a], [_], _, _, _, numAt xs, rfl, Walks.tuple (A := X.A.in1) (I.ok.hd hc) _ a (Nat.ne_of_lt hlt) (intItems xs), ⟨⟨_, Heap.get?_push_size _ rfl, rfl, rfl⟩, hT.push _⟩, fun b hb => ?_, (fun _ _ => intItems_at), fun h' tk t' hk => ?_⟩
  · show b < (s.heap.push _).objs.size
    rw [Heap.size_push]
    rcases List.mem_cons.mp hb with rfl | hb
    · exact Nat.lt_succ_self _
    · rcases List.mem_cons.mp hb with rfl | hb
      · exact Nat.lt_succ_of_lt hlt
      · cases hb
  · have hold : ∀ c o, s.heap.get? c = some o → h'.get? c = some o := fun c o e => by
      refine hk c o (fun hm => ?_) (Heap.get?_push_of_some _ e)
      rcases List.mem_cons.mp hm with e1 | hm
      · have := Heap.lt_size e; rw [e1] at this; exact Nat.lt_irrefl _ this
      · cases hm
    refine ⟨.int _, H, I.kept (t' := tk) hold, ⟨t', ?_⟩, q⟩
    rw [← hn]
    have : (intItems xs).size = xs.size := by simp [intItems]
    rw [this, preSum_eq, List.take_of_length_le (by simp)]
def sumD : List D → Option D
  | [.list ds] => (intsD ds).map fun ns => .int ns.sum
  | [.tuple ds] => (intsD ds).map fun ns => .int ns.sum
  | _ => none
theorem sumD_inv {ds : List D} {w : D} (h : sumD ds = some w) : ∃ xs ns, (ds = [.list xs] ∨ ds = [.tuple xs]) ∧ intsD xs = some ns ∧ w = .int ns.sum := by
  unfold sumD at h
  split at h
  · rw [Option.map_eq_some_iff] at h
    obtain ⟨ns, h1, rfl⟩ := h
    exact ⟨_, ns, .inl rfl, h1, rfl⟩
  · rw [Option.map_eq_some_iff] at h
    obtain ⟨ns, h1, rfl⟩ := h
    exact ⟨_, ns, .inr rfl, h1, rfl⟩
  · cases h
theorem cd_sum (hc : X.calm = true) : CallD X (.builtin "sum") true sumD := by
  refine ⟨_, (cr_sum hc).or (call_sum_tup hc), fun O H vs ds w Q od ha hw q => ?_⟩
  obtain ⟨xs, ns, e, hn, rfl⟩ := sumD_inv hw
  have fin : Q (.int ns.sum) H := q _ _ (.flat (.int _) fun _ z => nomatch z)
  rcases e with rfl | rfl
  · obtain ⟨v, rfl, a⟩ := ha.one
    obtain ⟨p, ys, rfl, l, r⟩ := a.list_inv
    have := intsD_at r hn
    subst this
    exact .inl ⟨p, ns, rfl, l.1, fin⟩
  · obtain ⟨v, rfl, a⟩ := ha.one
    obtain ⟨p, ys, rfl, l, r⟩ := a.tuple_inv
    have := intsD_at r hn
    subst this
    exact .inr ⟨p, ns, rfl, l.1, fin⟩
/-- the greatest, the least -/
def maxI : List Int → Option Int
  | [] => none
  | i :: r => some (r.foldl (fun a b => max a b) i)
def minI : List Int → Option Int
  | [] => none
  | i :: r => some (r.foldl (fun a b => min a b) i)
theorem foldl_max : ∀ (r : List Int) (i : Int), (r.foldl (fun a b => max a b) i ∈ i :: r) ∧ ∀ y ∈ i :: r, y ≤ r.foldl (fun a b => max a b) i
  | [], i => ⟨by simp, fun y h => by simp at h; simp [h]⟩
  | j :: r, i => by
    obtain ⟨h1, h2⟩ := foldl_max r (max i j)
    simp only [List.foldl_cons]
    have h3 := h2 (max i j) (by simp)
    refine ⟨?_, fun y h => ?_⟩
    · rcases List.mem_cons.mp h1 with h | h
      · rw [h]
        have : max i j = i ∨ max i j = j := by omega
        rcases this with e | e <;> rw [e] <;> simp
      · simp [h]
    · rcases List.mem_cons.mp h with rfl | h
      · omega
      · rcases List.mem_cons.mp h with rfl | h
        · omega
        · exact h2 y (by simp [h])
theorem foldl_min : ∀ (r : List Int) (i : Int), (r.foldl (fun a b => min a b) i ∈ i :: r) ∧ ∀ y ∈ i :: r, r.foldl (fun a b => min a b) i ≤ y
  | [], i => ⟨by simp, fun y h => by simp at h; simp [h]⟩
  | j :: r, i => by
    obtain ⟨h1, h2⟩ := foldl_min r (min i j)
    simp only [List.foldl_cons]
    have h3 := h2 (min i j) (by simp)
    refine ⟨?_, fun y h => ?_⟩
    · rcases List.mem_cons.mp h1 with h | h
      · rw [h]
        have : min i j = i ∨ min i j = j := by omega
        rcases this with e | e <;> rw [e] <;> simp
      · simp [h]
    · rcases List.mem_cons.mp h with rfl | h
      · omega
      · rcases List.mem_cons.mp h with rfl | h
        · omega
        · exact h2 y (by simp [h])
theorem maxI_is {ns : List Int} {m : Int} (h1 : m ∈ ns) (h2 : ∀ y, y ∈ ns → y ≤ m) : maxI ns = some m := by
  cases ns with
  | nil => cases h1
  | cons i r =>
    obtain ⟨h3, h4⟩ := foldl_max r i
    have := h2 _ h3
    have := h4 m h1
    show some _ = some m
    congr 1
    omega
theorem minI_is {ns : List Int} {m : Int} (h1 : m ∈ ns) (h2 : ∀ y, y ∈ ns → m ≤ y) : minI ns = some m := by
  cases ns with
  | nil => cases h1
  | cons i r =>
    obtain ⟨h3, h4⟩ := foldl_min r i
    have := h2 _ h3
    have := h4 m h1
    show some _ = some m
    congr 1
    omega
def maxD : List D → Option D
  | [.list ds] => (intsD ds).bind fun ns => (maxI ns).map .int
  | [.int i, .int j] => some (.int (max i j))
  | _ => none
def minD : List D → Option D
  | [.list ds] => (intsD ds).bind fun ns => (minI ns).map .int
  | [.int i, .int j] => some (.int (min i j))
  | _ => none
theorem cd_max (hc : X.calm = true) : CallD X (.builtin "max") true maxD := by
  refine ⟨_, (cr_max hc).or (call_max2 hc), fun O H vs ds w Q od ha hw q => ?_⟩
  unfold maxD at hw
  split at hw
  · rename_i xs
    rw [Option.bind_eq_some_iff] at hw
    obtain ⟨ns, h1, h2⟩ := hw
    rw [Option.map_eq_some_iff] at h2
    obtain ⟨m, h2, rfl⟩ := h2
    obtain ⟨v, rfl, a⟩ := ha.one
    obtain ⟨p, ys, rfl, l, r⟩ := a.list_inv
    have := intsD_at r h1
    subst this
    refine .inl ⟨p, ns, rfl, l.1, ?_, fun m' g1 g2 => ?_⟩
    · cases ns with
      | nil => cases h2
      | cons => simp
    · rw [maxI_is g1 g2] at h2
      cases h2
      exact q _ _ (.flat (.int _) fun _ z => nomatch z)
  · rename_i i j
    cases hw
    obtain ⟨v, u, rfl, a, b⟩ := ha.two
    cases a
    cases b
    refine .inr ⟨i, j, rfl, ?_⟩
    have : (if j > i then j else i) = max i j := by split <;> omega
    rw [this]
    exact q _ _ (.flat (.int _) fun _ z => nomatch z)
  · cases hw
theorem cd_min (hc : X.calm = true) : CallD X (.builtin "min") true minD := by
  refine ⟨_, (cr_min hc).or (call_min2 hc), fun O H vs ds w Q od ha hw q => ?_⟩
  unfold minD at hw
  split at hw
  · rename_i xs
    rw [Option.bind_eq_some_iff] at hw
    obtain ⟨ns, h1, h2⟩ := hw
    rw [Option.map_eq_some_iff] at h2
    obtain ⟨m, h2, rfl⟩ := h2
    obtain ⟨v, rfl, a⟩ := ha.one
    obtain ⟨p, ys, rfl, l, r⟩ := a.list_inv
    have := intsD_at r h1
    subst this
    refine .inl ⟨p, ns, rfl, l.1, ?_, fun m' g1 g2 => ?_⟩
    · cases ns with
      | nil => cases h2
      | cons => simp
    · rw [minI_is g1 g2] at h2
      cases h2
      exact q _ _ (.flat (.int _) fun _ z => nomatch z)
  · rename_i i j
    cases hw
    obtain ⟨v, u, rfl, a, b⟩ := ha.two
    cases a
    cases b
    refine .inr ⟨i, j, rfl, ?_⟩
    have : (if j < i then j else i) = min i j := by split <;> omega
    rw [this]
    exact q _ _ (.flat (.int _) fun _ z => nomatch z)
  · cases hw
def listD : List D → Option D
  | [.list ds] => some (.list ds)
  | [.tuple ds] => some (.list ds)
  | _ => none
def tupleD : List D → Option D
  | [.list ds] => some (.tuple ds)
  | [.tuple ds] => some (.tuple ds)
  | _ => none
theorem cd_list : CallD X (.type "list") true listD := by
  refine ⟨_, call_list_of, fun O H vs ds w Q od ha hw q => ?_⟩
  unfold listD at hw
  split at hw
  · cases hw
    obtain ⟨v, rfl, a⟩ := ha.one
    obtain ⟨p, ys, rfl, l, r⟩ := a.list_inv
    exact ⟨p, ys, rfl, .inl l.1, fun p hp => q _ _ (.lst od hp r)⟩
  · cases hw
    obtain ⟨v, rfl, a⟩ := ha.one
    obtain ⟨p, ys, rfl, l, r⟩ := a.tuple_inv
    exact ⟨p, ys, rfl, .inr l.1, fun p hp => q _ _ (.lst od hp r)⟩
  · cases hw
theorem cd_tuple : CallD X (.type "tuple") true tupleD := by
  refine ⟨_, call_tuple_of, fun O H vs ds w Q od ha hw q => ?_⟩
  unfold tupleD at hw
  split at hw
  · cases hw
    obtain ⟨v, rfl, a⟩ := ha.one
    obtain ⟨p, ys, rfl, l, r⟩ := a.list_inv
    exact ⟨p, ys, rfl, .inl ⟨l.1, fun p hp => q _ _ (.tup od hp r)⟩⟩
  · cases hw
    obtain ⟨v, rfl, a⟩ := ha.one
    obtain ⟨p, ys, rfl, l, r⟩ := a.tuple_inv
    exact ⟨p, ys, rfl, .inr ⟨l.1, q _ _ (.flat (.tup l r) fun _ z => nomatch z)⟩⟩
  · cases hw
def boolsD : List D → Option (List Bool)
  | [] => some []
  | .bool b :: r => (boolsD r).map (b :: ·)
  | _ :: _ => none
theorem boolsD_at {O : Addr → Prop} {H : Hp} : ∀ {vs : List V} {ds : List D} {bs : List Bool}, AtAll K O H vs ds → boolsD ds = some bs → vs = bs.map V.bl
  | _, [], bs, .nil, h => by cases h; rfl
  | _, d :: r, bs, .cons a q, h => by
    cases d with
    | bool b =>
      simp only [boolsD, Option.map_eq_some_iff] at h
      obtain ⟨cs, h1, rfl⟩ := h
      cases a
      rw [boolsD_at q h1]
      rfl
    | _ => cases h
def allD : List D → Option D
  | [.list ds] => (boolsD ds).map fun bs => .bool (bs.all id)
  | _ => none
theorem cd_all (hc : X.calm = true) : CallD X (.builtin "all") true allD := by
  refine ⟨_, cr_all hc, fun O H vs ds w Q od ha hw q => ?_⟩
  unfold allD at hw
  split at hw
  · rw [Option.map_eq_some_iff] at hw
    obtain ⟨bs, h1, rfl⟩ := hw
    obtain ⟨v, rfl, a⟩ := ha.one
    obtain ⟨p, ys, rfl, l, r⟩ := a.list_inv
    have := boolsD_at r h1
    subst this
    exact ⟨p, bs, rfl, l.1, q _ _ (.flat (.bl _) fun _ z => nomatch z)⟩
  · cases hw
/-- ints in order -/
def insI (i : Int) : List Int → List Int
  | [] => [i]
  | j :: r => if i ≤ j then i :: j :: r else j :: insI i r
def sortI : List Int → List Int
  | [] => []
  | i :: r => insI i (sortI r)
theorem insI_perm (i : Int) : ∀ l, (insI i l).Perm (i :: l)
  | [] => .refl _
  | j :: r => by
    unfold insI
    split
    · exact .refl _
    · exact ((insI_perm i r).cons j).trans (.swap i j r)
theorem insI_sorted (i : Int) : ∀ l : List Int, l.Pairwise (· ≤ ·) → (insI i l).Pairwise (· ≤ ·)
  | [], _ => by simp [insI]
  | j :: r, h => by
    rw [List.pairwise_cons] at h
    unfold insI
    split
    · rename_i hl
      refine List.pairwise_cons.mpr ⟨fun k hk => ?_, List.pairwise_cons.mpr h⟩
      rcases List.mem_cons.mp hk with rfl | hk
      · exact hl
      · have := h.1 k hk; omega
    · rename_i hl
      refine List.pairwise_cons.mpr ⟨fun k hk => ?_, insI_sorted i r h.2⟩
      rcases List.mem_cons.mp ((insI_perm i r).mem_iff.mp hk) with rfl | hk
      · omega
      · exact h.1 k hk
theorem sortI_perm : ∀ l : List Int, (sortI l).Perm l
  | [] => .refl _
  | i :: r => (insI_perm i (sortI r)).trans ((sortI_perm r).cons i)
theorem sortI_sorted : ∀ l : List Int, (sortI l).Pairwise (· ≤ ·)
  | [] => .nil
  | i :: r => insI_sorted i _ (sortI_sorted r)
theorem sortI_is {ns ms : List Int} (h : ms.Perm ns) (s : ms.Pairwise (· ≤ ·)) : ms = sortI ns :=
  List.Perm.eq_of_pairwise (le := (· ≤ ·)) (fun a b _ _ h1 h2 => by omega) s (sortI_sorted ns) (h.trans (sortI_perm ns).symm)
def sortedD : List D → Option D
  | [.list ds] => (intsD ds).map fun ns => .list ((sortI ns).map .int)
  | _ => none
theorem cd_sorted : CallD X (.builtin "sorted") true sortedD := by
  refine ⟨_, cr_sortedI, fun O H vs ds w Q od ha hw q => ?_⟩
  unfold sortedD at hw
  split at hw
  · rw [Option.map_eq_some_iff] at hw
    obtain ⟨ns, h1, rfl⟩ := hw
    obtain ⟨v, rfl, a⟩ := ha.one
    obtain ⟨p, ys, rfl, l, r⟩ := a.list_inv
    have := intsD_at r h1
    subst this
    refine ⟨p, ns, rfl, l.1, fun ms p hperm hs hp => ?_⟩
    rw [sortI_is hperm hs]
    exact q _ _ (.lst od hp (.of_ints _))
  · cases hw
end
end DL
namespace DL
open PySem PySem.Spec PyProof.Rows L2
variable {K : PySem.W.Frag}
section
variable {X : Cx} {e : Expr} {es : List Expr} {z : Z}
/-! ### repr -/
def reprD : List D → Option D
  | [d] => if (d.showable && SeqAt.shaped d && decide (d.shown.length ≤ sizeLine)) = true then some (.str d.shown) else none
  | _ => none
theorem call_repr_data (hg : X.A.guards = some []) (hu : X.A.units + 66 < cLine) : CallR X (.builtin "repr") (fun vs H Q => ∃ (v : V) (d : D), vs = [v] ∧ Dp X.K H v d ∧ d.showable = true ∧ SeqAt.shaped d = true ∧ d.shown.length ≤ sizeLine ∧ Q (.str d.shown) H) := by
  intro pins s σ H vs us Q I r h
  obtain ⟨v, d, rfl, hd, hs, hsh, hl, q⟩ := h
  obtain ⟨u, rfl, ru⟩ := vals1 r
  obtain ⟨as, rd⟩ := Dp.reads I d v u hd ru
  cases d with
  | none => cases rd; exact PySem.P.repr_of_none ⟨.str _, H, I.tok _, ⟨_, rfl⟩, q⟩
  | bool b => cases rd; exact PySem.P.repr_of_bool ⟨.str _, H, I.tok _, ⟨_, rfl⟩, q⟩
  | int i =>
    cases rd
    exact PySem.P.repr_of_int (of_decide_eq_true hs) ⟨.str _, H, I.tok _, ⟨_, rfl⟩, q⟩
  | str x =>
    cases rd
    exact PySem.P.repr_of_str ⟨.str _, H, I.tok _, ⟨_, rfl⟩, q⟩ hl
  | list ds =>
    have hnd := PyData.hasDict_of_canLay _ (SeqAt.canLay_of_shaped hsh)
    have hdep := SeqAt.depth_of_shaped hsh
    cases id rd with
    | list _ _ _ _ => exact repr_of_reads' rd hs (PyData.noDict_hsm hnd) hg (by omega) (fun _ _ e => e) (fun h' u tk hk => ⟨.str _, H, I.kept (t' := tk) hk, ⟨_, rfl⟩, q⟩) hl
  | tuple ds =>
    have hnd := PyData.hasDict_of_canLay _ (SeqAt.canLay_of_shaped hsh)
    have hdep := SeqAt.depth_of_shaped hsh
    cases id rd with
    | tuple _ _ _ _ => exact repr_of_reads' rd hs (PyData.noDict_hsm hnd) hg (by omega) (fun _ _ e => e) (fun h' u tk hk => ⟨.str _, H, I.kept (t' := tk) hk, ⟨_, rfl⟩, q⟩) hl
  | dict kvs => exact absurd (SeqAt.canLay_of_shaped hsh) (by simp [PyData.canLay0])
theorem cd_repr (hg : X.A.guards = some []) (hu : X.A.units + 66 < cLine) : CallD X (.builtin "repr") true reprD := by
  refine ⟨_, call_repr_data hg hu, fun O H vs ds w Q od ha hw q => ?_⟩
  unfold reprD at hw
  split at hw
  · split at hw
    · rename_i hc
      cases hw
      simp only [Bool.and_eq_true, decide_eq_true_eq] at hc
      obtain ⟨v, rfl, a⟩ := ha.one
      exact ⟨v, _, rfl, a.dp (SeqAt.canLay_of_shaped hc.1.2), hc.1.1, hc.1.2, hc.2, q _ _ (.flat (.str _) fun _ z => nomatch z)⟩
    · cases hw
  · cases hw
/-! ### isinstance of a built-in type -/
def tyN : D → String
  | .none => "NoneType"
  | .bool _ => "bool"
  | .int _ => "int"
  | .str _ => "str"
  | .list _ => "list"
  | .tuple _ => "tuple"
  | .dict _ => "dict"
theorem At.ty {O : Addr → Prop} {H : Hp} {v : V} {d : D} (h : At K O H v d) : ((∀ kvs, d ≠ .dict kvs) ∧ TyX K H v (.type (tyN d))) ∨ ∃ (a : Addr) (n : Str) (od : Option Addr), v = .ref a ∧ (∃ kvs, d = .dict kvs) ∧ (H a = some (ExB (.ref (caK K n)) od a) ∧ ∀ dx, od = some dx → ∃ fs, H dx = some (.xd fs)) ∧ ExI K n := by
  cases h with
  | non => exact .inl ⟨(fun _ z => nomatch z), .base .non⟩
  | bl b => exact .inl ⟨(fun _ z => nomatch z), .base (.bl b)⟩
  | int i => exact .inl ⟨(fun _ z => nomatch z), .base (.int i)⟩
  | str x => exact .inl ⟨(fun _ z => nomatch z), .base (.str x)⟩
  | lst l r =>
    refine .inl ⟨(fun _ z => nomatch z), ?_⟩
    rcases l.1 with (h | ⟨o, h⟩) | ⟨o, its, n, h1, h2, _⟩
    · exact .base (.lst h)
    · exact .base (.frz h)
    · exact .kList h1 h2
  | tup l r =>
    refine .inl ⟨(fun _ z => nomatch z), ?_⟩
    rcases l.1 with (h | ⟨o, h⟩) | ⟨o, its, n, h1, h2, _⟩
    · exact .base (.tup h)
    · exact .fTuple h
    · exact .kTuple h1 h2
  | exc n h i => exact .inr ⟨_, n, none, rfl, ⟨_, rfl⟩, ⟨h.1, fun _ q => nomatch q⟩, i⟩
  | excP n f h i a =>
    obtain ⟨⟨h1, _⟩, ⟨fs, h2, _⟩, _⟩ := h
    exact .inr ⟨_, n, _, rfl, ⟨_, rfl⟩, ⟨h1, fun dx q => by cases q; exact ⟨fs, h2⟩⟩, i⟩
/-- isinstance(e, c), e an error that is kept -/
def rIsX (K : PySem.W.Frag) : List V → Hp → VK → Prop := fun xs H Q => ∃ (a C : Addr) (c : V) (u : Value) (b : Bool) (od : Option Addr), xs = [.ref a, c] ∧ ClsV c u ∧ (H a = some (ExB (.ref C) od a) ∧ ∀ dx, od = some dx → ∃ fs, H dx = some (.xd fs)) ∧ ExcC K C ∧ PySem.W.kitOne K (.ref C) u = some b ∧ Q (.bl b) H
theorem call_isX : CallR X (.builtin "isinstance") (rIsX X.K) := by
  intro pins s σ H vs us Q I r h
  obtain ⟨a, C, c, u, b, od, rfl, k, ⟨hH, hdx⟩, hC, e, q⟩ := h
  obtain ⟨u1, u2, rfl, r1, r2⟩ := vals2 r
  obtain rfl := k.eq r2
  cases (show u1 = Value.ref a from r1)
  obtain ⟨⟨⟨oc, od', ot, osl⟩, fs, h0, ⟨h1, h2⟩, h3⟩, _⟩ := (show ObjOk X.prog X.w H s.heap a (ExB (.ref C) od a) from I.hok a _ hH)
  dsimp only at h1 h2 h3
  subst h1 h2 h3
  obtain ⟨oD, J⟩ : ∃ oD, PySem.W.InstAt s.heap a ⟨.ref C, od', .fields fs, osl⟩ C oD := by
    cases od' with
    | none => exact ⟨none, h0, rfl, rfl, trivial⟩
    | some dx =>
      obtain ⟨xs, hx⟩ := hdx dx rfl
      obtain ⟨mA, hns, _⟩ := (show ObjOk X.prog X.w H s.heap dx (.xd xs) from I.hok dx _ hx)
      obtain ⟨o, ho, _⟩ := lookIn_ns hns
      exact ⟨some o, h0, rfl, rfl, ho⟩
  exact PySem.W.kia_one (PySem.W.kitx_exc (by obtain ⟨cd, q, _⟩ := PySem.W.any_some hC.hd; rw [q]; rfl) hC.hg hC.hk hC.hs hC.ha hC.hn hC.ht hC.hm) I.kIn J e (fun z => nomatch z) fun tk => ⟨.bl b, H, I.tok tk, rfl, q⟩
def isTy (T : String) (d : D) : Option D := match d with
  | .dict _ => if T = "ValueError" then some (.bool true) else if T ∈ tyFive then some (.bool false) else none
  | _ => (kitB (tyN d) T).map .bool
theorem isTy_inv {T : String} {d w : D} (h : isTy T d = some w) : ∃ b, w = .bool b ∧ ((∀ kvs, d ≠ .dict kvs) → kitB (tyN d) T = some b) ∧ ((∃ kvs, d = .dict kvs) → (T = "ValueError" ∧ b = true) ∨ (T ∈ tyFive ∧ b = false)) := by
  cases d with
  | dict kvs =>
    unfold isTy at h
    simp only at h
    split at h
    · rename_i e
      cases h
      exact ⟨true, rfl, fun z => absurd rfl (z kvs), fun _ => .inl ⟨e, rfl⟩⟩
    · split at h
      · rename_i e
        cases h
        exact ⟨false, rfl, fun z => absurd rfl (z kvs), fun _ => .inr ⟨e, rfl⟩⟩
      · cases h
  | _ =>
    unfold isTy at h
    simp only at h
    rw [Option.map_eq_some_iff] at h
    obtain ⟨b, hb, rfl⟩ := h
    exact ⟨b, rfl, fun _ => hb, fun ⟨kvs, e⟩ => nomatch e⟩
def fIsi (T : String) (f : EF) : EF := fUn (isTy T) f
theorem de_isi {T : String} {x : Str} {p p2 pos : Pos} {fr : Bool} {f : EF} (he : DE z X fr e f) (hg : Gl X "isinstance") (hm : X.mg "isinstance" = none) (hgT : Gl X x) (hmT : X.mg x = none) (hvT : bootBuiltins x = some (.type T))
    (hn : x ≠ "__name__" := by decide) (hd : (x == ("__debug__" : Str)) = false := by decide)
    (he1 : starEach [e, .Name x p2] X.env = (false, eval e X.env) :: starEach [.Name x p2] X.env := by rfl) (he2 : starEach [.Name x p2] X.env = (false, eval (.Name x p2) X.env) :: starEach [] X.env := by rfl) (hpl : (backTo pos (starEach [.Name x p2] X.env)).any (·.1) = false := by rfl) :
    DE z X true (.Call (.Name "isinstance" p) [e, .Name x p2] [] pos) (fIsi T f) := by
  refine de_imp (pe_callB (call_isi.or call_isX) hg hm (by decide +kernel) (pa_cons he (pa_cons (pe_bltn (v := .ty T) hgT hmT hvT rfl hn hd) pa_nil he2) he1) (by decide) (by decide) he1 hpl) fun B env σ H Q I hp => ?_
  refine ⟨B, env, I, (R.post_bind hp).imp (fun p hp v H1 I1 m1 a1 _ => ?_) fun _ _ q => q⟩
  obtain ⟨w, ew, hw⟩ := ofO_post (R.post_bind hp)
  obtain ⟨b, rfl, hb, hx⟩ := isTy_inv ew
  have fin : Q (.bl b) H1 := EP1.give hw I1 m1 (.flat (.bl _) fun _ q => nomatch q)
  rcases a1.ty with ⟨nd, ty⟩ | ⟨a, n, od, rfl, ed, hE, hI⟩
  · exact .inl ⟨v, .ty T, _, _, b, rfl, .ty T, ty, kit_ty (hb nd), fin⟩
  · refine .inr ⟨a, caK X.K n, .ty T, _, b, od, rfl, .ty T, hE, hI.c, ?_, fin⟩
    rcases hx ed with ⟨rfl, rfl⟩ | ⟨hT, rfl⟩
    · exact hI.v
    · exact hI.b T hT
/-! ### a module's constant -/
theorem de_glob {x : Str} {v : V} {u : Value} {d : D} {pos : Pos} (hg : Gl X x) (hm : X.mg x = some u) (r : RelV v u) (ha : ∀ O H, At X.K O H v d) (hdl : ∀ ds, d ≠ .list ds) (hd : (x == ("__debug__" : Str)) = false := by decide) : DE z X true (.Name x pos) (fC d) := de_c (pe_glob hg hm r hd) ha hdl
/-! ### an own list that is read -/
def fIxO (i : Nat) (g : EF) : EF := fun env => match env[i]? with
  | some (some (.ow _)) => (g env).bind fun q => match q.2[i]? with
    | some (some (.ow ds)) => (ofO (ixD (.list ds) q.1)).bind fun r => .ok (r, q.2)
    | _ => .stuck
  | _ => .stuck
theorem de_ixO {i : Nat} {a b : Expr} {fb : Bool} {g : EF} {pos : Pos} (ha : PE X a (tVar i)) (hb : DE z X fb b g) (hs : PlainIx b) : DE z X false (.Subscript a b pos) (fIxO i g) := by
  refine de_imp (pe_ix ix_list ha hb hs) fun B env σ H Q I hp => ?_
  unfold fIxO at hp
  split at hp
  · rename_i ds0 e0
    obtain ⟨a0, _, hv, _⟩ := I.ow e0
    refine ⟨_, hv, B, env, I, (R.post_bind hp).imp (fun q hq u H2 I2 m2 a2 _ => ?_) fun _ _ q => q⟩
    split at hq
    · rename_i ds e
      obtain ⟨w, ew, hw⟩ := ofO_post (R.post_bind hq)
      obtain ⟨a, xs, e1, hO, hH, r⟩ := I2.ow e
      rw [hv] at e1
      cases e1
      obtain ⟨dd, e'⟩ := q
      cases dd with
      | int k =>
        cases a2
        obtain ⟨x, h1, h2⟩ := atI_at r ew
        exact ⟨a0, xs, k, x, rfl, rfl, SqL.of hH, h1, EP1.give hw I2 m2 (.sh h2)⟩
      | _ => cases ew
    · exact hq.elim
  · exact hp.elim
/-- len of an own list -/
def fLenO (i : Nat) : EF := fun env => match env[i]? with
  | some (some (.ow ds)) => .ok (.int ds.length, env)
  | _ => .stuck
theorem de_lenO {i : Nat} {a : Expr} {p pos : Pos} (ha : PE X a (tVar i)) (hg : Gl X "len") (hm : X.mg "len" = none) (he : starEach [a] X.env = (false, eval a X.env) :: starEach [] X.env := by rfl) : DE z X true (.Call (.Name "len" p) [a] [] pos) (fLenO i) := by
  refine de_imp (pe_callB call_len_seq hg hm (by decide +kernel) (pa_cons ha pa_nil he) (by decide) (by decide) he) fun B env σ H Q I hp => ?_
  unfold fLenO at hp
  split at hp
  · rename_i ds e
    obtain ⟨a, xs, e1, hO, hH, r⟩ := I.ow e
    refine ⟨_, e1, a, xs, rfl, .inl (SqL.of hH), ?_⟩
    rw [r.length]
    exact EP1.give hp I .refl (.flat (.int _) fun _ q => nomatch q)
  · exact hp.elim
/-! ### a new list * an int -/
theorem tracked {B : Bs} {σ : Sg} {H H1 H2 : Hp} {env e1 e2 : En} {a : Addr} {xs : List V} (I : SR K z.np B σ H1 e1) (h : H1 a = some (.lst xs)) (n : ¬ B.O σ e1 a) (m : Mv (B.O σ e1) (B.O σ e2) H1 H2) : H2 a = some (.lst xs) := m.keep a _ h n
theorem AtAll.rep {O : Addr → Prop} {H : Hp} {vs : List V} {ds : List D} (r : AtAll K O H vs ds) : ∀ n : Nat, AtAll K O H (List.replicate n vs).flatten (List.replicate n ds).flatten
  | 0 => by simp; exact .nil
  | n + 1 => by
    simp only [List.replicate_succ, List.flatten_cons]
    exact r.append (AtAll.rep r n)
def repD (d e : D) : Option D := match d, e with
  | .list ds, .int k => if -(2 ^ 63) ≤ k ∧ k < 2 ^ 63 ∧ ds.length * k.toNat ≤ sizeLine then some (.list (List.replicate k.toNat ds).flatten) else none
  | _, _ => none
theorem de_rep {fb : Bool} {f g : EF} {a b : Expr} {pos : Pos} (ha : DE z X true a f) (hb : DE z X fb b g) : DE z X true (.BinOp a .Mult b pos) (fOp repD f g) := by
  refine de_imp (pe_op op_rep ha hb) fun B env σ H Q I hp => ?_
  refine ⟨B, env, I, (R.post_bind hp).imp (fun p hp v H1 I1 m1 a1 f1 => ?_) fun _ _ q => q⟩
  refine ⟨B, p.2, I1, (R.post_bind hp).imp (fun q hq u H2 I2 m2 a2 _ => ?_) fun x e hx => hx.step m1⟩
  obtain ⟨w, ew, hw⟩ := ofO_post (R.post_bind hq)
  obtain ⟨d, e1⟩ := p
  obtain ⟨k, e2⟩ := q
  cases d with
  | list ds =>
    cases k with
    | int k =>
      simp only [repD] at ew
      split at ew
      · rename_i hc
        cases ew
        cases a2
        obtain ⟨a, xs, rfl, na, nO, hH, hx, _⟩ := f1 rfl ds rfl
        have hx' : AtAll X.K (B.O σ e2) H2 xs ds := AtAll.mv m2 (AtAll.mv (Mv.less fun _ z => .inl z) hx)
        exact ⟨a, k, xs, rfl, rfl, m2.keep a _ hH nO, hc.1, hc.2.1, by rw [hx'.length]; exact hc.2.2, fun p hp => EP1.give hw I2 (m1.trans m2) (.lst I2.od hp (hx'.rep _))⟩
      · cases ew
    | _ => cases ew
  | _ => cases ew
end
end DL
namespace DL
open PySem PySem.Spec PyProof.Rows L2
variable {K : PySem.W.Frag}
/-! ### enumerate of a tuple -/
set_option maxHeartbeats 1000000 in
theorem meets_enumerate_newB1 {v : Value} {o : Obj} {H : Heap → Prop} (B : Begins v o H) :
    Meets (Builtin.«enumerate.__new__» ⟨[.type "enumerate", v], []⟩) (fun _ R s => H s.heap ∧
      R (.ok (.ret (.ref (s.heap.push o).objs.size))) { s with heap := (s.heap.push o).push { cls := .type "enumerate", data := .fields #[.none, .bool false, .ref s.heap.objs.size, rawInt 0, .none, .none] } }) :=
  .of_wp fun prog w A R s h => by
    obtain ⟨hp, g, d, tk, os⟩ := s; obtain ⟨h1, h⟩ := h
    have hsub := sub_enumerate
    have q1 : ∀ {A' : Around} {E : Value → Shared → Prop} {Q : Value → Shared → Prop}, Q (.ref hp.objs.size) ⟨hp.push o, g, d, tk, os⟩ → wpAny (model prog w) A' (pyIter v) Q E ⟨hp, g, d, tk, os⟩ :=
      fun q => B.iter prog w _ _ ⟨hp, g, d, tk, os⟩ _ h1 q
    wp_walk using q1
    refine wpAny_stack_any fun st => wpAny_pure ?_
    split
    · rename_i c _ _ _ _ _
      cases (c == Value.type "enumerate")
      · wp_walk using q1
        exact ⟨_, rfl, h⟩
      · wp_walk using q1
        exact ⟨_, rfl, h⟩
    · wp_walk using q1
      exact ⟨_, rfl, h⟩
section
variable {prog : Program} {w : World} {A : Around} {E : Value → Shared → Prop} {s : Shared}
theorem enum_begins1 {v : Value} {o : Obj} {H : Heap → Prop} {Q : Value → Shared → Prop} (B : Begins v o H) (h1 : H s.heap)
    (h : ∀ h', IsEnum h' (s.heap.objs.size + 1) s.heap.objs.size 0 .none → h'.get? s.heap.objs.size = some o → h'.objs.size = s.heap.objs.size + 2 →
      (∀ b o, s.heap.get? b = some o → h'.get? b = some o) → Q (.ref (s.heap.objs.size + 1)) { s with heap := h' }) :
    wpAny (model prog w) A (call (.type "enumerate") [v]) Q E s := by
  refine callType_new F.called_enumerate (by decide) (F.typeCall_enumerate_1 _) (F.newCall_enumerate_1 _) (fun obj => F.args_object_init_2 obj _) F.entry_enumerate_new
    (meets_enumerate_newB1 B) ⟨h1, ?_⟩
  have hz : (s.heap.push o).objs.size = s.heap.objs.size + 1 := Heap.size_push ..
  show _ ∧ _
  rw [hz]
  have he : IsEnum ((s.heap.push o).push { cls := .type "enumerate", data := .fields #[.none, .bool false, .ref s.heap.objs.size, rawInt 0, .none, .none] }) (s.heap.objs.size + 1) s.heap.objs.size 0 .none := by
    have := Heap.get?_push_size (s.heap.push o) (o := { cls := .type "enumerate", data := .fields #[.none, .bool false, .ref s.heap.objs.size, rawInt 0, .none, .none] }) rfl
    rw [hz] at this; exact this
  refine ⟨⟨_, he, rfl⟩, h _ he (Heap.get?_push_of_some _ (Heap.get?_push_size _ B.free)) (by rw [Heap.size_push, hz]) fun b o x => Heap.get?_push_of_some _ (Heap.get?_push_of_some _ x)⟩
end
/-- the tuple at a, each item in a new pair -/
def IteT (K : PySem.W.Frag) (a : Addr) : It :=
  ⟨fun i H => ∃ (xs : List V) (x : V), SqT K H a xs ∧ xs[i]? = some x, fun i H v H' => ∃ T x, v = .ref T ∧ H T = none ∧ H' = upd H T (.tup [.int (i : Nat), x]) ∧ ∀ xs, SqT K H a xs → xs[i]? = some x, fun i H => ∃ xs : List V, SqT K H a xs ∧ xs.length = i⟩
theorem turn_enumT {P : Program} {w : World} {K : PySem.W.Frag} {elts : List Expr} {kk : Nat} {tpos : Pos} (a e it : Addr) :
    Turn P w K (.Tuple elts kk tpos) (IteT K a) [e, it] e (fun i h => (∃ old, IsEnum h e it ((i : Nat) : Int) old) ∧ h.IsTupleIter it a i ∧ e ≠ it) where
  mem := by simp
  obj := fun i h st b hb => by
    obtain ⟨⟨old, he⟩, ⟨o, ho, hc, hd⟩, _⟩ := st
    have e' : b = e ∨ b = it := by simpa using hb
    rcases e' with z | z
    · rw [z]; exact ⟨_, he, fun v q => nomatch q⟩
    · rw [z]; exact ⟨o, ho, fun v q => by rw [hd] at q; cases q⟩
  keep := fun i h h' st k => let ⟨⟨old, he⟩, hi, hne⟩ := st; ⟨⟨old, k e (by simp) _ he⟩, hi.at fun o q => k it (by simp) o q, hne⟩
  item := by
    intro X hP hw hK hc i pins s σ H E I hf st hg
    subst hP hw hK
    obtain ⟨⟨old, he⟩, hit, hne⟩ := st
    obtain ⟨xs, x, hq, hx⟩ := hg
    obtain ⟨its, rv, p, hz⟩ := I.tuple hq
    obtain ⟨u, hu, ru⟩ := rv.get hx
    have hel : e < s.heap.objs.size := Heap.lt_size he
    have hil : it < s.heap.objs.size := by obtain ⟨_, q, _⟩ := hit; exact Heap.lt_size q
    have hai : a ≠ it := fun z => by
      obtain ⟨o, h1, h2, _⟩ := id p
      obtain ⟨o', h3, h4, _⟩ := id hit
      rw [z, h3] at h1; cases h1; rw [h4] at h2; exact absurd (Value.type.inj h2) (by decide)
    have hae : a ≠ e := fun z => by
      obtain ⟨o, h1, h2, _⟩ := id p
      have h3 : s.heap.get? e = some _ := he
      rw [z, h3] at h1; cases h1; exact absurd (Value.type.inj h2) (by decide)
    have hlt : i < its.toArray.size := by
      rw [List.size_toArray]
      exact (List.getElem?_eq_some_iff.mp hu).1
    have hef : e ∉ [it, a] := by simp [hne, Ne.symm hae]
    refine wpAny_pyNext_enum_itemC (Draws.tuple (A := X.A.in1) (I.ok.hd hc) it a hai its.toArray) he ⟨hit, p⟩ hlt hne hef fun x' h' tk hP ho hst hT hsz hk => ?_
    have ex : x' = u := by
      have : its.toArray[i]? = some u := by simpa using hu
      exact Option.some.inj (hP.symm.trans this)
    subst ex
    refine ⟨_, rfl, wpAny_letOwnedTupleGo_enum (s := { s with heap := h', toks := tk + 1 }) ho fun h'' he' sb => ?_⟩
    have hT2 : h''.get? s.heap.objs.size = some { cls := .type "tuple", data := .seq #[.int i tk, x'] } := (sb.2 _ (Nat.ne_of_gt hel)).trans hT
    have new : ObjOk X.prog X.w (upd H s.heap.objs.size (.tup [.int (i : Nat), x])) h'' s.heap.objs.size (.tup [.int (i : Nat), x]) :=
      ⟨by show 2 ≤ sizeLine; decide, [.int i tk, x'], .cons ⟨_, rfl⟩ (.cons ru .nil), ⟨_, hT2, rfl, _, rfl⟩⟩
    have I1 : Inv X pins σ (upd H s.heap.objs.size (.tup [.int (i : Nat), x])) { s with heap := h'', toks := tk + 1 } :=
      I.turnedNew (ch := [e, it]) (fun b ob hb q => (sb.2 b (fun z => hb (by simp [z]))).trans (hk b ob (fun z => hb (by simp [z])) (fun z => hb (by simp [z])) q)) hf (Nat.le_refl _) new
    refine ⟨.ref s.heap.objs.size, _, I1, rfl, ⟨_, x, rfl, I.hok.fresh (Nat.le_refl _), rfl, fun ys hy => by rw [I.tuple_inj hy hq]; exact hx⟩, ⟨⟨x', ?_⟩, hst.1.at fun o q => (sb.2 it (Ne.symm hne)).trans q, hne⟩, fun b hb => ?_⟩
    · have e1 : ((i + 1 : Nat) : Int) = (i : Int) + 1 := by omega
      rw [e1]; exact he'
    · have hb' : b < s.heap.objs.size := by
        have e' : b = e ∨ b = it := by simpa using hb
        rcases e' with z | z
        · rw [z]; exact hel
        · rw [z]; exact hil
      rw [upd_ne (Nat.ne_of_lt hb')]
      exact (hf b hb).1
  done := by
    intro X hP hw hK hc i pins s σ H E I hf st hg
    subst hP hw hK
    obtain ⟨⟨old, he⟩, hit, hne⟩ := st
    obtain ⟨xs, hq, hx⟩ := hg
    obtain ⟨its, rv, p, hz⟩ := I.tuple hq
    obtain ⟨f0, f1, f2, f3, f4, f5⟩ := hf it (by simp)
    have hl := rv.length
    have hai : a ≠ it := fun z => by
      obtain ⟨o, h1, h2, _⟩ := id p
      obtain ⟨o', h3, h4, _⟩ := id hit
      rw [z, h3] at h1; cases h1; rw [h4] at h2; exact absurd (Value.type.inj h2) (by decide)
    have hsz : its.toArray.size = i := by rw [List.size_toArray, ← hl, hx]
    exact wpAny_pyNext_enum_endD (Draws.tuple (A := X.A.in1) (I.ok.hd hc) it a hai its.toArray) he ⟨by rw [hsz]; exact hit, p⟩ fun h' eb => ⟨rfl, I.turned (t' := s.toks) (fun b o hb q => eb b o hb q) f0 f1 f3 f4 f5⟩
  self := fun A i s Q E st h => let ⟨⟨_, he⟩, _⟩ := st; wpAny_pyIter_enum he h
def iEnumS (K : PySem.W.Frag) (ta : TA) : TI := fun σ H R => ta σ H fun vs H1 => (∃ a xs, vs = [.ref a] ∧ SqL K H1 a xs ∧ R (Ite K a) H1) ∨ (∃ a xs, vs = [.ref a] ∧ SqT K H1 a xs ∧ R (IteT K a) H1)
theorem pi_enumS {X : Cx} {e : Expr} {ta : TA} {p pos tpos : Pos} {elts : List Expr} {kk : Nat} (hg : Gl X "enumerate") (hm : X.mg "enumerate" = none) (ha : PA X [e] ta) (hs : starEach [e] X.env = [(false, eval e X.env)] := by rfl) :
    PI X (.Tuple elts kk tpos) (.Call (.Name "enumerate" p) [e] [] pos) (iEnumS X.K ta) := by
  refine ⟨fun pins s σ H R I h => ?_⟩
  refine Call_ (ld_blt I hg hm boot_enumerate (PyProof.Rows.callWith_type1 (thn (ha.run pos pins s σ H _ I h) fun us s1 ⟨vs, H1, I1, r1, q1⟩ => ?_) hs rfl))
  rcases q1 with q1 | q1
  · obtain ⟨a, xs, ex, hq, q⟩ := q1
    subst ex
    cases r1 with
    | cons r rr =>
      cases rr
      cases r
      obtain ⟨its, rv, p', hz⟩ := I1.list hq
      refine call_enumerate_list p'.isList fun h' he hit hsz hk => wpAny_pyIter_enum he ?_
      have I2 : Inv X pins σ H1 { s1 with heap := h' } := I1.kept (t' := s1.toks) hk
      refine ⟨s1.heap.objs.size + 1, [s1.heap.objs.size + 1, s1.heap.objs.size], _, _, H1, rfl, I2, turn_enum a (s1.heap.objs.size + 1) s1.heap.objs.size, ⟨⟨.none, he⟩, hit, Nat.succ_ne_self _⟩, fun b hb => ?_, q⟩
      have e' : b = s1.heap.objs.size + 1 ∨ b = s1.heap.objs.size := by simpa using hb
      have hle : s1.heap.objs.size ≤ b := by
        rcases e' with z | z
        · rw [z]; exact Nat.le_add_right _ _
        · rw [z]; exact Nat.le_refl _
      exact I1.fpOk hle (I1.hok.fresh hle)
  · obtain ⟨a, xs, ex, hq, q⟩ := q1
    subst ex
    cases r1 with
    | cons r rr =>
      cases rr
      cases r
      obtain ⟨its, rv, p', hz⟩ := I1.tuple hq
      refine enum_begins1 (begins_tuple a its.toArray) p' fun h' he hit hsz hk => wpAny_pyIter_enum he ?_
      have I2 : Inv X pins σ H1 { s1 with heap := h' } := I1.kept (t' := s1.toks) hk
      refine ⟨s1.heap.objs.size + 1, [s1.heap.objs.size + 1, s1.heap.objs.size], _, _, H1, rfl, I2, turn_enumT a (s1.heap.objs.size + 1) s1.heap.objs.size, ⟨⟨.none, he⟩, ⟨_, hit, rfl, rfl⟩, Nat.succ_ne_self _⟩, fun b hb => ?_, q⟩
      have e' : b = s1.heap.objs.size + 1 ∨ b = s1.heap.objs.size := by simpa using hb
      have hle : s1.heap.objs.size ≤ b := by
        rcases e' with z | z
        · rw [z]; exact Nat.le_add_right _ _
        · rw [z]; exact Nat.le_refl _
      exact I1.fpOk hle (I1.hok.fresh hle)
/-! ### what is walked: a list or a tuple -/
def iSeq (K : PySem.W.Frag) (tl : TE) : TI := fun σ H R => tl σ H fun x H1 => (∃ a, x = .ref a ∧ (∃ xs, SqL K H1 a xs) ∧ R (Itl K a) H1) ∨ (∃ a, x = .ref a ∧ (∃ xs, SqT K H1 a xs) ∧ R (Itt K a) H1)
theorem pi_seq {X : Cx} {tg l : Expr} {tl : TE} (hl : PE X l tl) : PI X tg l (iSeq X.K tl) := by
  refine ⟨fun pins s σ H R I h => ?_⟩
  refine thn (hl.run pins s σ H _ I h) fun v s1 ⟨x, H1, I1, r1, q1⟩ => ?_
  rcases q1 with q1 | q1
  · obtain ⟨a, e, ⟨xs, hq⟩, q⟩ := q1
    subst e
    cases r1
    obtain ⟨its, rv, p, hz⟩ := I1.list hq
    refine wpAny_pyIter_list p.isList ?_
    refine ⟨s1.heap.objs.size, [s1.heap.objs.size], _, _, H1, rfl, I1.kept (t' := s1.toks) fun b o e => Heap.get?_push_of_some _ e, turn_list a _, ⟨_, Heap.get?_push_size _ rfl, rfl, rfl⟩, fun b hb => ?_, q⟩
    have e : b = s1.heap.objs.size := by simpa using hb
    subst e
    exact I1.fpOk (Nat.le_refl _) (I1.hok.fresh (Nat.le_refl _))
  · obtain ⟨a, e, ⟨xs, hq⟩, q⟩ := q1
    subst e
    cases r1
    obtain ⟨its, rv, p, hz⟩ := I1.tuple hq
    refine wpAny_pyIter_tuple (show s1.heap.IsTuple a its.toArray from p) ?_
    refine ⟨s1.heap.objs.size, [s1.heap.objs.size], _, _, H1, rfl, I1.kept (t' := s1.toks) fun b o e => Heap.get?_push_of_some _ e, turn_tuple a _, ⟨_, Heap.get?_push_size _ rfl, rfl, rfl⟩, fun b hb => ?_, q⟩
    have e : b = s1.heap.objs.size := by simpa using hb
    subst e
    exact I1.fpOk (Nat.le_refl _) (I1.hok.fresh (Nat.le_refl _))
/-! ### by data -/
def ItR (K : PySem.W.Frag) (O : Addr → Prop) (H : Hp) (J : It) (ds : List D) : Prop := ∀ (O' : Addr → Prop) (H1 : Hp), Mv O O' H H1 → Od O' H1 →
  (∀ i, i < ds.length → J.go i H1) ∧ J.stop ds.length H1 ∧ ∀ (i : Nat) (x : V) (H2 : Hp) (d : D), ds[i]? = some d → J.yld i H1 x H2 → Ex H1 H2 ∧ At K O' H2 x d
def tI (K : PySem.W.Frag) (z : Z) (f : En → R En (List D × En)) : TI := fun σ H R => ∃ (B : Bs) (env : En), SR K z.np B σ H env ∧
  (f env).post (fun p => ∀ J H', SR K z.np B σ H' p.2 → Mv (B.O σ env) (B.O σ p.2) H H' → ItR K (B.O σ p.2) H' J p.1 → R J H') (XP K z B σ H env)
abbrev DI (z : Z) (X : Cx) (tg iter : Expr) (f : En → R En (List D × En)) : Prop := PI X tg iter (tI X.K z f)
section
variable {X : Cx} {tg e : Expr} {es : List Expr} {z : Z}
theorem pi_weak {t t' : TI} (h : PI X tg e t) (i : ∀ σ H R, t' σ H R → t σ H R) : PI X tg e t' := ⟨fun pins s σ H R I q => h.run pins s σ H R I (i σ H R q)⟩
theorem itr_list {O : Addr → Prop} {H : Hp} {a : Addr} {xs : List V} {ds : List D} (l : LL K O H a xs) (r : AtAll K O H xs ds) : ItR K O H (Itl K a) ds := fun O' H1 m od => by
  have l1 := (LL.mv m l).1
  have r1 := AtAll.mv m r
  refine ⟨fun i hi => ?_, ⟨xs, l1, by rw [r.length]; exact Nat.le_refl _⟩, fun i x H2 d hd y => ?_⟩
  · obtain ⟨v, h1, _⟩ := r1.get (List.getElem?_eq_getElem hi)
    exact ⟨xs, v, l1, h1⟩
  · obtain ⟨rfl, y⟩ := y
    obtain ⟨v, h1, h2⟩ := r1.get hd
    rw [y xs l1] at h1
    cases h1
    exact ⟨fun _ _ q => q, h2⟩
theorem itr_tup {O : Addr → Prop} {H : Hp} {a : Addr} {xs : List V} {ds : List D} (l : LT K O H a xs) (r : AtAll K O H xs ds) : ItR K O H (Itt K a) ds := fun O' H1 m od => by
  have l1 := (LT.mv m l).1
  have r1 := AtAll.mv m r
  refine ⟨fun i hi => ?_, ⟨xs, l1, by rw [r.length]; exact Nat.le_refl _⟩, fun i x H2 d hd y => ?_⟩
  · obtain ⟨v, h1, _⟩ := r1.get (List.getElem?_eq_getElem hi)
    exact ⟨xs, v, l1, h1⟩
  · obtain ⟨rfl, y⟩ := y
    obtain ⟨v, h1, h2⟩ := r1.get hd
    rw [y xs l1] at h1
    cases h1
    exact ⟨fun _ _ q => q, h2⟩
def itemsD : D → Option (List D)
  | .list ds => some ds
  | .tuple ds => some ds
  | _ => none
def fItems (f : EF) : En → R En (List D × En) := fun env => (f env).bind fun p => (ofO (itemsD p.1)).bind fun ds => .ok (ds, p.2)
theorem di_seq {fr : Bool} {f : EF} (h : DE z X fr e f) : DI z X tg e (fItems f) := pi_weak (pi_seq h) fun σ H Rr ⟨B, env, I, hp⟩ =>
  ⟨B, env, I, (R.post_bind hp).imp (fun p hp v H1 I1 m1 a1 _ => by
    obtain ⟨ds, ed, hd⟩ := ofO_post (R.post_bind hp)
    obtain ⟨d, e'⟩ := p
    replace a1 : At X.K (B.O σ e') H1 v d := a1
    cases a1 with
    | lst l r => cases ed; exact .inl ⟨_, rfl, ⟨_, l.1⟩, hd _ H1 I1 m1 (itr_list l r)⟩
    | tup l r => cases ed; exact .inr ⟨_, rfl, ⟨_, l.1⟩, hd _ H1 I1 m1 (itr_tup l r)⟩
    | _ => cases ed) fun _ _ q => q⟩
def rangeL (lo : Int) (n : Nat) : List D := (List.range n).map fun i => .int (lo + (i : Nat))
theorem itr_range {O : Addr → Prop} {H : Hp} (lo : Int) (n : Nat) : ItR K O H (Itr lo n) (rangeL lo n) := fun O' H1 m od => by
  have hl : (rangeL lo n).length = n := by simp [rangeL]
  refine ⟨fun i hi => by rw [hl] at hi; exact hi, by rw [hl]; exact Nat.le_refl _, fun i x H2 d hd y => ?_⟩
  obtain ⟨rfl, rfl⟩ := y
  have hi : i < n := by
    have := (List.getElem?_eq_some_iff.mp hd).1
    rw [hl] at this
    exact this
  have : d = .int (lo + (i : Nat)) := by
    simp [rangeL, hi] at hd
    exact hd.symm
  subst this
  exact ⟨fun _ _ q => q, .int _⟩
def rangeD1 : List D → Option (List D)
  | [.int j] => if -(2 ^ 62) ≤ j ∧ j < 2 ^ 62 then some (rangeL 0 j.toNat) else none
  | _ => none
def rangeD2 : List D → Option (List D)
  | [.int i, .int j] => if -(2 ^ 62) ≤ i ∧ i < 2 ^ 62 ∧ -(2 ^ 62) ≤ j ∧ j < 2 ^ 62 then some (rangeL i (j - i).toNat) else none
  | _ => none
def fWalk (h : List D → Option (List D)) (g : En → R En (List D × En)) : En → R En (List D × En) := fun env => (g env).bind fun p => (ofO (h p.1)).bind fun ds => .ok (ds, p.2)
theorem di_range1 {a : Expr} {g : En → R En (List D × En)} {p pos : Pos} (hg : Gl X "range") (hm : X.mg "range" = none) (ha : DA z X [a] g) (hs : starEach [a] X.env = [(false, eval a X.env)] := by rfl) : DI z X tg (.Call (.Name "range" p) [a] [] pos) (fWalk rangeD1 g) :=
  pi_weak (pi_range1 hg hm ha hs) fun σ H Rr ⟨B, env, I, hp⟩ => ⟨B, env, I, (R.post_bind hp).imp (fun p hp vs H1 I1 m1 a1 => by
    obtain ⟨ds, ed, hd⟩ := ofO_post (R.post_bind hp)
    obtain ⟨l, e'⟩ := p
    replace a1 : AtAll X.K (B.O σ e') H1 vs l := a1
    dsimp only at ed
    unfold rangeD1 at ed
    split at ed
    · split at ed
      · rename_i hc
        cases ed
        obtain ⟨v, rfl, a⟩ := a1.one
        cases a
        exact ⟨_, rfl, hc.1, hc.2, hd _ H1 I1 m1 (itr_range 0 _)⟩
      · cases ed
    · cases ed) fun _ _ q => q⟩
theorem di_range2 {a b : Expr} {g : En → R En (List D × En)} {p pos : Pos} (hg : Gl X "range") (hm : X.mg "range" = none) (ha : DA z X [a, b] g) (hs : starEach [a, b] X.env = [(false, eval a X.env), (false, eval b X.env)] := by rfl) (hs2 : starEach [b] X.env = [(false, eval b X.env)] := by rfl) :
    DI z X tg (.Call (.Name "range" p) [a, b] [] pos) (fWalk rangeD2 g) :=
  pi_weak (pi_range2 hg hm ha hs hs2) fun σ H Rr ⟨B, env, I, hp⟩ => ⟨B, env, I, (R.post_bind hp).imp (fun p hp vs H1 I1 m1 a1 => by
    obtain ⟨ds, ed, hd⟩ := ofO_post (R.post_bind hp)
    obtain ⟨l, e'⟩ := p
    replace a1 : AtAll X.K (B.O σ e') H1 vs l := a1
    dsimp only at ed
    unfold rangeD2 at ed
    split at ed
    · split at ed
      · rename_i hc
        cases ed
        obtain ⟨v, u, rfl, a, b⟩ := a1.two
        cases a
        cases b
        exact ⟨_, _, rfl, hc, hd _ H1 I1 m1 (itr_range _ _)⟩
      · cases ed
    · cases ed) fun _ _ q => q⟩
/-- pairs with their numbers -/
def enumL (ds : List D) : List D := ds.zipIdx.map fun p => .tuple [.int (p.2 : Nat), p.1]
def enumD : List D → Option (List D)
  | [.list ds] => some (enumL ds)
  | [.tuple ds] => some (enumL ds)
  | _ => none
theorem enumL_get {ds : List D} {i : Nat} {d : D} (h : (enumL ds)[i]? = some d) : ∃ e, ds[i]? = some e ∧ d = .tuple [.int (i : Nat), e] := by
  simp only [enumL, List.getElem?_map, List.getElem?_zipIdx, Option.map_map, Option.map_eq_some_iff] at h
  obtain ⟨e, h1, h2⟩ := h
  refine ⟨e, h1, ?_⟩
  rw [← h2]
  simp
theorem enumL_length (ds : List D) : (enumL ds).length = ds.length := by simp [enumL]
theorem itr_enum {O : Addr → Prop} {H : Hp} {a : Addr} {xs : List V} {ds : List D} (l : LL K O H a xs) (r : AtAll K O H xs ds) : ItR K O H (Ite K a) (enumL ds) := fun O' H1 m od => by
  have l1 := (LL.mv m l).1
  have r1 := AtAll.mv m r
  rw [enumL_length]
  refine ⟨fun i hi => ?_, ⟨xs, l1, by rw [r.length]; exact Nat.le_refl _⟩, fun i x H2 d hd y => ?_⟩
  · obtain ⟨v, h1, _⟩ := r1.get (List.getElem?_eq_getElem hi)
    exact ⟨xs, v, l1, h1⟩
  · obtain ⟨T, y, rfl, hT, rfl, y1⟩ := y
    obtain ⟨e, he, rfl⟩ := enumL_get hd
    obtain ⟨v, h1, h2⟩ := r1.get he
    rw [y1 xs l1] at h1
    cases h1
    have rr := Res.tup (K := K) (fr := false) od hT (.cons (.int (i : Nat)) (.cons h2 .nil))
    exact ⟨rr.1, rr.2.1⟩
theorem itr_enumT {O : Addr → Prop} {H : Hp} {a : Addr} {xs : List V} {ds : List D} (l : LT K O H a xs) (r : AtAll K O H xs ds) : ItR K O H (IteT K a) (enumL ds) := fun O' H1 m od => by
  have l1 := (LT.mv m l).1
  have r1 := AtAll.mv m r
  rw [enumL_length]
  refine ⟨fun i hi => ?_, ⟨xs, l1, r.length⟩, fun i x H2 d hd y => ?_⟩
  · obtain ⟨v, h1, _⟩ := r1.get (List.getElem?_eq_getElem hi)
    exact ⟨xs, v, l1, h1⟩
  · obtain ⟨T, y, rfl, hT, rfl, y1⟩ := y
    obtain ⟨e, he, rfl⟩ := enumL_get hd
    obtain ⟨v, h1, h2⟩ := r1.get he
    rw [y1 xs l1] at h1
    cases h1
    have rr := Res.tup (K := K) (fr := false) od hT (.cons (.int (i : Nat)) (.cons h2 .nil))
    exact ⟨rr.1, rr.2.1⟩
theorem di_enum {a : Expr} {g : En → R En (List D × En)} {p pos tpos : Pos} {elts : List Expr} {kk : Nat} (hg : Gl X "enumerate") (hm : X.mg "enumerate" = none) (ha : DA z X [a] g) (hs : starEach [a] X.env = [(false, eval a X.env)] := by rfl) :
    DI z X (.Tuple elts kk tpos) (.Call (.Name "enumerate" p) [a] [] pos) (fWalk enumD g) :=
  pi_weak (pi_enumS hg hm ha hs) fun σ H Rr ⟨B, env, I, hp⟩ => ⟨B, env, I, (R.post_bind hp).imp (fun p hp vs H1 I1 m1 a1 => by
    obtain ⟨ds, ed, hd⟩ := ofO_post (R.post_bind hp)
    obtain ⟨l, e'⟩ := p
    replace a1 : AtAll X.K (B.O σ e') H1 vs l := a1
    dsimp only at ed
    unfold enumD at ed
    split at ed
    · cases ed
      obtain ⟨v, rfl, a⟩ := a1.one
      obtain ⟨p, ys, rfl, l, r⟩ := a.list_inv
      exact .inl ⟨p, ys, rfl, l.1, hd _ H1 I1 m1 (itr_enum l r)⟩
    · cases ed
      obtain ⟨v, rfl, a⟩ := a1.one
      obtain ⟨p, ys, rfl, l, r⟩ := a.tuple_inv
      exact .inr ⟨p, ys, rfl, l.1, hd _ H1 I1 m1 (itr_enumT l r)⟩
    · cases ed) fun _ _ q => q⟩
/-- zip of two lists -/
def zipL (ds es : List D) : List D := (ds.zip es).map fun p => .tuple [p.1, p.2]
def zipD : List D → Option (List D)
  | [.list ds, .list es] => some (zipL ds es)
  | _ => none
theorem zipL_get {ds es : List D} {i : Nat} {d : D} (h : (zipL ds es)[i]? = some d) : ∃ a b, ds[i]? = some a ∧ es[i]? = some b ∧ d = .tuple [a, b] := by
  simp only [zipL, List.getElem?_map, Option.map_eq_some_iff, List.getElem?_zip_eq_some] at h
  obtain ⟨⟨a, b⟩, ⟨h1, h2⟩, rfl⟩ := h
  exact ⟨a, b, h1, h2, rfl⟩
theorem zipL_length (ds es : List D) : (zipL ds es).length = min ds.length es.length := by simp [zipL]
theorem itr_zip {O : Addr → Prop} {H : Hp} {a b : Addr} {xs ys : List V} {ds es : List D} (l : LL K O H a xs) (r : AtAll K O H xs ds) (l' : LL K O H b ys) (r' : AtAll K O H ys es) : ItR K O H (Itz K a b) (zipL ds es) := fun O' H1 m od => by
  have l1 := (LL.mv m l).1
  have r1 := AtAll.mv m r
  have l2 := (LL.mv m l').1
  have r2 := AtAll.mv m r'
  rw [zipL_length]
  refine ⟨fun i hi => ?_, ⟨xs, ys, l1, l2, by rw [r.length, r'.length]; omega⟩, fun i x H2 d hd y => ?_⟩
  · obtain ⟨v, h1, _⟩ := r1.get (List.getElem?_eq_getElem (show i < ds.length by omega))
    obtain ⟨u, h2, _⟩ := r2.get (List.getElem?_eq_getElem (show i < es.length by omega))
    exact ⟨xs, ys, v, u, l1, l2, h1, h2⟩
  · obtain ⟨T, y, y', rfl, hT, rfl, y1, y2⟩ := y
    obtain ⟨e, e', he, he', rfl⟩ := zipL_get hd
    obtain ⟨v, h1, h2⟩ := r1.get he
    obtain ⟨u, h3, h4⟩ := r2.get he'
    rw [y1 xs l1] at h1
    cases h1
    rw [y2 ys l2] at h3
    cases h3
    have rr := Res.tup (K := K) (fr := false) od hT (.cons h2 (.cons h4 .nil))
    exact ⟨rr.1, rr.2.1⟩
theorem di_zip {a b : Expr} {g : En → R En (List D × En)} {p pos tpos : Pos} {elts : List Expr} {kk : Nat} (hg : Gl X "zip") (hm : X.mg "zip" = none) (ha : DA z X [a, b] g)
    (hs : starEach [a, b] X.env = (false, eval a X.env) :: starEach [b] X.env := by rfl) (hpl : (backTo pos (starEach [b] X.env)).any (·.1) = false := by rfl) :
    DI z X (.Tuple elts kk tpos) (.Call (.Name "zip" p) [a, b] [] pos) (fWalk zipD g) :=
  pi_weak (pi_zip hg hm ha hs hpl) fun σ H Rr ⟨B, env, I, hp⟩ => ⟨B, env, I, (R.post_bind hp).imp (fun p hp vs H1 I1 m1 a1 => by
    obtain ⟨ds, ed, hd⟩ := ofO_post (R.post_bind hp)
    obtain ⟨l, e'⟩ := p
    replace a1 : AtAll X.K (B.O σ e') H1 vs l := a1
    dsimp only at ed
    unfold zipD at ed
    split at ed
    · cases ed
      obtain ⟨v, u, rfl, a, b⟩ := a1.two
      obtain ⟨p, ys, rfl, l, r⟩ := a.list_inv
      obtain ⟨p', ys', rfl, l', r'⟩ := b.list_inv
      exact ⟨p, p', ys, ys', rfl, l.1, l'.1, hd _ H1 I1 m1 (itr_zip l r l' r')⟩
    · cases ed) fun _ _ q => q⟩
end
end DL
namespace DL
open PySem PySem.Spec PyProof.Rows L2
variable {K : PySem.W.Frag}
/-! ### targets -/
theorem wipe_get (σ : Sg) (j : Nat) : ∀ vs : List Nat, (wipe σ vs)[j]? = if j ∈ vs then σ[j]?.map fun _ => none else σ[j]?
  | [] => by simp [wipe]
  | v :: vs => by
    unfold wipe
    have ih := wipe_get σ j vs
    by_cases e : v = j
    · subst e
      simp only [List.mem_cons, true_or, if_true]
      by_cases hl : v < σ.length
      · rw [List.getElem?_set_self (by rw [wipe_length]; exact hl), List.getElem?_eq_getElem hl]
        rfl
      · rw [List.getElem?_eq_none (by simpa [wipe_length] using hl), List.getElem?_eq_none (by simpa using hl)]
        rfl
    · rw [List.getElem?_set_ne e, ih]
      have : (j ∈ v :: vs) ↔ j ∈ vs := by simp [Ne.symm e]
      simp only [this]
theorem wipe_set {σ : Sg} {i : Nat} {x : Option V} {vs : List Nat} (h : i ∈ vs) : wipe (σ.set i x) vs = wipe σ vs := by
  apply List.ext_getElem?
  intro j
  rw [wipe_get, wipe_get]
  by_cases e : i = j
  · subst e
    simp only [h, if_true]
    by_cases hl : i < σ.length
    · rw [List.getElem?_set_self hl, List.getElem?_eq_getElem hl]; rfl
    · rw [List.getElem?_eq_none (by simpa using hl), List.getElem?_eq_none (by simpa using hl)]
  · rw [List.getElem?_set_ne e]
abbrev TF := D → En → Option En
abbrev TFs := List D → En → Option En
def tG (K : PySem.W.Frag) (z : Z) (ws : List Nat) (T : TF) : TG := fun v σ H Q => ∃ (B : Bs) (env : En) (d : D) (env' : En), SR K z.np B σ H env ∧ At K (B.O σ env) H v d ∧ T d env = some env' ∧
  ∀ σ', SR K z.np B σ' H env' → Mv (B.O σ env) (B.O σ' env') H H → (∀ vs : List Nat, (∀ w ∈ ws, w ∈ vs) → wipe σ' vs = wipe σ vs) → Q σ' H
def tGs (K : PySem.W.Frag) (z : Z) (ws : List Nat) (T : TFs) : TGs := fun us σ H Q => ∃ (B : Bs) (env : En) (ds : List D) (env' : En), SR K z.np B σ H env ∧ AtAll K (B.O σ env) H us ds ∧ T ds env = some env' ∧
  ∀ σ', SR K z.np B σ' H env' → Mv (B.O σ env) (B.O σ' env') H H → (∀ vs : List Nat, (∀ w ∈ ws, w ∈ vs) → wipe σ' vs = wipe σ vs) → Q σ' H
abbrev DG (z : Z) (X : Cx) (e : Expr) (ws : List Nat) (T : TF) : Prop := PG X e (tG X.K z ws T)
abbrev DGs (z : Z) (X : Cx) (es : List Expr) (ws : List Nat) (T : TFs) : Prop := PGs X es (tGs X.K z ws T)
section
variable {X : Cx} {e : Expr} {es : List Expr} {z : Z}
theorem pg_weak {t t' : TG} (h : PG X e t) (i : ∀ v σ H Q, t' v σ H Q → t v σ H Q) : PG X e t' := ⟨fun pins s σ H v u Q I r q => h.run pins s σ H v u Q I r (i v σ H Q q)⟩
theorem pgs_weak {t t' : TGs} (h : PGs X es t) (i : ∀ v σ H Q, t' v σ H Q → t v σ H Q) : PGs X es t' := ⟨fun pins s σ H v u Q I r q => h.run pins s σ H v u Q I r (i v σ H Q q)⟩
def tN (i : Nat) : TF := fun d env => some (env.set i (some (.im d)))
theorem dg_name {i : Nat} (h : PG X e (gName i)) (hi : i ∉ z.np) : DG z X e [i] (tN i) := pg_weak h fun v σ H Q ⟨B, env, d, env', I, a, ht, q⟩ => by
  cases ht
  obtain ⟨I', m⟩ := I.setIm hi a
  exact q _ I' m fun vs hv => wipe_set (hv i (by simp))
def tsNil : TFs := fun ds env => match ds with
  | [] => some env
  | _ => none
def tsCons (t : TF) (u : TFs) : TFs := fun ds env => match ds with
  | d :: r => (t d env).bind fun e => u r e
  | [] => none
theorem dgs_nil : DGs z X [] [] tsNil := pgs_weak pgs_nil fun v σ H Q ⟨B, env, ds, env', I, a, ht, q⟩ => by
  cases a with
  | nil => cases ht; exact ⟨rfl, q σ I .refl fun _ _ => rfl⟩
  | cons _ _ => cases ht
theorem dgs_cons {ws ws' : List Nat} {t : TF} {u : TFs} (h1 : DG z X e ws t) (h2 : DGs z X es ws' u) (ha : (assignEach (e :: es) X.env).map (·.2) = assign e X.env :: (assignEach es X.env).map (·.2) := by rfl) : DGs z X (e :: es) (ws ++ ws') (tsCons t u) := by
  refine pgs_weak (pgs_cons h1 h2 ha) fun v σ H Q ⟨B, env, ds, env', I, a, ht, q⟩ => ?_
  cases a with
  | nil => cases ht
  | cons a r =>
    simp only [tsCons, Option.bind_eq_some_iff] at ht
    obtain ⟨e1, h1, h2⟩ := ht
    refine ⟨_, _, rfl, B, env, _, e1, I, a, h1, fun σ1 I1 m1 w1 => ?_⟩
    exact ⟨B, e1, _, env', I1, AtAll.mv m1 r, h2, fun σ2 I2 m2 w2 => q σ2 I2 (m1.trans m2) fun vs hv =>
      (w2 vs fun w hw => hv w (List.mem_append_right _ hw)).trans (w1 vs fun w hw => hv w (List.mem_append_left _ hw))⟩
def tTuple (n : Nat) (u : TFs) : TF := fun d env => match d with
  | .tuple ds => if ds.length = n then u ds env else none
  | _ => none
theorem dg_tup {k n : Nat} {ws : List Nat} {u : TFs} {pos : Pos} (hc : X.calm = true) (h : DGs z X es ws u) (hn : (assignEach es X.env).length = n := by rfl) (hst : (assignEach es X.env).findIdx? (·.1) = none := by rfl) : DG z X (.Tuple es k pos) ws (tTuple n u) :=
  pg_weak (pg_tup hc h hn hst) fun v σ H Q ⟨B, env, d, env', I, a, ht, q⟩ => by
    cases a with
    | tup l r =>
      simp only [tTuple] at ht
      split at ht
      · rename_i hl
        exact ⟨_, _, rfl, l.1, by rw [r.length]; exact hl, B, env, _, env', I, r, ht, q⟩
      · cases ht
    | _ => cases ht
end
/-! ### comprehensions -/
def wipeE (env : En) : List Nat → En
  | [] => env
  | v :: vs => (wipeE env vs).set v none
theorem wipeE_length (env : En) : ∀ vs : List Nat, (wipeE env vs).length = env.length
  | [] => rfl
  | v :: vs => by unfold wipeE; rw [List.length_set, wipeE_length env vs]
theorem wipeE_some {env : En} {j : Nat} {s : Sl} : ∀ {vs : List Nat}, (wipeE env vs)[j]? = some (some s) → j ∉ vs ∧ env[j]? = some (some s)
  | [], h => ⟨by simp, h⟩
  | v :: vs, h => by
    unfold wipeE at h
    rcases getElem?_set_some h with ⟨_, e⟩ | ⟨e, h⟩
    · cases e
    · obtain ⟨h1, h2⟩ := wipeE_some h
      exact ⟨by simp [e, h1], h2⟩
theorem wipeE_out {env : En} {j : Nat} : ∀ {vs : List Nat}, j ∉ vs → (wipeE env vs)[j]? = env[j]?
  | [], _ => rfl
  | v :: vs, h => by
    simp only [List.mem_cons, not_or] at h
    unfold wipeE
    rw [List.getElem?_set_ne (Ne.symm h.1), wipeE_out h.2]
/-- the slots vs again as they were -/
def restE (env0 env1 : En) : List Nat → En
  | [] => env1
  | v :: vs => (restE env0 env1 vs).set v (env0[v]?.getD none)
theorem restE_length (env0 env1 : En) : ∀ vs : List Nat, (restE env0 env1 vs).length = env1.length
  | [] => rfl
  | v :: vs => by unfold restE; rw [List.length_set, restE_length env0 env1 vs]
theorem restE_some {env0 env1 : En} {j : Nat} {s : Sl} : ∀ {vs : List Nat}, (restE env0 env1 vs)[j]? = some (some s) → (j ∈ vs ∧ env0[j]? = some (some s)) ∨ (j ∉ vs ∧ env1[j]? = some (some s))
  | [], h => .inr ⟨by simp, h⟩
  | v :: vs, h => by
    unfold restE at h
    rcases getElem?_set_some h with ⟨e1, e⟩ | ⟨e, h⟩
    · subst e1
      refine .inl ⟨by simp, ?_⟩
      cases q : env0[j]? with
      | none => rw [q] at e; cases e
      | some x => rw [q] at e; rw [e]; rfl
    · rcases restE_some h with ⟨h1, h2⟩ | ⟨h1, h2⟩
      · exact .inl ⟨by simp [h1], h2⟩
      · exact .inr ⟨by simp [e, h1], h2⟩
theorem restE_out {env0 env1 : En} {j : Nat} : ∀ {vs : List Nat}, j ∉ vs → (restE env0 env1 vs)[j]? = env1[j]?
  | [], _ => rfl
  | v :: vs, h => by
    simp only [List.mem_cons, not_or] at h
    unfold restE
    rw [List.getElem?_set_ne (Ne.symm h.1), restE_out h.2]
def okVs (env : En) (vs : List Nat) : Bool := vs.all fun i => match env[i]? with
  | some (some s) => !s.own
  | _ => true
theorem okVs_not {env : En} {vs : List Nat} {i : Nat} {s : Sl} (h : okVs env vs = true) (hi : i ∈ vs) (he : env[i]? = some (some s)) : s.own = false := by
  have := List.all_eq_true.mp h i hi
  rw [he] at this
  simpa using this
/-- with a list that is being made -/
def Bs.at (B : Bs) (D : Addr) (acc : List V) : Bs := { B with O0 := plus B.O0 D, kp := fun a => if a = D then some (.lst acc) else B.kp a }
theorem Bs.at_O {B : Bs} {D : Addr} {acc : List V} {σ : Sg} {env : En} {a : Addr} : (B.at D acc).O σ env a ↔ plus (B.O σ env) D a := by
  constructor
  · rintro ((h | h) | h)
    · exact .inl (.inl h)
    · exact .inr h
    · exact .inl (.inr h)
  · rintro ((h | h) | h)
    · exact .inl (.inl h)
    · exact .inr h
    · exact .inl (.inr h)
/-- none of the names is one that stays -/
def npFree (np vs : List Nat) : Bool := vs.all fun i => !np.contains i
theorem npFree_not {np vs : List Nat} (h : npFree np vs = true) : ∀ i ∈ vs, i ∉ np := fun i hi hn => by
  have := List.all_eq_true.mp h i hi
  rw [List.contains_iff_mem.mpr hn] at this
  cases this
section
variable {np : List Nat} {B : Bs} {σ : Sg} {H H' : Hp} {env env' : En} {vs : List Nat}
theorem SR.wiped (I : SR K np B σ H env) (hv : okVs env vs = true) (hvn : ∀ i ∈ vs, i ∉ np) : SR K np B (wipe σ vs) H (wipeE env vs) ∧ (∀ i a, ownedAt (wipe σ vs) (wipeE env vs) i a ↔ ownedAt σ env i a) := by
  have ow : ∀ i a, ownedAt (wipe σ vs) (wipeE env vs) i a ↔ ownedAt σ env i a := fun i a => by
    constructor
    · rintro ⟨s, h1, h2, h3⟩
      obtain ⟨n, h1⟩ := wipeE_some h1
      exact ⟨s, h1, h2, (wipe_some h3).1⟩
    · rintro ⟨s, h1, h2, h3⟩
      have n : i ∉ vs := fun z => by rw [okVs_not hv z h1] at h2; cases h2
      exact ⟨s, by rw [wipeE_out n]; exact h1, h2, by rw [wipe_get, if_neg n]; exact h3⟩
  have eO : ∀ a, B.O (wipe σ vs) (wipeE env vs) a ↔ B.O σ env a := fun a => ⟨fun z => z.elim .inl fun ⟨j, q⟩ => .inr ⟨j, (ow j a).1 q⟩, fun z => z.elim .inl fun ⟨j, q⟩ => .inr ⟨j, (ow j a).2 q⟩⟩
  refine ⟨⟨by rw [wipe_length, wipeE_length]; exact I.len, fun i s h => ?_, fun i j a h1 h2 => I.dist i j a ((ow i a).1 h1) ((ow j a).1 h2), I.keep, I.dom, fun i a h => I.new i a ((ow i a).1 h), I.o0, I.kept, fun i a h => I.kpo i a ((ow i a).1 h), fun i a h => I.own0 i a ((ow i a).1 h), fun p hp => let ⟨h1, h2, h3⟩ := I.par p hp; ⟨(ow _ _).2 h1, h2, h3⟩, fun p hp => let ⟨h1, h2⟩ := I.fix p hp; ⟨by rw [wipe_get, if_neg (fun z => hvn _ z h2)]; exact h1, h2⟩⟩, ow⟩
  obtain ⟨n, h⟩ := wipeE_some h
  obtain ⟨v, e, q⟩ := I.slot i s h
  exact ⟨v, by rw [wipe_get, if_neg n]; exact e, q.mv (Mv.less fun a z => (eO a).1 z) (fun a ea ho => (eO a).2 (.inr ⟨i, s, h, ho, ea ▸ e⟩)) fun _ _ _ _ z => z⟩
theorem SR.at (I : SR K np B σ H env) {D : Addr} {xs : List V} (hD : H D = none) : SR K np (B.at D xs) σ (upd H D (.lst xs)) env where
  len := I.len
  slot := fun i s h => by
    obtain ⟨v, e, q⟩ := I.slot i s h
    exact ⟨v, e, (q.mv (Mv.new hD) (fun a ea ho => .inl (.inr ⟨i, s, h, ho, ea ▸ e⟩)) fun a o _ _ z => Ex.new hD a o z).mv (Mv.less fun a z => Bs.at_O.1 z) (fun a ea ho => .inr ⟨i, s, h, ho, ea ▸ e⟩) fun _ _ _ _ z => z⟩
  dist := I.dist
  keep := fun a o h n => Ex.new hD a o (I.keep a o h n)
  dom := fun a h => I.dom a (Ex.dom (Ex.new hD) a h)
  new := I.new
  o0 := fun a h => by
    rcases h with h | h
    · exact ⟨fun z => (I.o0 a h).1 (Ex.dom (Ex.new hD) a z), (I.o0 a h).2⟩
    · subst h
      refine ⟨by rw [upd_same]; simp, fun p hp z => ?_⟩
      obtain ⟨h1, _⟩ := I.par p hp
      obtain ⟨o, h2⟩ := I.odom p.2 (.inr ⟨_, h1⟩)
      rw [z, hD] at h2; cases h2
  kept := fun a o h => by
    have h' : (if a = D then some (.lst xs) else B.kp a) = some o := h
    split at h'
    · rename_i e; subst e; rw [upd_same]; exact h'
    · exact Ex.new hD a o (I.kept a o h')
  kpo := fun i a h => by
    show (if a = D then some (.lst xs) else B.kp a) = none
    rw [if_neg]
    · exact I.kpo i a h
    · rintro rfl
      obtain ⟨o, h2⟩ := I.odom a (.inr ⟨i, h⟩)
      rw [hD] at h2; cases h2
  own0 := fun i a h w => by
    rcases w with w | w
    · exact I.own0 i a h w
    · obtain ⟨o, h2⟩ := I.odom a (.inr ⟨i, h⟩)
      rw [w, hD] at h2; cases h2
  par := I.par
  fix := I.fix
/-- the list that is made grows -/
theorem SR.at_app {D : Addr} {acc acc' : List V} (I : SR K np (B.at D acc) σ H env) (hD0 : B.H0 D = none) : SR K np (B.at D acc') σ (upd H D (.lst acc')) env ∧ Mv ((B.at D acc).O σ env) ((B.at D acc').O σ env) H (upd H D (.lst acc')) := by
  have hD : H D = some (.lst acc) := I.kept D _ (by show (if D = D then _ else _) = _; rw [if_pos rfl])
  have oD : (B.at D acc).O σ env D := .inl (.inr rfl)
  have nD : ∀ i a, ownedAt σ env i a → a ≠ D := fun i a h z => by
    have := I.kpo i a h
    rw [z] at this
    have e : (if D = D then some (HO.lst acc) else B.kp D) = none := this
    rw [if_pos rfl] at e; cases e
  have m : Mv ((B.at D acc).O σ env) ((B.at D acc').O σ env) H (upd H D (.lst acc')) := ⟨fun a o e n => by
      rw [upd_ne (show a ≠ D from fun z => n (z ▸ oD))]; exact e, fun a z => .inl z, fun a e => by
      by_cases z : a = D
      · rw [z, upd_same] at e; cases e
      · rw [upd_ne z] at e; exact e⟩
  refine ⟨⟨I.len, fun i s h => ?_, I.dist, fun a o h n => ?_, fun a e => I.dom a (m.dom a e), I.new, fun a h => ⟨fun z => (I.o0 a h).1 (m.dom a z), (I.o0 a h).2⟩, fun a o h => ?_, fun i a h => ?_, I.own0, I.par, I.fix⟩, m⟩
  · obtain ⟨v, e, q⟩ := I.slot i s h
    exact ⟨v, e, q.mv m (fun a ea ho => .inr ⟨i, s, h, ho, ea ▸ e⟩) fun a o ea ho z => by rw [upd_ne (nD i a ⟨s, h, ho, ea ▸ e⟩)]; exact z⟩
  · by_cases z : a = D
    · subst z
      have h' : B.H0 a = some o := h
      rw [hD0] at h'; cases h'
    · rw [upd_ne z]; exact I.keep a o h n
  · have h' : (if a = D then some (.lst acc') else B.kp a) = some o := h
    split at h'
    · rename_i z; subst z; rw [upd_same]; exact h'
    · rename_i z
      rw [upd_ne z]
      exact I.kept a o (by show (if a = D then _ else _) = _; rw [if_neg z]; exact h')
  · show (if a = D then some (.lst acc') else B.kp a) = none
    rw [if_neg (nD i a h)]
    have : (if a = D then some (HO.lst acc) else B.kp a) = none := I.kpo i a h
    rw [if_neg (nD i a h)] at this
    exact this
end
def R.calm {S α : Type} : R S α → R S α
  | .ok a => .ok a
  | _ => .stuck
theorem R.post_calm {S α β : Type} {p : β → Prop} {q : Exn → S → Prop} {r : R S α} {f : α → R S β} (h : (r.calm.bind f).post p q) : r.post (fun a => (f a).post p q) fun _ _ => False := by
  cases r with
  | stuck => exact h
  | ok a => exact h
  | err x s => exact h
/-- the turns of a comprehension -/
def compF (T : TF) (t : En → R En (Bool × En)) (f : EF) (vs : List Nat) : List D → List D → En → R En (List D × En)
  | [], acc, env => .ok (acc, env)
  | d :: ds, acc, env => (ofO (T d env)).bind fun e1 => (t e1).calm.bind fun b => if b.1 = true then
      (f b.2).calm.bind fun r => if acc.length < sizeLine ∧ okVs r.2 vs = true then compF T t f vs ds (acc ++ [r.1]) (wipeE r.2 vs) else .stuck
      else if okVs b.2 vs = true then compF T t f vs ds acc (wipeE b.2 vs) else .stuck
def fLc (g : En → R En (List D × En)) (T : TF) (t : En → R En (Bool × En)) (f : EF) (vs : List Nat) : EF := fun env => (g env).bind fun p => if okVs p.2 vs = true then
  (compF T t f vs p.1 [] (wipeE p.2 vs)).bind fun q => .ok (.list q.1, restE p.2 q.2 vs) else .stuck
def Z.quiet (z : Z) : Z := { z with W := fun _ _ _ _ => False }
theorem wipe_wipe (σ : Sg) (vs : List Nat) : wipe (wipe σ vs) vs = wipe σ vs := by
  apply List.ext_getElem?
  intro j
  rw [wipe_get, wipe_get]
  split
  · cases σ[j]? <;> rfl
  · rfl
theorem Mv.at_less {B : Bs} {σ σ' : Sg} {H : Hp} {env env' : En} {D : Addr} {acc acc' : List V} (h : ∀ i a, ownedAt σ' env' i a → ownedAt σ env i a) : Mv ((B.at D acc).O σ env) ((B.at D acc').O σ' env') H H :=
  Mv.less fun a z => z.elim .inl fun ⟨i, q⟩ => .inr ⟨i, h i a q⟩
section
variable {X : Cx} {z : Z} {B : Bs} {σ : Sg} {H : Hp} {env : En} {Q : VK}
/-- the end of a comprehension -/
theorem lc_end {Dd : Addr} {H1 Hh : Hp} {e1 ei : En} {vs : List Nat} {acc : List V} {rs : List D} (I : SR K z.np B σ H env) (I1 : SR K z.np B σ H1 e1) (m1 : Mv (B.O σ env) (B.O σ e1) H H1) (hv : okVs e1 vs = true) (hvn : ∀ i ∈ vs, i ∉ z.np) (hD : H1 Dd = none)
    (J : SR K z.np (B.at Dd acc) (wipe σ vs) Hh ei) (a : AtAll K ((B.at Dd acc).O (wipe σ vs) ei) Hh acc rs) (m : Mv (B.O σ e1) ((B.at Dd acc).O (wipe σ vs) ei) H1 Hh) (h : EP1 K z true B σ H env Q (.list rs, restE e1 ei vs)) : Q (.ref Dd) Hh := by
  have hk : Hh Dd = some (.lst acc) := J.kept Dd _ (by show (if Dd = Dd then _ else _) = _; rw [if_pos rfl])
  have nin : ∀ {j : Nat} {s : Sl}, ei[j]? = some (some s) → j ∉ vs := fun {j s} e hj => by
    obtain ⟨v, h1, _⟩ := J.slot j s e
    rw [wipe_get, if_pos hj] at h1
    cases q : σ[j]? with
    | none => rw [q] at h1; cases h1
    | some o => rw [q] at h1; cases h1
  have wo : ∀ {i : Nat} {b : Addr}, ownedAt σ (restE e1 ei vs) i b → ownedAt (wipe σ vs) ei i b := fun {i b} ⟨s, h1, h2, h3⟩ => by
    rcases restE_some h1 with ⟨q1, q2⟩ | ⟨q1, q2⟩
    · rw [okVs_not hv q1 q2] at h2; cases h2
    · exact ⟨s, q2, h2, by rw [wipe_get, if_neg q1]; exact h3⟩
  have ow : ∀ {i : Nat} {b : Addr}, ownedAt (wipe σ vs) ei i b → ownedAt σ (restE e1 ei vs) i b := fun {i b} ⟨s, h1, h2, h3⟩ => by
    have n := nin h1
    exact ⟨s, by rw [restE_out n]; exact h1, h2, (wipe_some h3).1⟩
  have less : ∀ b, B.O σ (restE e1 ei vs) b → (B.at Dd acc).O (wipe σ vs) ei b := fun b z => z.elim (fun z => .inl (.inl z)) fun ⟨i, q⟩ => .inr ⟨i, wo q⟩
  have less' : ∀ b, plus (B.O σ (restE e1 ei vs)) Dd b → (B.at Dd acc).O (wipe σ vs) ei b := fun b z => z.elim (less b) fun z => .inl (.inr z)
  have nOD : ¬ B.O σ (restE e1 ei vs) Dd := fun z => by
    rcases z with z | ⟨i, q⟩
    · exact (I1.o0 Dd z).1 hD
    · have := J.kpo i Dd (wo q)
      have e : (if Dd = Dd then some (HO.lst acc) else B.kp Dd) = none := this
      rw [if_pos rfl] at e; cases e
  have slot' : ∀ (O : Addr → Prop), (∀ b, O b → (B.at Dd acc).O (wipe σ vs) ei b) → (∀ b, (∃ i, ownedAt σ (restE e1 ei vs) i b) → O b) → Clean K O σ Hh (restE e1 ei vs) := fun O h1 h2 i s hs => by
    rcases restE_some hs with ⟨q1, q2⟩ | ⟨q1, q2⟩
    · have hno := okVs_not hv q1 q2
      obtain ⟨v, e, q⟩ := I1.slot i s q2
      cases s with
      | im d => exact ⟨v, e, At.mv (Mv.less h1) (At.mv m q)⟩
      | _ => cases hno
    · obtain ⟨v, e, q⟩ := J.slot i s q2
      have e2 := (wipe_some e).1
      exact ⟨v, e2, q.mv (Mv.less h1) (fun b eb ho => h2 b ⟨i, s, hs, ho, eb ▸ e2⟩) fun _ _ _ _ z => z⟩
  have R : SR K z.np B σ Hh (restE e1 ei vs) := by
    refine ⟨?_, slot' _ less fun b h => .inr h, fun i j b h1 h2 => J.dist i j b (wo h1) (wo h2), J.keep, J.dom, fun i b h => J.new i b (wo h), fun b h => J.o0 b (.inl h), fun b o h => ?_, fun i b h => ?_, fun i b h w => J.own0 i b (wo h) (.inl w), fun p hp => ?_, fun p hp => let ⟨h1, h2⟩ := J.fix p hp; ⟨(wipe_some h1).1, h2⟩⟩
    · rw [restE_length, ← J.len, wipe_length]
    · by_cases e : b = Dd
      · subst e
        have := I1.kept b o h
        rw [hD] at this; cases this
      · exact J.kept b o (by show (if b = Dd then _ else _) = _; rw [if_neg e]; exact h)
    · have q := J.kpo i b (wo h)
      have q : (if b = Dd then some (HO.lst acc) else B.kp b) = none := q
      split at q
      · cases q
      · exact q
    · obtain ⟨h1, h2, h3⟩ := J.par p hp
      exact ⟨ow h1, h2, h3⟩
  have mm : Mv (B.O σ env) (B.O σ (restE e1 ei vs)) H Hh := (m1.trans m).trans (Mv.less less)
  refine h (.ref Dd) Hh R mm (.lst ⟨.inl (.inl hk), fun z => absurd z nOD⟩ (AtAll.mv (Mv.less less) a)) fun _ ds e => ?_
  cases e
  exact ⟨Dd, acc, rfl, m1.dom Dd hD, nOD, hk, AtAll.mv (Mv.less less') a, slot' _ less' fun b h => .inl (.inr h)⟩
theorem lc_core' {J0 : It} {T : TF} {t : En → R En (Bool × En)} {f : EF} {ws vs : List Nat} {fr : Bool} {ds : List D} {H1 : Hp} {e1 : En} {Dd : Addr} (I : SR K z.np B σ H env) (I1 : SR K z.np B σ H1 e1) (m1 : Mv (B.O σ env) (B.O σ e1) H H1) (hJ : ItR K (B.O σ e1) H1 J0 ds)
    (hv : okVs e1 vs = true) (hvn : ∀ i ∈ vs, i ∉ z.np) (hD : H1 Dd = none) (hw : ∀ w ∈ ws, w ∈ vs) (hp : (compF T t f vs ds [] (wipeE e1 vs)).post (fun q => EP1 K z true B σ H env Q (.list q.1, restE e1 q.2 vs)) (XP K z B σ H env)) :
    ∃ W : Nat → Nat → Hp → Prop, (∃ m, W 0 m (upd H1 Dd (.lst []))) ∧ ∀ i m H, W i m H →
      (J0.stop i H ∧ Q (.ref Dd) H) ∨ (J0.go i H ∧ ∃ Nx : Hp → Prop, (∀ H', Nx H' → ∃ m', m' < m ∧ W (i + 1) m' H') ∧ ∀ x H', J0.yld i H x H' → tG K z.quiet ws T x (wipe σ vs) H' fun σ2 H2 => wipe σ2 vs = wipe σ vs ∧ tT K z.quiet t σ2 H2 fun b H3 =>
        if b = true then tE K z.quiet fr f σ2 H3 fun y H4 => ∃ acc, H4 Dd = some (.lst acc) ∧ acc.length < sizeLine ∧ Nx (upd H4 Dd (.lst (acc ++ [y]))) else Nx H3) := by
  obtain ⟨Iw, eow⟩ := I1.wiped hv hvn
  have hD0 : B.H0 Dd = none := I1.dom Dd hD
  have J1 := Iw.at (xs := []) hD
  have m2 : Mv (B.O σ e1) ((B.at Dd []).O (wipe σ vs) (wipeE e1 vs)) H1 (upd H1 Dd (.lst [])) := (Mv.new hD).trans (Mv.less fun a z => by
    rcases Bs.at_O.1 z with z | z
    · exact .inl (z.elim .inl fun ⟨i, q⟩ => .inr ⟨i, (eow i a).1 q⟩)
    · exact .inr z)
  refine ⟨fun i m Hh => ∃ acc rs ei, m = ds.length - i ∧ i ≤ ds.length ∧ SR K z.np (B.at Dd acc) (wipe σ vs) Hh ei ∧ AtAll K ((B.at Dd acc).O (wipe σ vs) ei) Hh acc rs ∧ Mv (B.O σ e1) ((B.at Dd acc).O (wipe σ vs) ei) H1 Hh ∧
    (compF T t f vs (ds.drop i) rs ei).post (fun q => EP1 K z true B σ H env Q (.list q.1, restE e1 q.2 vs)) (XP K z B σ H env), ⟨ds.length, [], [], wipeE e1 vs, by simp, Nat.zero_le _, J1, .nil, m2, hp⟩, ?_⟩
  rintro i m Hh ⟨acc, rs, ei, rfl, hi, J, a, mm, hc⟩
  obtain ⟨g1, g2, g3⟩ := hJ _ Hh mm J.od
  by_cases hlt : i < ds.length
  · refine .inr ⟨g1 i hlt, fun H' => ∃ acc rs ei, SR K z.np (B.at Dd acc) (wipe σ vs) H' ei ∧ AtAll K ((B.at Dd acc).O (wipe σ vs) ei) H' acc rs ∧ Mv (B.O σ e1) ((B.at Dd acc).O (wipe σ vs) ei) H1 H' ∧
      (compF T t f vs (ds.drop (i + 1)) rs ei).post (fun q => EP1 K z true B σ H env Q (.list q.1, restE e1 q.2 vs)) (XP K z B σ H env), fun H' ⟨acc, rs, ei, q⟩ => ⟨ds.length - (i + 1), by omega, acc, rs, ei, rfl, hlt, q⟩, fun x H' y => ?_⟩
    have hd : ds[i]? = some ds[i] := List.getElem?_eq_getElem hlt
    obtain ⟨ex, ax⟩ := g3 i x H' _ hd y
    rw [List.drop_eq_getElem_cons hlt] at hc
    unfold compF at hc
    obtain ⟨e2, hT, hc⟩ := ofO_post (R.post_bind hc)
    refine ⟨B.at Dd acc, ei, ds[i], e2, J.ex ex, ax, hT, fun σ2 J2 mt wt => ⟨(wt vs hw).trans (wipe_wipe σ vs), ?_⟩⟩
    have ew : wipe σ2 vs = wipe σ vs := (wt vs hw).trans (wipe_wipe σ vs)
    refine ⟨B.at Dd acc, e2, J2, (R.post_calm hc).imp (fun b hb H3 J3 m3 => ?_) fun _ _ q => q.elim⟩
    obtain ⟨b, e3⟩ := b
    cases b with
    | true =>
      rw [if_pos rfl]
      simp only [if_true] at hb
      refine ⟨B.at Dd acc, e3, J3, (R.post_calm hb).imp (fun r hr v H4 J4 m4 a4 _ => ?_) fun _ _ q => q.elim⟩
      split at hr
      · rename_i hcond
        obtain ⟨J5, m5⟩ := J4.at_app (acc' := acc ++ [v]) hD0
        obtain ⟨J6, ow6⟩ := J5.wiped hcond.2 hvn
        rw [ew] at J6 ow6
        have m6 : Mv ((B.at Dd (acc ++ [v])).O σ2 r.2) ((B.at Dd (acc ++ [v])).O (wipe σ vs) (wipeE r.2 vs)) (upd H4 Dd (.lst (acc ++ [v]))) (upd H4 Dd (.lst (acc ++ [v]))) := Mv.at_less fun i a q => (ow6 i a).1 q
        have mall : Mv ((B.at Dd acc).O (wipe σ vs) ei) ((B.at Dd (acc ++ [v])).O (wipe σ vs) (wipeE r.2 vs)) Hh (upd H4 Dd (.lst (acc ++ [v]))) := (((((Mv.ex ex).trans mt).trans m3).trans m4).trans m5).trans m6
        have hlen : acc.length = rs.length := a.length
        exact ⟨acc, J4.kept Dd _ (by show (if Dd = Dd then _ else _) = _; rw [if_pos rfl]), by rw [hlen]; exact hcond.1, acc ++ [v], rs ++ [r.1], _, J6, (AtAll.mv mall a).append (.cons (At.mv (m5.trans m6) a4) .nil), mm.trans mall, hr⟩
      · exact hr.elim
    | false =>
      rw [if_neg Bool.false_ne_true]
      simp only [Bool.false_eq_true, if_false] at hb
      split at hb
      · rename_i hcond
        obtain ⟨J6, ow6⟩ := J3.wiped hcond hvn
        rw [ew] at J6 ow6
        have m6 : Mv ((B.at Dd acc).O σ2 e3) ((B.at Dd acc).O (wipe σ vs) (wipeE e3 vs)) H3 H3 := Mv.at_less fun i a q => (ow6 i a).1 q
        have mall : Mv ((B.at Dd acc).O (wipe σ vs) ei) ((B.at Dd acc).O (wipe σ vs) (wipeE e3 vs)) Hh H3 := (((Mv.ex ex).trans mt).trans m3).trans m6
        exact ⟨acc, rs, _, J6, AtAll.mv mall a, mm.trans mall, hb⟩
      · exact hb.elim
  · have e : i = ds.length := by omega
    subst e
    rw [List.drop_length] at hc
    unfold compF at hc
    exact .inl ⟨g2, lc_end I I1 m1 hv hvn hD J a mm hc⟩
theorem de_lc {elt tg iter : Expr} {ifs : List Expr} {scope : Scope} {own : List (Str × Nat)} {pos : Pos} {gw : En → R En (List D × En)} {T : TF} {t : En → R En (Bool × En)} {f : EF} {ws : List Nat} {fr : Bool} (hc : X.calm = true) (hN : X.N.Nodup) (hi : DI z X tg iter gw) (ok : BlkOk X.N X.env.scope scope own)
    (hg : ∀ (s : Shared) (H : Hp) (C : Addr) (cl : List (Str × Addr)) (fp : List Addr), PG (X.blk s H scope (compEnvC scope cl C X.env) fp) tg (tG X.K z.quiet ws T)) (ht : ∀ (s : Shared) (H : Hp) (C : Addr) (cl : List (Str × Addr)) (fp : List Addr), PTs (X.blk s H scope (compEnvC scope cl C X.env) fp) ifs (tT X.K z.quiet t))
    (he : ∀ (s : Shared) (H : Hp) (C : Addr) (cl : List (Str × Addr)) (fp : List Addr), PE (X.blk s H scope (compEnvC scope cl C X.env) fp) elt (tE X.K z.quiet fr f)) (hw : ∀ w ∈ ws, w ∈ own.map (·.2)) (hs : ∀ x, foldedSetIterable iter X.env x = pure x := by intro _; rfl) (hvn : npFree z.np (own.map (·.2)) = true := by rfl) :
    DE z X true (.ListComp elt [⟨tg, iter, ifs, 0⟩] scope pos) (fLc gw T t f (own.map (·.2))) := by
  refine de_imp (pe_lc hc hN hi ok hg ht he hs) fun B env σ H Q I hp => ?_
  refine ⟨B, env, I, (R.post_bind hp).imp (fun p hp J H1 I1 m1 hJ D hD => ?_) fun _ _ q => q⟩
  split at hp
  · rename_i hv
    exact lc_core' I I1 m1 hJ hv (npFree_not hvn) hD hw (R.post_bind hp)
  · exact hp.elim
end
end DL
namespace DL
open PySem PySem.Spec PyProof.Rows L2
variable {K : PySem.W.Frag}
inductive Out where
  | nx (e : En)
  | rt (d : D) (e : En)
  | bk (e : En)
  | ct (e : En)
abbrev SF := En → R En Out
def Bs.Op (B : Bs) : Addr → Prop := fun a => B.O0 a ∨ ∃ p ∈ B.ps, p.2 = a
def RetOk (K : PySem.W.Frag) (fr : Bool) (B : Bs) (e : En) (v : V) (H' : Hp) (d : D) : Prop := At K B.Op H' v d ∧ (fr = true → ∀ ds, d = .list ds →
  ∃ (a : Addr) (xs : List V), v = .ref a ∧ B.H0 a = none ∧ ¬ B.Op a ∧ H' a = some (.lst xs) ∧ AtAll K (plus B.Op a) H' xs ds ∧ ∀ p ∈ B.ps, ∃ s, e[p.1]? = some (some s) ∧ s.own = true ∧ SlotR K (plus B.Op a) H' (.ref p.2) s)
def SOk (K : PySem.W.Frag) (z : Z) (fr : Bool) (B : Bs) (σ : Sg) (H : Hp) (env : En) (Dd : Ends) : Out → Prop
  | .nx e => ∀ σ' H', SR K z.np B σ' H' e → Mv (B.O σ env) (B.O σ' e) H H' → Dd.nx σ' H'
  | .bk e => ∀ σ' H', SR K z.np B σ' H' e → Mv (B.O σ env) (B.O σ' e) H H' → Dd.bk σ' H'
  | .ct e => ∀ σ' H', SR K z.np B σ' H' e → Mv (B.O σ env) (B.O σ' e) H H' → Dd.ct σ' H'
  | .rt d e => ∀ v σ' H', SR K z.np B σ' H' e → Mv (B.O σ env) (B.O σ' e) H H' → RetOk K fr B e v H' d → z.rt B.H0 B.Op v H' d → Dd.rt v H'
/-- nothing is told of what is handed back -/
def RtAny (z : Z) : Prop := ∀ H O v H' d, z.rt H O v H' d
def XS (K : PySem.W.Frag) (z : Z) (B : Bs) (σ : Sg) (H : Hp) (env : En) (x : Exn) (e : En) : Prop :=
  ∀ (cls : Value) (dp : Option Addr) (σ' : Sg) (H' : Hp), SR K z.np B σ' H' e → Mv (B.O σ env) (B.O σ' e) H H' → ExnAt K (B.O σ' e) H' z.ca x cls dp → z.W cls dp σ' H'
theorem XS.xp {z : Z} {B : Bs} {σ : Sg} {H : Hp} {env : En} {x : Exn} {e : En} (h : XS K z B σ H env x e) : XP K z B σ H env x e := fun cls dp H' I m a => h cls dp σ H' I m a
def tS (K : PySem.W.Frag) (z : Z) (fr : Bool) (g : SF) : TS := fun Dd σ H => ∃ (B : Bs) (env : En), SR K z.np B σ H env ∧ (g env).post (SOk K z fr B σ H env Dd) (XS K z B σ H env)
abbrev DS (z : Z) (X : Cx) (fr : Bool) (st : Stmt) (g : SF) : Prop := PS X st (tS X.K z fr g)
abbrev DSs (z : Z) (X : Cx) (fr : Bool) (sts : List Stmt) (g : SF) : Prop := PSs X sts (tS X.K z fr g)
section
variable {X : Cx} {z : Z} {fr : Bool} {st : Stmt} {sts : List Stmt} {e : Expr}
theorem ps_weak {t t' : TS} (h : PS X st t) (i : ∀ D σ H, t' D σ H → t D σ H) : PS X st t' := ⟨fun pins s σ H D I q => h.run pins s σ H D I (i D σ H q)⟩
theorem pss_weak {t t' : TS} (h : PSs X sts t) (i : ∀ D σ H, t' D σ H → t D σ H) : PSs X sts t' := ⟨fun pins s σ H D I q => h.run pins s σ H D I (i D σ H q)⟩
theorem ds_imp {g : SF} {t : TS} (h : PS X st t) (i : ∀ (B : Bs) (env : En) (σ : Sg) (H : Hp) (Dd : Ends), SR X.K z.np B σ H env → (g env).post (SOk X.K z fr B σ H env Dd) (XS X.K z B σ H env) → t Dd σ H) : DS z X fr st g :=
  ps_weak h fun Dd σ H ⟨B, env, I, p⟩ => i B env σ H Dd I p
theorem SOk.step {B : Bs} {σ σ1 : Sg} {H H1 : Hp} {env e1 : En} {Dd : Ends} {o : Out} (m : Mv (B.O σ env) (B.O σ1 e1) H H1) (h : SOk K z fr B σ H env Dd o) : SOk K z fr B σ1 H1 e1 Dd o := by
  cases o with
  | nx e => exact fun σ' H' I m' => h σ' H' I (m.trans m')
  | bk e => exact fun σ' H' I m' => h σ' H' I (m.trans m')
  | ct e => exact fun σ' H' I m' => h σ' H' I (m.trans m')
  | rt d e => exact fun v σ' H' I m' => h v σ' H' I (m.trans m')
theorem XS.step {B : Bs} {σ σ1 : Sg} {H H1 : Hp} {env e1 : En} {x : Exn} {e : En} (m : Mv (B.O σ env) (B.O σ1 e1) H H1) (h : XS K z B σ H env x e) : XS K z B σ1 H1 e1 x e := fun cls dp σ' H' I m' => h cls dp σ' H' I (m.trans m')
def sNil : SF := fun env => .ok (.nx env)
def sSeq (g h : SF) : SF := fun env => (g env).bind fun o => match o with
  | .nx e => h e
  | o => .ok o
theorem dss_nil : DSs z X fr [] sNil := pss_weak pss_nil fun Dd σ H ⟨B, env, I, p⟩ => p σ H I .refl
theorem dss_one {g : SF} (h : DS z X fr st g) : DSs z X fr [st] g := pss_one h
theorem dss_cons {g h : SF} (h1 : DS z X fr st g) (h2 : DSs z X fr sts h) : DSs z X fr (st :: sts) (sSeq g h) := pss_weak (pss_cons h1 h2) fun Dd σ H ⟨B, env, I, p⟩ =>
  ⟨B, env, I, (R.post_bind p).imp (fun o ho => by
    cases o with
    | nx e => exact fun σ' H' I' m' => ⟨B, e, I', R.post.imp ho (fun o q => q.step m') fun x e q => q.step m'⟩
    | bk e => exact ho
    | ct e => exact ho
    | rt d e => exact ho) fun _ _ q => q⟩
def sPass : SF := sNil
theorem ds_pass {pos : Pos} : DS z X fr (.Pass pos) sPass := ds_imp ps_pass fun B env σ H Dd I p => p σ H I .refl
theorem ds_break {pos : Pos} : DS z X fr (.Break pos) (fun env => .ok (.bk env)) := ds_imp ps_break fun B env σ H Dd I p => p σ H I .refl
def sExpr (f : EF) : SF := fun env => (f env).bind fun p => .ok (.nx p.2)
theorem ds_expr {fe : Bool} {f : EF} {pos : Pos} (he : DE z X fe e f) (hs : swapsWith e none pos.line X.env = pure false := by rfl) : DS z X fr (.Expr e pos) (sExpr f) :=
  ds_imp (ps_expr he hs) fun B env σ H Dd I p => ⟨B, env, I, (R.post_bind p).imp (fun p hp v H1 I1 m1 _ _ => hp σ H1 I1 m1) fun _ _ q => q.xp⟩
theorem SR.op {np : List Nat} {B : Bs} {σ : Sg} {H : Hp} {env : En} (I : SR K np B σ H env) : ∀ a, B.Op a → B.O σ env a := fun a z => z.elim .inl fun ⟨p, hp, e⟩ => .inr ⟨p.1, e ▸ (I.par p hp).1⟩
theorem SR.parSlot {np : List Nat} {B : Bs} {σ : Sg} {H : Hp} {env : En} {O : Addr → Prop} (I : SR K np B σ H env) (c : Clean K O σ H env) (p : Nat × Addr) (hp : p ∈ B.ps) : ∃ s, env[p.1]? = some (some s) ∧ s.own = true ∧ SlotR K O H (.ref p.2) s := by
  obtain ⟨⟨s, h1, h2, h3⟩, _⟩ := I.par p hp
  obtain ⟨v, e, q⟩ := c p.1 s h1
  rw [h3] at e; cases e
  exact ⟨s, h1, h2, q⟩
theorem RetOk.of {B : Bs} {σ : Sg} {H H' : Hp} {env e' : En} {v : V} {d : D} {np : List Nat} (I : SR K np B σ H env) (I' : SR K np B σ H' e') (a : At K (B.O σ e') H' v d) (f : fr = true → FRes K (B.O σ e') σ e' H H' v d) : RetOk K fr B e' v H' d := by
  refine ⟨At.mv (Mv.less I'.op) a, fun hf ds e => ?_⟩
  obtain ⟨b, xs, e1, na, nO, hb, q, c⟩ := f hf ds e
  have less : ∀ x, plus B.Op b x → plus (B.O σ e') b x := fun x z => z.elim (fun z => .inl (I'.op x z)) .inr
  refine ⟨b, xs, e1, I.dom b na, fun z => nO (I'.op b z), hb, AtAll.mv (Mv.less less) q, fun p hp => ?_⟩
  obtain ⟨s, h1, h2, h3⟩ := I'.parSlot c p hp
  exact ⟨s, h1, h2, h3.mv (Mv.less less) (fun x ex _ => by cases ex; exact .inl (.inr ⟨p, hp, rfl⟩)) fun _ _ _ _ z => z⟩
def sRet (f : EF) : SF := fun env => (f env).bind fun p => .ok (.rt p.1 p.2)
theorem ds_ret {f : EF} {pos : Pos} (he : DE z X fr e f) (hrt : RtAny z := by exact fun _ _ _ _ _ => trivial) : DS z X fr (.Return (some e) pos) (sRet f) :=
  ds_imp (ps_ret he) fun B env σ H Dd I p => ⟨B, env, I, (R.post_bind p).imp (fun p hp v H1 I1 m1 a f => hp v σ H1 I1 m1 (.of I I1 a f) (hrt _ _ _ _ _)) fun _ _ q => q.xp⟩
def sRetN : SF := fun env => .ok (.rt .none env)
theorem ds_retN {pos : Pos} (hrt : RtAny z := by exact fun _ _ _ _ _ => trivial) : DS z X fr (.Return none pos) sRetN := ds_imp ps_retN fun B env σ H Dd I p => p .non σ H I .refl ⟨.non, fun _ _ e => nomatch e⟩ (hrt _ _ _ _ _)
/-- an own list is handed back -/
def sRetO (i : Nat) : SF := fun env => match env[i]? with
  | some (some (.ow ds)) => .ok (.rt (.list ds) env)
  | _ => .stuck
theorem ds_retO {i : Nat} {pos : Pos} (h : PE X e (tVar i)) (hi : i ∉ z.np) (hrt : RtAny z := by exact fun _ _ _ _ _ => trivial) : DS z X fr (.Return (some e) pos) (sRetO i) := ds_imp (ps_ret h) fun B env σ H Dd I p => by
  unfold sRetO at p
  split at p
  · rename_i ds he
    obtain ⟨a, xs, e1, hO, hH, r⟩ := I.ow he
    have oi : ownedAt σ env i a := ⟨_, he, rfl, e1⟩
    have nps : ∀ p ∈ B.ps, p.2 ≠ a := fun p hp q => by
      obtain ⟨h1, _, h3⟩ := I.par p hp
      rw [q] at h1
      exact hi (I.dist _ _ a h1 oi ▸ h3)
    have nOp : ¬ B.Op a := fun w => w.elim (I.own0 i a oi) fun ⟨p, hp, q⟩ => nps p hp q
    have less : ∀ x, plus B.Op a x → B.O σ env x := fun x w => w.elim (I.op x) fun w => w ▸ .inr ⟨i, oi⟩
    refine ⟨_, e1, p (.ref a) σ H I .refl ⟨.lst ⟨.inl (.inl hH), fun w => absurd w nOp⟩ (AtAll.mv (Mv.less I.op) r), fun _ ds' e => ?_⟩ (hrt _ _ _ _ _)⟩
    cases e
    refine ⟨a, xs, rfl, ?_, nOp, hH, AtAll.mv (Mv.less less) r, fun p hp => ?_⟩
    · rcases I.new i a oi with q | q
      · exact absurd rfl (nps _ q)
      · exact q
    · obtain ⟨s, h1, h2, h3⟩ := I.parSlot I.slot p hp
      exact ⟨s, h1, h2, h3.mv (Mv.less less) (fun x ex _ => by cases ex; exact .inl (.inr ⟨p, hp, rfl⟩)) fun _ _ _ _ z => z⟩
  · exact p.elim
def sIf (t : En → R En (Bool × En)) (g h : SF) : SF := fun env => (t env).bind fun b => if b.1 = true then g b.2 else h b.2
theorem ds_if {c : Expr} {a b : List Stmt} {pos : Pos} {t : En → R En (Bool × En)} {g h : SF} (hc : DT z X c t) (ha : DSs z X fr a g) (hb : DSs z X fr b h) : DS z X fr (.If c a b pos) (sIf t g h) :=
  ds_imp (ps_if hc ha hb) fun B env σ H Dd I p => ⟨B, env, I, (R.post_bind p).imp (fun b hp H1 I1 m1 => by
    obtain ⟨c, e⟩ := b
    cases c with
    | true => exact ⟨B, e, I1, R.post.imp hp (fun o q => q.step m1) fun x e q => q.step m1⟩
    | false => exact ⟨B, e, I1, R.post.imp hp (fun o q => q.step m1) fun x e q => q.step m1⟩) fun _ _ q => q.xp⟩
/-- a target -/
def sAsg (f : EF) (T : TF) : SF := fun env => (f env).bind fun p => (ofO (T p.1 p.2)).bind fun e => .ok (.nx e)
theorem ds_asg {fe : Bool} {f : EF} {tg : Expr} {ws : List Nat} {T : TF} {pos : Pos} (he : DE z X fe e f) (hg : DG z X tg ws T) (hs : swapsWithSole [tg] e pos.line X.env = pure false := by rfl) (hw : swappedStores [tg] e X.env = pure none := by rfl) (h1 : (assignEach [tg] X.env).map (·.2) = [assign tg X.env] := by rfl) : DS z X fr (.Assign [tg] e pos) (sAsg f T) :=
  ds_imp (ps_asg he hg hs hw h1) fun B env σ H Dd I p => ⟨B, env, I, (R.post_bind p).imp (fun p hp v H1 I1 m1 a _ => by
    obtain ⟨e', h1, h2⟩ := ofO_post (R.post_bind hp)
    exact ⟨B, p.2, p.1, e', I1, a, h1, fun σ' I' m' _ => h2 σ' H1 I' (m1.trans m')⟩) fun _ _ q => q.xp⟩
/-- name = data -/
def sSet (i : Nat) (f : EF) : SF := fun env => (f env).bind fun p => .ok (.nx (p.2.set i (some (.im p.1))))
theorem sem_set {i : Nat} {f : EF} {B : Bs} {env : En} {σ : Sg} {H : Hp} {Dd : Ends} (hi : i ∉ z.np) (p : (sSet i f env).post (SOk K z fr B σ H env Dd) (XS K z B σ H env)) : (f env).post (EP1 K z false B σ H env fun v H1 => Dd.nx (σ.set i (some v)) H1) (XP K z B σ H env) :=
  (R.post_bind p).imp (fun p hp v H1 I1 m1 a _ => let ⟨I', m'⟩ := I1.setIm hi a; hp _ H1 I' (m1.trans m')) fun _ _ q => q.xp
theorem ds_set {i : Nat} {x : Str} {fe : Bool} {f : EF} {pos pos' : Pos} (hN : X.N.Nodup) (hn : X.N[i]? = some x) (hx : Loc X.env.scope x) (he : DE z X fe e f) (hi : i ∉ z.np) (hs : swapsWith e (some (.Name x pos')) pos.line X.env = pure false := by rfl)
    (hf : X.fn x = true ∨ X.env.scope.names.lookup x = some .local := by first | exact .inl rfl | exact .inr rfl | assumption) : DS z X fr (.Assign [.Name x pos'] e pos) (sSet i f) :=
  ds_imp (ps_set hN hn hx (de_sh he) hs hf) fun B env σ H Dd I p => ⟨B, env, I, sem_set hi p⟩
/-- name = a new list, the name's own -/
def sSetO (i : Nat) (f : EF) : SF := fun env => (f env).bind fun p => match p.1 with
  | .list ds => .ok (.nx (p.2.set i (some (.ow ds))))
  | _ => .stuck
theorem sem_setO {i : Nat} {f : EF} {B : Bs} {env : En} {σ : Sg} {H : Hp} {Dd : Ends} (I : SR K z.np B σ H env) (hi : i ∉ z.np) (p : (sSetO i f env).post (SOk K z fr B σ H env Dd) (XS K z B σ H env)) : (f env).post (EP1 K z true B σ H env fun v H1 => Dd.nx (σ.set i (some v)) H1) (XP K z B σ H env) :=
  (R.post_bind p).imp (fun p hp v H1 I1 m1 a f1 => by
    obtain ⟨d, e1⟩ := p
    cases d with
    | list ds =>
      obtain ⟨I', b, rfl, nb, sub⟩ := I1.setOw (Hs := H) hi I.dom (fun a h => by
        cases q : B.kp a with
        | none => rfl
        | some o => rw [I.kept a o q] at h; cases h) (f1 rfl)
      exact hp _ H1 I' ⟨m1.keep, fun x w => (sub x w).elim (m1.own x) fun w => .inr (w ▸ nb), m1.dom⟩
    | _ => exact hp.elim) fun _ _ q => q.xp
theorem ds_setO {i : Nat} {x : Str} {f : EF} {pos pos' : Pos} (hN : X.N.Nodup) (hn : X.N[i]? = some x) (hx : Loc X.env.scope x) (he : DE z X true e f) (hi : i ∉ z.np) (hs : swapsWith e (some (.Name x pos')) pos.line X.env = pure false := by rfl)
    (hf : X.fn x = true ∨ X.env.scope.names.lookup x = some .local := by first | exact .inl rfl | exact .inr rfl | assumption) : DS z X fr (.Assign [.Name x pos'] e pos) (sSetO i f) :=
  ds_imp (ps_set hN hn hx he hs hf) fun B env σ H Dd I p => ⟨B, env, I, sem_setO I hi p⟩
/-- an own list is nobody's own any more -/
def sFrz (i : Nat) (h : SF) : SF := fun env => match env[i]? with
  | some (some (.ow ds)) => h (env.set i (some (.im (.list ds))))
  | _ => .stuck
theorem SR.freeze {np : List Nat} {B : Bs} {σ : Sg} {H : Hp} {env : En} {i : Nat} {ds : List D} (I : SR K np B σ H env) (hi : i ∉ np) (he : env[i]? = some (some (.ow ds))) : SR K np B σ H (env.set i (some (.im (.list ds)))) ∧ Mv (B.O σ env) (B.O σ (env.set i (some (.im (.list ds))))) H H := by
  obtain ⟨a, xs, e1, hO, hH, r⟩ := I.ow he
  have oi : ownedAt σ env i a := ⟨_, he, rfl, e1⟩
  have ow : ∀ j b, ownedAt σ (env.set i (some (.im (.list ds)))) j b → j ≠ i ∧ ownedAt σ env j b := fun j b ⟨s, h1, h2, h3⟩ => by
    rcases getElem?_set_some h1 with ⟨e, e2⟩ | ⟨e, h1⟩
    · cases e2; cases h2
    · exact ⟨e, s, h1, h2, h3⟩
  have wo : ∀ j b, j ≠ i → ownedAt σ env j b → ownedAt σ (env.set i (some (.im (.list ds)))) j b := fun j b n ⟨s, h1, h2, h3⟩ => ⟨s, by rw [List.getElem?_set_ne (Ne.symm n)]; exact h1, h2, h3⟩
  have m : Mv (B.O σ env) (B.O σ (env.set i (some (.im (.list ds))))) H H := Mv.less fun a z => z.elim .inl fun ⟨j, q⟩ => .inr ⟨j, (ow j a q).2⟩
  have nO : ¬ B.O σ (env.set i (some (.im (.list ds)))) a := fun w => w.elim (I.own0 i a oi) fun ⟨j, q⟩ => (ow j a q).1 (I.dist j i a (ow j a q).2 oi)
  refine ⟨⟨by simpa using I.len, fun j s hs => ?_, fun j k a h1 h2 => I.dist j k a (ow j a h1).2 (ow k a h2).2, I.keep, I.dom, fun j a h => I.new j a (ow j a h).2, I.o0, I.kept, fun j a h => I.kpo j a (ow j a h).2, fun j a h => I.own0 j a (ow j a h).2, fun p hp => ?_, I.fix⟩, m⟩
  · rcases getElem?_set_some hs with ⟨e, e2⟩ | ⟨e, h1⟩
    · cases e2
      subst e
      exact ⟨.ref a, e1, .lst ⟨.inl (.inl hH), fun w => absurd w nO⟩ (AtAll.mv m r)⟩
    · obtain ⟨u, e1, q⟩ := I.slot j s h1
      exact ⟨u, e1, q.mv m (fun a ea ho => .inr ⟨j, wo j a e ⟨s, h1, ho, ea ▸ e1⟩⟩) fun _ _ _ _ z => z⟩
  · obtain ⟨h1, h2, h3⟩ := I.par p hp
    exact ⟨wo _ _ (fun z => hi (z ▸ h3)) h1, h2, h3⟩
theorem dss_frz {i : Nat} {h : SF} (hh : DSs z X fr sts h) (hi : i ∉ z.np) : DSs z X fr sts (sFrz i h) := pss_weak hh fun Dd σ H ⟨B, env, I, p⟩ => by
  unfold sFrz at p
  split at p
  · rename_i ds he
    obtain ⟨I', m⟩ := I.freeze hi he
    exact ⟨B, _, I', R.post.imp p (fun o q => q.step m) fun x e q => q.step m⟩
  · exact p.elim
/-- found.append(e) -/
def sApp (i : Nat) (f : EF) : SF := fun env => match env[i]? with
  | some (some (.ow _)) => (f env).bind fun p => match p.2[i]? with
    | some (some (.ow ds)) => if ds.length < sizeLine then .ok (.nx (p.2.set i (some (.ow (ds ++ [p.1]))))) else .stuck
    | _ => .stuck
  | _ => .stuck
theorem ds_app {i : Nat} {o a : Expr} {f : EF} {fe : Bool} {apos cpos pos : Pos} (ho : PE X o (tVar i)) (ha : DE z X fe a f) (hbase : attributeBase o "append" X.env (eval o X.env) = eval o X.env := by rfl)
    (hfew : ((backTo cpos (starEach [a] X.env)).all (fun x => !x.1) && (backToKw cpos (keywordEach [] X.env)).all (fun x => x.1.isSome) && decide ([a].length + ([] : List Keyword).length + (if ([] : List Keyword).isEmpty then 0 else 1) < 30)) = true := by rfl)
    (hline : (apos.endLine == cpos.line) = true := by rfl) (hs : starEach [a] X.env = (false, eval a X.env) :: starEach [] X.env := by rfl) (hplain : (backTo cpos (starEach [] X.env)).any (·.1) = false := by rfl)
    (hsw : swapsWith (.Call (.Attribute o "append" apos) [a] [] cpos) none pos.line X.env = pure false := by rfl) : DS z X fr (.Expr (.Call (.Attribute o "append" apos) [a] [] cpos) pos) (sApp i f) := by
  refine ds_imp (ps_expr (pe_bm PySem.F.plainAttrs_list PySem.F.slot_list_append PySem.F.type_list_append mt_append ho (pa_cons ha pa_nil hs) hbase hfew hline hs hplain) hsw) fun B env σ H Dd I p => ?_
  unfold sApp at p
  split at p
  · rename_i ds0 he
    obtain ⟨a0, xs0, e1, _, hH0, _⟩ := I.ow he
    refine ⟨_, e1, .inl ⟨rfl, _, SqL.of hH0⟩, B, env, I, (R.post_bind p).imp (fun p hp v H1 I1 m1 a1 _ => ?_) fun _ _ q => q.xp⟩
    split at hp
    · rename_i ds he1
      split at hp
      · rename_i hl
        obtain ⟨a, xs, e2, hO, hH, r⟩ := I1.ow he1
        rw [e1] at e2
        cases e2
        have m2 : Mv (B.O σ p.2) (B.O σ p.2) H1 (upd H1 a0 (.lst (xs ++ [v]))) := ⟨fun b u e n => by
          rw [upd_ne (show b ≠ a0 from fun q => n (q ▸ hO))]; exact e, fun _ w => .inl w, fun b e => by
          by_cases q : b = a0
          · rw [q, upd_same] at e; cases e
          · rw [upd_ne q] at e; exact e⟩
        obtain ⟨I', m'⟩ := I1.write (i := i) (a := a0) (s := .ow ds) (s' := .ow (ds ++ [p.1])) (o := .lst (xs ++ [v])) he1 rfl rfl e1 ⟨a0, _, rfl, hO, upd_same, (AtAll.mv m2 r).append (.cons (At.mv m2 a1) .nil)⟩
        exact ⟨a0, xs, v, rfl, rfl, hH, by rw [r.length]; exact hl, hp σ _ I' (m1.trans m')⟩
      · exact hp.elim
    · exact hp.elim
  · exact p.elim
theorem Mv.wr {O : Addr → Prop} {H : Hp} {a : Addr} {o : HO} (h : O a) : Mv O O H (upd H a o) := ⟨fun b u e n => by
  rw [upd_ne (show b ≠ a from fun q => n (q ▸ h))]; exact e, fun _ w => .inl w, fun b e => by
  by_cases q : b = a
  · rw [q, upd_same] at e; cases e
  · rw [upd_ne q] at e; exact e⟩
/-- found[i] = e -/
def sSto (i : Nat) (g f : EF) : SF := fun env => (f env).bind fun p => match p.2[i]? with
  | some (some (.ow _)) => (g p.2).bind fun q => match q.2[i]?, q.1 with
    | some (some (.ow ds)), .int k => match ixN ds.length k with
      | some j => .ok (.nx (q.2.set i (some (.ow (ds.set j p.1)))))
      | none => .stuck
    | _, _ => .stuck
  | _ => .stuck
theorem ds_sto {i : Nat} {o ix a : Expr} {g f : EF} {fe fg : Bool} {tpos pos : Pos} (ho : PE X o (tVar i)) (hg : DE z X fg ix g) (ha : DE z X fe a f) (hpg : PG X (.Subscript o ix tpos) (gSub (tVar i) (tE X.K z fg g) rSetL))
    (hs : swapsWithSole [.Subscript o ix tpos] a pos.line X.env = pure false := by rfl) (hw : swappedStores [.Subscript o ix tpos] a X.env = pure none := by rfl) (h1 : (assignEach [.Subscript o ix tpos] X.env).map (·.2) = [assign (.Subscript o ix tpos) X.env] := by rfl) : DS z X fr (.Assign [.Subscript o ix tpos] a pos) (sSto i g f) := by
  refine ds_imp (ps_asg ha hpg hs hw h1) fun B env σ H Dd I p => ⟨B, env, I, (R.post_bind p).imp (fun p hp v H1 I1 m1 a1 fx  => ?_) fun _ _ q => q.xp⟩
  split at hp
  · rename_i ds0 he
    obtain ⟨a0, xs0, e1, _, hH0, _⟩ := I1.ow he
    refine ⟨_, e1, B, p.2, I1, (R.post_bind hp).imp (fun q hq u H2 I2 m2 a2 fx  => ?_) fun _ _ q => q.xp.step m1⟩
    obtain ⟨d, e'⟩ := q
    dsimp only at hq
    split at hq
    · rename_i ds k he1
      split at hq
      · rename_i j hj
        cases a2
        obtain ⟨a, xs, e2, hO, hH, r⟩ := I2.ow he1
        rw [e1] at e2
        cases e2
        obtain ⟨I', m'⟩ := I2.write (i := i) (a := a0) (s := .ow ds) (s' := .ow (ds.set j p.1)) (o := .lst (xs.set j v)) he1 rfl rfl e1 ⟨a0, _, rfl, hO, upd_same, AtAll.set (At.mv (Mv.wr hO) (At.mv m2 a1)) j (AtAll.mv (Mv.wr hO) r)⟩
        exact ⟨a0, xs, k, j, rfl, rfl, hH, by rw [r.length]; exact hj, hq σ _ I' ((m1.trans m2).trans m')⟩
      · exact hq.elim
    · exact hq.elim
  · exact hp.elim
/-- found[i] op= e -/
def rGetL (K : PySem.W.Frag) : V → V → Hp → VK → Prop := fun x y H Q => ∃ p xs k v, x = .ref p ∧ y = .int k ∧ 0 ≤ k ∧ SqL K H p xs ∧ xs[k.toNat]? = some v ∧ Q v H
theorem pget_list : PGet X (rGetL X.K) := by
  intro pins s σ H o i ov iv Q I ro ri h
  obtain ⟨p, xs, k, v, rfl, rfl, h0, hq, hx, q⟩ := h
  cases ro
  obtain ⟨t, rfl⟩ := ri
  obtain ⟨its, r, pl, hz⟩ := I.list hq
  obtain ⟨w, ew, rw'⟩ := r.get hx
  have hl : k.toNat < xs.length := (List.getElem?_eq_some_iff.mp hx).1
  have hn := line63
  exact wpAny_getItem_list pl.isList h0 (by omega) (by simpa using ew) ⟨v, H, I, rw', q⟩
def sAugS (i : Nat) (op : Int → Int → Int) (g f : EF) : SF := fun env => match env[i]? with
  | some (some (.ow _)) => (g env).bind fun q => match q.2[i]?, q.1 with
    | some (some (.ow ds)), .int k => if 0 ≤ k then match ds[k.toNat]? with
      | some (.int x) => (f q.2).bind fun p => match p.2[i]?, p.1 with
        | some (some (.ow es)), .int y => if k.toNat < es.length then .ok (.nx (p.2.set i (some (.ow (es.set k.toNat (.int (op x y))))))) else .stuck
        | _, _ => .stuck
      | _ => .stuck
      else .stuck
    | _, _ => .stuck
  | _ => .stuck
theorem ixN_nn {n : Nat} {k : Int} (h0 : 0 ≤ k) (h : k.toNat < n) : ixN n k = some k.toNat := by
  unfold ixN
  rw [if_pos h0, if_pos (by omega)]
theorem ds_augS {i : Nat} {o ix a : Expr} {g f : EF} {fe fg : Bool} {op : Operator} {fop : Int → Int → Int} {tpos pos : Pos} (ho : PE X o (tVar i)) (hg : DE z X fg ix g) (ha : DE z X fe a f) (hp : PIp X op (ipI fop))
    (hau : ∀ ov iv new, augStore ix ov iv new = (do holding [new, ov, iv] (setItem ov iv new); release [new, ov, iv] []; pure .next) := by intros; rfl) : DS z X fr (.AugAssign (.Subscript o ix tpos) op a pos) (sAugS i fop g f) := by
  refine ds_imp (ps_augS ho hg pget_list ha hp set_list hau) fun B env σ H Dd I p => ?_
  unfold sAugS at p
  split at p
  · rename_i ds0 he
    obtain ⟨a0, xs0, e1, _, hH0, _⟩ := I.ow he
    refine ⟨_, e1, B, env, I, (R.post_bind p).imp (fun q hq u H1 I1 m1 a1 fx  => ?_) fun _ _ q => q.xp⟩
    obtain ⟨d, e'⟩ := q
    dsimp only at hq
    split at hq
    · rename_i ds k he1
      split at hq
      · rename_i h0
        split at hq
        · rename_i x hx
          cases a1
          obtain ⟨a, xs, e2, hO, hH, r⟩ := I1.ow he1
          rw [e1] at e2
          cases e2
          obtain ⟨vx, h1, h2⟩ := r.get hx
          cases h2
          refine ⟨a0, xs, k, _, rfl, rfl, h0, SqL.of hH, h1, B, e', I1, (R.post_bind hq).imp (fun p hp w H2 I2 m2 a2 fx  => ?_) fun _ _ q => q.xp.step m1⟩
          obtain ⟨d2, e2⟩ := p
          dsimp only at hp
          split at hp
          · rename_i es y he2
            split at hp
            · rename_i hl
              cases a2
              obtain ⟨b, ys, e3, hO2, hH2, r2⟩ := I2.ow he2
              rw [e1] at e3
              cases e3
              obtain ⟨I', m'⟩ := I2.write (i := i) (a := a0) (s := .ow es) (s' := .ow (es.set k.toNat (.int (fop x y)))) (o := .lst (ys.set k.toNat (.int (fop x y)))) he2 rfl rfl e1 ⟨a0, _, rfl, hO2, upd_same, AtAll.set (.int _) _ (AtAll.mv (Mv.wr hO2) r2)⟩
              exact ⟨x, y, rfl, rfl, a0, ys, k, k.toNat, rfl, rfl, hH2, ixN_nn h0 (by rw [r2.length]; exact hl), hp σ _ I' ((m1.trans m2).trans m')⟩
            · exact hp.elim
          · exact hp.elim
        · exact hq.elim
      · exact hq.elim
    · exact hq.elim
  · exact p.elim
/-- name op= e, ints -/
def sAug (i : Nat) (op : Int → Int → Int) (f : EF) : SF := fun env => match env[i]? with
  | some (some (.im (.int x))) => (f env).bind fun p => match p.1 with
    | .int y => .ok (.nx (p.2.set i (some (.im (.int (op x y))))))
    | _ => .stuck
  | _ => .stuck
theorem ds_aug {i : Nat} {x : Str} {fe : Bool} {f : EF} {op : Operator} {fop : Int → Int → Int} {pos pos' : Pos} (hN : X.N.Nodup) (hn : X.N[i]? = some x) (hx : Loc X.env.scope x) (he : DE z X fe e f) (hp : PIp X op (ipI fop)) (hi : i ∉ z.np)
    (hf : X.fn x = true ∨ X.env.scope.names.lookup x = some .local := by first | exact .inl rfl | exact .inr rfl | assumption) : DS z X fr (.AugAssign (.Name x pos') op e pos) (sAug i fop f) := by
  refine ds_imp (ps_aug hN hn hx he hp hf) fun B env σ H Dd I p => ?_
  unfold sAug at p
  split at p
  · rename_i n hn
    obtain ⟨v, e1, a⟩ := I.im hn
    cases a
    refine ⟨_, e1, B, env, I, (R.post_bind p).imp (fun p hp v H1 I1 m1 a1 _ => ?_) fun _ _ q => q.xp⟩
    obtain ⟨d, e'⟩ := p
    cases d with
    | int y =>
      cases a1
      obtain ⟨I', m'⟩ := I1.setIm (i := i) (v := .int (fop n y)) (d := .int (fop n y)) hi (.int _)
      exact ⟨n, y, rfl, rfl, hp _ H1 I' (m1.trans m')⟩
    | _ => exact hp.elim
  · exact p.elim
/-- a, b = x, y -/
def sPar (i j : Nat) (g : En → R En (List D × En)) : SF := fun env => (g env).bind fun p => match p.1 with
  | [d, e] => .ok (.nx ((p.2.set i (some (.im d))).set j (some (.im e))))
  | _ => .stuck
theorem sem_par {i j : Nat} {g : En → R En (List D × En)} {B : Bs} {env : En} {σ : Sg} {H : Hp} {Dd : Ends} (hi : i ∉ z.np) (hj : j ∉ z.np) (I : SR K z.np B σ H env) (p : (sPar i j g env).post (SOk K z fr B σ H env Dd) (XS K z B σ H env)) : tPar i j (tA K z g) Dd σ H :=
  ⟨B, env, I, (R.post_bind p).imp (fun p hp vs H1 I1 m1 a => by
    obtain ⟨ds, e'⟩ := p
    dsimp only at hp
    split at hp
    · obtain ⟨v, u, rfl, h1, h2⟩ := AtAll.two a
      obtain ⟨I2, m2⟩ := I1.setIm hi h1
      obtain ⟨I3, m3⟩ := I2.setIm hj (At.mv m2 h2)
      exact ⟨v, u, rfl, hp _ H1 I3 ((m1.trans m2).trans m3)⟩
    · exact hp.elim) fun _ _ q => q.xp⟩
end
end DL
namespace DL
open PySem PySem.Spec PyProof.Rows L2
variable {K : PySem.W.Frag}
section
variable {X : Cx} {z : Z} {fr : Bool} {st : Stmt} {sts : List Stmt} {e : Expr}
/-! ### loops -/
def forF (T : TF) (g : SF) : List D → En → R En Out
  | [], env => .ok (.nx env)
  | d :: ds, env => (ofO (T d env)).bind fun e1 => (g e1).bind fun o => match o with
    | .nx e => forF T g ds e
    | .ct e => forF T g ds e
    | .bk e => .ok (.nx e)
    | .rt d e => .ok (.rt d e)
def sFor (gw : En → R En (List D × En)) (T : TF) (g : SF) : SF := fun env => (gw env).bind fun p => forF T g p.1 p.2
theorem ds_for {tg iter : Expr} {body : List Stmt} {pos : Pos} {gw : En → R En (List D × En)} {T : TF} {ws : List Nat} {g : SF} (hp : PassesOwn (model X.prog X.w) X.A X.env X.xe) (hc : X.calm = true) (hi : DI z X tg iter gw) (hg : DG z X tg ws T) (hb : DSs z X fr body g)
    (hs : ∀ x, foldedSetIterable iter X.env x = pure x := by intro _; rfl) : DS z X fr (.For tg iter body [] pos) (sFor gw T g) := by
  refine ds_imp (ps_for hp hc hi hg hb hs) fun B env σ H Dd I p => ⟨B, env, I, (R.post_bind p).imp (fun p hp J H1 I1 m1 hJ => ?_) fun _ _ q => q.xp⟩
  obtain ⟨ds, e1⟩ := p
  dsimp only at hp hJ I1 m1
  refine ⟨fun i m σ' Hh => ∃ ei, m = ds.length - i ∧ i ≤ ds.length ∧ SR X.K z.np B σ' Hh ei ∧ Mv (B.O σ e1) (B.O σ' ei) H1 Hh ∧ (forF T g (ds.drop i) ei).post (SOk X.K z fr B σ H env Dd) (XS X.K z B σ H env), ⟨ds.length, e1, by simp, Nat.zero_le _, I1, .refl, hp⟩, ?_⟩
  rintro i m σ' Hh ⟨ei, rfl, hi, J1, mm, hc⟩
  obtain ⟨g1, g2, g3⟩ := hJ _ Hh mm J1.od
  by_cases hlt : i < ds.length
  · refine .inr ⟨g1 i hlt, fun σ'' H' => ∃ ei, SR X.K z.np B σ'' H' ei ∧ Mv (B.O σ e1) (B.O σ'' ei) H1 H' ∧ (forF T g (ds.drop (i + 1)) ei).post (SOk X.K z fr B σ H env Dd) (XS X.K z B σ H env), fun σ'' H' ⟨ei, q⟩ => ⟨ds.length - (i + 1), by omega, ei, rfl, hlt, q⟩, fun x H' y => ?_⟩
    obtain ⟨ex, ax⟩ := g3 i x H' _ (List.getElem?_eq_getElem hlt) y
    rw [List.drop_eq_getElem_cons hlt] at hc
    unfold forF at hc
    obtain ⟨e2, hT, hc⟩ := ofO_post (R.post_bind hc)
    refine ⟨B, ei, ds[i], e2, J1.ex ex, ax, hT, fun σ2 J2 mt _ => ?_⟩
    have m2 : Mv (B.O σ e1) (B.O σ2 e2) H1 H' := (mm.trans (Mv.ex ex)).trans mt
    have m0 : Mv (B.O σ env) (B.O σ2 e2) H H' := m1.trans m2
    refine ⟨B, e2, J2, (R.post_bind hc).imp (fun o ho => ?_) fun x e q => q.step m0⟩
    cases o with
    | nx e => exact fun σ3 H3 I3 m3 => ⟨e, I3, m2.trans m3, ho⟩
    | ct e => exact fun σ3 H3 I3 m3 => ⟨e, I3, m2.trans m3, ho⟩
    | bk e => exact fun σ3 H3 I3 m3 => ho σ3 H3 I3 (m0.trans m3)
    | rt d e => exact fun v σ3 H3 I3 m3 => ho v σ3 H3 I3 (m0.trans m3)
  · have e : i = ds.length := by omega
    subst e
    rw [List.drop_length] at hc
    exact .inl ⟨g2, hc σ' Hh J1 (m1.trans mm)⟩
def whileF (c : En → R En (Bool × En)) (g : SF) : Nat → En → R En Out
  | 0, _ => .stuck
  | n + 1, env => (c env).bind fun b => if b.1 = true then (g b.2).bind fun o => match o with
    | .nx e => whileF c g n e
    | .ct e => whileF c g n e
    | .bk e => .ok (.nx e)
    | .rt d e => .ok (.rt d e)
    else .ok (.nx b.2)
/-- n tells how many turns are enough -/
def sWhile (n : En → Nat) (c : En → R En (Bool × En)) (g : SF) : SF := fun env => whileF c g (n env) env
theorem ds_while {c : Expr} {body : List Stmt} {pos : Pos} {n : En → Nat} {fc : En → R En (Bool × En)} {g : SF} (hp : PassesOwn (model X.prog X.w) X.A X.env X.xe) (hc : DT z X c fc) (hb : DSs z X fr body g) : DS z X fr (.While c body [] pos) (sWhile n fc g) := by
  refine ds_imp (ps_while hp hc hb) fun B env σ H Dd I p => ?_
  refine ⟨fun m σ' Hh => ∃ ei, SR X.K z.np B σ' Hh ei ∧ Mv (B.O σ env) (B.O σ' ei) H Hh ∧ (whileF fc g m ei).post (SOk X.K z fr B σ H env Dd) (XS X.K z B σ H env), ⟨n env, env, I, .refl, p⟩, ?_⟩
  rintro m σ' Hh ⟨ei, J, mm, hw⟩
  cases m with
  | zero => exact hw.elim
  | succ m =>
    unfold whileF at hw
    refine ⟨B, ei, J, (R.post_bind hw).imp (fun b hb H1 J1 m1 => ?_) fun x e q => (q.step mm).xp⟩
    have m2 := mm.trans m1
    obtain ⟨b, e1⟩ := b
    cases b with
    | true =>
      simp only [if_true] at hb
      dsimp only
      rw [if_pos rfl]
      refine ⟨fun σ' H' => ∃ ei, SR X.K z.np B σ' H' ei ∧ Mv (B.O σ env) (B.O σ' ei) H H' ∧ (whileF fc g m ei).post (SOk X.K z fr B σ H env Dd) (XS X.K z B σ H env), fun σ' H' q => ⟨m, by omega, q⟩, ?_⟩
      refine ⟨B, e1, J1, (R.post_bind hb).imp (fun o ho => ?_) fun x e q => q.step m2⟩
      cases o with
      | nx e => exact fun σ3 H3 I3 m3 => ⟨e, I3, m2.trans m3, ho⟩
      | ct e => exact fun σ3 H3 I3 m3 => ⟨e, I3, m2.trans m3, ho⟩
      | bk e => exact fun σ3 H3 I3 m3 => ho σ3 H3 I3 (m2.trans m3)
      | rt d e => exact fun v σ3 H3 I3 m3 => ho v σ3 H3 I3 (m2.trans m3)
    | false =>
      simp only [Bool.false_eq_true, if_false] at hb
      dsimp only
      rw [if_neg Bool.false_ne_true]
      exact hb σ' H1 J1 m2
/-! ### raise -/
def sRaise (c : Str) : SF := fun env => .err ⟨c, []⟩ env
theorem ds_raise {ex : Expr} {c : Str} {C : Addr} {pos : Pos} (hc : X.calm = true) (tk : Takes X z.W) (he : PMk X ex (fun _ H Q => Q (.ref C) none H)) (hC : z.ca c = C) : DS z X fr (.Raise (some ex) none pos) (sRaise c) :=
  ds_imp (ps_raise hc tk he) fun B env σ H Dd I p => p (.ref C) none σ H I .refl ⟨by rw [hC], rfl⟩
/-! ### a comprehension that is given to a name -/
section
variable {elt tg iter : Expr} {ifs : List Expr} {scope : Scope} {own : List (Str × Nat)} {pos spos py : Pos} {gw : En → R En (List D × En)} {T : TF} {t : En → R En (Bool × En)} {f : EF} {ws : List Nat} {fe : Bool} {i : Nat} {y : Str}
theorem sem_lc {Q : VK} {B : Bs} {env : En} {σ : Sg} {H : Hp} (hw : ∀ w ∈ ws, w ∈ own.map (·.2)) (hvn : ∀ i ∈ own.map (·.2), i ∉ z.np) (I : SR X.K z.np B σ H env) (hp : (fLc gw T t f (own.map (·.2)) env).post (EP1 X.K z true B σ H env Q) (XP X.K z B σ H env)) :
    tLc (tI X.K z gw) (tG X.K z.quiet ws T) (tT X.K z.quiet t) (tE X.K z.quiet fe f) (own.map (·.2)) σ H Q := by
  refine ⟨B, env, I, (R.post_bind hp).imp (fun p hp J H1 I1 m1 hJ D hD => ?_) fun _ _ q => q⟩
  split at hp
  · rename_i hv
    exact lc_core' I I1 m1 hJ hv hvn hD hw (R.post_bind hp)
  · exact hp.elim
theorem ds_setLc (hc : X.calm = true) (hN : X.N.Nodup) (hy : X.N[i]? = some y) (hyl : X.env.scope.names.lookup y = some .local)
    (hsw : swapsWith (.ListComp elt [⟨tg, iter, ifs, 0⟩] scope pos) (some (.Name y py)) spos.line X.env = pure true) (hi : DI z X tg iter gw) (ok : BlkOk X.N X.env.scope scope own)
    (hg : ∀ (s : Shared) (H : Hp) (C : Addr) (cl : List (Str × Addr)) (fp : List Addr), PG (X.blk s H scope (compEnvC scope cl C X.env) fp) tg (tG X.K z.quiet ws T)) (ht : ∀ (s : Shared) (H : Hp) (C : Addr) (cl : List (Str × Addr)) (fp : List Addr), PTs (X.blk s H scope (compEnvC scope cl C X.env) fp) ifs (tT X.K z.quiet t))
    (he : ∀ (s : Shared) (H : Hp) (C : Addr) (cl : List (Str × Addr)) (fp : List Addr), PE (X.blk s H scope (compEnvC scope cl C X.env) fp) elt (tE X.K z.quiet fe f)) (hw : ∀ w ∈ ws, w ∈ own.map (·.2)) (hin : i ∉ z.np) (hs : ∀ x, foldedSetIterable iter X.env x = pure x := by intro _; rfl) (hvn : npFree z.np (own.map (·.2)) = true := by rfl) :
    DS z X fr (.Assign [.Name y py] (.ListComp elt [⟨tg, iter, ifs, 0⟩] scope pos) spos) (sSet i (fLc gw T t f (own.map (·.2)))) :=
  ds_imp (ps_setLc hc hN hy hyl hsw hi ok hg ht he hs) fun B env σ H Dd I p => sem_lc hw (npFree_not hvn) I ((sem_set hin p).imp (fun _ q v H' I' m a _ => q v H' I' m a fun w => nomatch w) fun _ _ q => q)
theorem ds_setLcO (hc : X.calm = true) (hN : X.N.Nodup) (hy : X.N[i]? = some y) (hyl : X.env.scope.names.lookup y = some .local)
    (hsw : swapsWith (.ListComp elt [⟨tg, iter, ifs, 0⟩] scope pos) (some (.Name y py)) spos.line X.env = pure true) (hi : DI z X tg iter gw) (ok : BlkOk X.N X.env.scope scope own)
    (hg : ∀ (s : Shared) (H : Hp) (C : Addr) (cl : List (Str × Addr)) (fp : List Addr), PG (X.blk s H scope (compEnvC scope cl C X.env) fp) tg (tG X.K z.quiet ws T)) (ht : ∀ (s : Shared) (H : Hp) (C : Addr) (cl : List (Str × Addr)) (fp : List Addr), PTs (X.blk s H scope (compEnvC scope cl C X.env) fp) ifs (tT X.K z.quiet t))
    (he : ∀ (s : Shared) (H : Hp) (C : Addr) (cl : List (Str × Addr)) (fp : List Addr), PE (X.blk s H scope (compEnvC scope cl C X.env) fp) elt (tE X.K z.quiet fe f)) (hw : ∀ w ∈ ws, w ∈ own.map (·.2)) (hin : i ∉ z.np) (hs : ∀ x, foldedSetIterable iter X.env x = pure x := by intro _; rfl) (hvn : npFree z.np (own.map (·.2)) = true := by rfl) :
    DS z X fr (.Assign [.Name y py] (.ListComp elt [⟨tg, iter, ifs, 0⟩] scope pos) spos) (sSetO i (fLc gw T t f (own.map (·.2)))) :=
  ds_imp (ps_setLc hc hN hy hyl hsw hi ok hg ht he hs) fun B env σ H Dd I p => sem_lc hw (npFree_not hvn) I (sem_setO I hin p)
end
end
/-! ### calls of the text's defs -/
inductive PArg where
  | im (d : D)
  | sl (j : Nat)
def PAt (K : PySem.W.Frag) (O : Addr → Prop) (σ : Sg) (H : Hp) (v : V) : PArg → Prop
  | .im d => At K O H v d
  | .sl j => σ[j]? = some (some v)
inductive PAll (K : PySem.W.Frag) (O : Addr → Prop) (σ : Sg) (H : Hp) : List V → List PArg → Prop
  | nil : PAll K O σ H [] []
  | cons {v : V} {vs : List V} {a : PArg} {as : List PArg} : PAt K O σ H v a → PAll K O σ H vs as → PAll K O σ H (v :: vs) (a :: as)
theorem PAt.mv {O O' : Addr → Prop} {σ : Sg} {H H' : Hp} {v : V} {a : PArg} (m : Mv O O' H H') (h : PAt K O σ H v a) : PAt K O' σ H' v a := by
  cases a with
  | im d => exact At.mv m h
  | sl j => exact h
def tC (K : PySem.W.Frag) (z : Z) (f : En → R En (List PArg × En)) : TA := fun σ H Q => ∃ (B : Bs) (env : En), SR K z.np B σ H env ∧
  (f env).post (fun p => ∀ (vs : List V) H', SR K z.np B σ H' p.2 → Mv (B.O σ env) (B.O σ p.2) H H' → PAll K (B.O σ p.2) σ H' vs p.1 → Q vs H') (XP K z B σ H env)
abbrev DC (z : Z) (X : Cx) (es : List Expr) (f : En → R En (List PArg × En)) : Prop := PA X es (tC X.K z f)
section
variable {X : Cx} {z : Z} {e : Expr} {es : List Expr}
def cNil : En → R En (List PArg × En) := fun env => .ok ([], env)
def cIm (f : EF) (g : En → R En (List PArg × En)) : En → R En (List PArg × En) := fun env => (f env).bind fun p => (g p.2).bind fun q => .ok (.im p.1 :: q.1, q.2)
def cSl (j : Nat) (g : En → R En (List PArg × En)) : En → R En (List PArg × En) := fun env => match env[j]? with
  | some (some s) => if s.own = true then (g env).bind fun q => .ok (.sl j :: q.1, q.2) else .stuck
  | _ => .stuck
theorem dc_nil : DC z X [] cNil := pa_weak pa_nil fun σ H Q ⟨B, env, I, p⟩ => p [] H I .refl .nil
theorem dc_im {fr : Bool} {f : EF} {g : En → R En (List PArg × En)} (ha : DE z X fr e f) (hr : DC z X es g) (hs : starEach (e :: es) X.env = (false, eval e X.env) :: starEach es X.env := by rfl) : DC z X (e :: es) (cIm f g) :=
  pa_weak (pa_cons ha hr hs) fun σ H Q ⟨B, env, I, hp⟩ => ⟨B, env, I, (R.post_bind hp).imp (fun p hp v H1 I1 m1 a1 _ =>
    ⟨B, p.2, I1, (R.post_bind hp).imp (fun q hq vs H2 I2 m2 a2 => hq (v :: vs) H2 I2 (m1.trans m2) (.cons (At.mv m2 a1) a2)) fun _ _ q => q.step m1⟩) fun _ _ q => q⟩
theorem dc_sl {j : Nat} {g : En → R En (List PArg × En)} (ha : PE X e (tVar j)) (hr : DC z X es g) (hs : starEach (e :: es) X.env = (false, eval e X.env) :: starEach es X.env := by rfl) : DC z X (e :: es) (cSl j g) :=
  pa_weak (pa_cons ha hr hs) fun σ H Q ⟨B, env, I, hp⟩ => by
    unfold cSl at hp
    split at hp
    · rename_i s he
      split at hp
      · rename_i ho
        obtain ⟨v, e1, q1⟩ := I.slot j s he
        exact ⟨v, e1, B, env, I, (R.post_bind hp).imp (fun q hq vs H2 I2 m2 a2 => hq (v :: vs) H2 I2 m2 (.cons e1 a2)) fun _ _ q => q⟩
      · exact hp.elim
    · exact hp.elim
end
/-- the arguments as they stand -/
def resolve (e : En) : List PArg → Option (List Sl)
  | [] => some []
  | .im d :: as => (resolve e as).map (.im d :: ·)
  | .sl j :: as => match e[j]? with
    | some (some s) => if s.own = true then (resolve e as).map (s :: ·) else none
    | _ => none
def slotsOf : List PArg → List Nat
  | [] => []
  | .im _ :: as => slotsOf as
  | .sl j :: as => j :: slotsOf as
/-- what is own is told back -/
def back : List PArg → List Sl → En → En
  | .im _ :: as, _ :: es, env => back as es env
  | .sl j :: as, s :: es, env => back as es (env.set j (some s))
  | _, _, env => env
theorem back_out {j : Nat} : ∀ {as : List PArg} {es : List Sl} {env : En}, j ∉ slotsOf as → (back as es env)[j]? = env[j]?
  | [], es, env, _ => by unfold back; rfl
  | .im d :: as, [], env, _ => by unfold back; rfl
  | .sl k :: as, [], env, _ => by unfold back; rfl
  | .im d :: as, s :: es, env, h => by unfold back; exact back_out h
  | .sl k :: as, s :: es, env, h => by
    unfold back
    simp only [slotsOf, List.mem_cons, not_or] at h
    rw [back_out h.2, List.getElem?_set_ne (Ne.symm h.1)]
theorem back_length : ∀ (as : List PArg) (es : List Sl) (env : En), (back as es env).length = env.length
  | [], es, env => by unfold back; rfl
  | .im d :: as, [], env => by unfold back; rfl
  | .sl k :: as, [], env => by unfold back; rfl
  | .im d :: as, s :: es, env => by unfold back; exact back_length as es env
  | .sl k :: as, s :: es, env => by unfold back; rw [back_length as es, List.length_set]
theorem back_in {j : Nat} : ∀ {as : List PArg} {es : List Sl} {env : En} {i : Nat} {s : Sl}, (slotsOf as).Nodup → as[i]? = some (.sl j) → es[i]? = some s → j < env.length → (back as es env)[j]? = some (some s)
  | [], _, _, _, _, _, h, _, _ => by simp at h
  | _ :: _, [], _, _, _, _, _, h, _ => by simp at h
  | .im d :: as, t :: es, env, 0, s, _, h, _, _ => by simp at h
  | .im d :: as, t :: es, env, i + 1, s, hn, h, h2, hl => by
    unfold back
    exact back_in (i := i) hn (by simpa using h) (by simpa using h2) hl
  | .sl k :: as, t :: es, env, 0, s, hn, h, h2, hl => by
    have e : k = j := by simpa using h
    have e2 : t = s := by simpa using h2
    subst e e2
    unfold back
    simp only [slotsOf, List.nodup_cons] at hn
    rw [back_out hn.1, List.getElem?_set_self hl]
  | .sl k :: as, t :: es, env, i + 1, s, hn, h, h2, hl => by
    unfold back
    simp only [slotsOf, List.nodup_cons] at hn
    exact back_in (i := i) hn.2 (by simpa using h) (by simpa using h2) (by simpa using hl)
theorem mem_slotsOf {j : Nat} : ∀ {as : List PArg}, j ∈ slotsOf as → ∃ i : Nat, as[i]? = some (.sl j)
  | [], h => by simp [slotsOf] at h
  | .im d :: as, h => by
    obtain ⟨i, q⟩ := mem_slotsOf (as := as) h
    exact ⟨i + 1, by simpa using q⟩
  | .sl k :: as, h => by
    simp only [slotsOf, List.mem_cons] at h
    rcases h with h | h
    · exact ⟨0, by simp [h]⟩
    · obtain ⟨i, q⟩ := mem_slotsOf (as := as) h
      exact ⟨i + 1, by simpa using q⟩
theorem slotsOf_mem {j : Nat} : ∀ {as : List PArg} {i : Nat}, as[i]? = some (.sl j) → j ∈ slotsOf as
  | [], _, h => by simp at h
  | .im d :: as, 0, h => by simp at h
  | .im d :: as, i + 1, h => by simp only [slotsOf]; exact slotsOf_mem (i := i) (by simpa using h)
  | .sl k :: as, 0, h => by simp at h; simp [slotsOf, h]
  | .sl k :: as, i + 1, h => by simp only [slotsOf, List.mem_cons]; exact .inr (slotsOf_mem (i := i) (by simpa using h))
/-- each resolved argument -/
theorem resolve_get {e : En} : ∀ {as : List PArg} {es : List Sl} {i : Nat} {s : Sl}, resolve e as = some es → es[i]? = some s →
    (∃ d, as[i]? = some (.im d) ∧ s = .im d) ∨ (∃ j, as[i]? = some (.sl j) ∧ e[j]? = some (some s) ∧ s.own = true)
  | [], es, i, s, h, h2 => by cases h; simp at h2
  | .im d :: as, es, i, s, h, h2 => by
    simp only [resolve, Option.map_eq_some_iff] at h
    obtain ⟨r, h1, rfl⟩ := h
    cases i with
    | zero => exact .inl ⟨d, rfl, by simpa using h2.symm⟩
    | succ i => simpa using resolve_get (i := i) h1 (by simpa using h2)
  | .sl j :: as, es, i, s, h, h2 => by
    simp only [resolve] at h
    split at h
    · rename_i t ht
      split at h
      · rename_i ho
        rw [Option.map_eq_some_iff] at h
        obtain ⟨r, h1, rfl⟩ := h
        cases i with
        | zero =>
          have e2 : t = s := by simpa using h2
          subst e2
          exact .inr ⟨j, rfl, ht, ho⟩
        | succ i => simpa using resolve_get (i := i) h1 (by simpa using h2)
      · cases h
    · cases h
theorem resolve_length {e : En} : ∀ {as : List PArg} {es : List Sl}, resolve e as = some es → es.length = as.length
  | [], es, h => by cases h; rfl
  | .im d :: as, es, h => by
    simp only [resolve, Option.map_eq_some_iff] at h
    obtain ⟨r, h1, rfl⟩ := h
    simp [resolve_length h1]
  | .sl j :: as, es, h => by
    simp only [resolve] at h
    split at h
    · split at h
      · rw [Option.map_eq_some_iff] at h
        obtain ⟨r, h1, rfl⟩ := h
        simp [resolve_length h1]
      · cases h
    · cases h
theorem PAll.get {O : Addr → Prop} {σ : Sg} {H : Hp} : ∀ {vs : List V} {as : List PArg} {i : Nat} {a : PArg}, PAll K O σ H vs as → as[i]? = some a → ∃ v, vs[i]? = some v ∧ PAt K O σ H v a
  | _, _, _, _, .nil, h => by simp at h
  | _, _, 0, _, .cons p _, h => by simp at h; subst h; exact ⟨_, rfl, p⟩
  | _, _, i + 1, a, .cons _ r, h => by
    obtain ⟨v, h1, h2⟩ := PAll.get (i := i) (a := a) r (by simpa using h)
    exact ⟨v, by simpa using h1, h2⟩
theorem PAll.length {O : Addr → Prop} {σ : Sg} {H : Hp} : ∀ {vs : List V} {as : List PArg}, PAll K O σ H vs as → vs.length = as.length
  | _, _, .nil => rfl
  | _, _, .cons _ r => congrArg (· + 1) r.length
/-! ### what a def is handed, what it hands back -/
structure ArgsOk (K : PySem.W.Frag) (np : List Nat) (O : Addr → Prop) (H : Hp) (vs : List V) (es : List Sl) : Prop where
  len : vs.length = es.length
  od : Od O H
  arg : ∀ (i : Nat) (s : Sl), es[i]? = some s → ∃ v : V, vs[i]? = some v ∧ SlotR K O H v s
  dist : ∀ (i j : Nat) (a : Addr) (s t : Sl), es[i]? = some s → s.own = true → vs[i]? = some (.ref a) → es[j]? = some t → t.own = true → vs[j]? = some (.ref a) → i = j
  np : ∀ (i : Nat) (s : Sl), es[i]? = some s → s.own = true → i ∈ np
def argOwn (vs : List V) (es : List Sl) (a : Addr) : Prop := ∃ (i : Nat) (s : Sl), es[i]? = some s ∧ s.own = true ∧ vs[i]? = some (.ref a)
structure HeapOk (K : PySem.W.Frag) (O O' : Addr → Prop) (H H' : Hp) (vs : List V) (es es' : List Sl) : Prop where
  keep : ∀ a o, H a = some o → ¬ argOwn vs es a → H' a = some o
  dom : ∀ a, H' a = none → H a = none
  args : ∀ (i : Nat) (s : Sl), es[i]? = some s → s.own = true → ∃ (s' : Sl) (v : V), es'[i]? = some s' ∧ s'.own = true ∧ vs[i]? = some v ∧ SlotR K O' H' v s'
def CallOk (K : PySem.W.Frag) (fr : Bool) (O : Addr → Prop) (H : Hp) (vs : List V) (es es' : List Sl) (v : V) (d : D) (H' : Hp) : Prop :=
  HeapOk K O O H H' vs es es' ∧ At K O H' v d ∧ (fr = true → ∀ ds, d = .list ds → ∃ (a : Addr) (xs : List V), v = .ref a ∧ H a = none ∧ ¬ O a ∧ H' a = some (.lst xs) ∧ AtAll K (plus O a) H' xs ds ∧ HeapOk K O (plus O a) H H' vs es es')
abbrev FD := List Sl → R (List Sl) (D × List Sl)
def spD (K : PySem.W.Frag) (ca : Str → Addr) (np : List Nat) (fr : Bool) (F : FD) : Sp := fun vs H Q E => ∃ (es : List Sl) (O : Addr → Prop), ArgsOk K np O H vs es ∧
  (F es).post (fun p => ∀ v H', CallOk K fr O H vs es p.2 v p.1 H' → Q v H') (fun x es' => ∀ cls dp H', HeapOk K O O H H' vs es es' → ExnAt K O H' ca x cls dp → E cls dp H')
def spDT (K : PySem.W.Frag) (ca : Str → Addr) (np : List Nat) (fr : Bool) (T : Hp → (Addr → Prop) → V → Hp → D → Prop) (F : FD) : Sp := fun vs H Q E => ∃ (es : List Sl) (O : Addr → Prop), ArgsOk K np O H vs es ∧
  (F es).post (fun p => ∀ v H', CallOk K fr O H vs es p.2 v p.1 H' → T H O v H' p.1 → Q v H') (fun x es' => ∀ cls dp H', HeapOk K O O H H' vs es es' → ExnAt K O H' ca x cls dp → E cls dp H')
/-- a def by its level, by the guards too -/
structure FnG (P : Program) (w : World) (K : PySem.W.Frag) (mg : Str → Option Value) (base : Heap) (k : Nat) (f : Addr) (fd : FuncData) (ps : List Str) (sp : Sp) : Prop where
  run : ∀ (A : Around) (outer : List Env) (s : Shared) (H : Hp) (args : Args) (us : List Value) (vs : List V) (Q : VK) (E : XK), Room k A → A.guards = some [] → Env0 P w K mg base A outer s H → BindsTo s fd args (ps.zip us) → Vals vs us → vs.length = ps.length → sp vs H Q E →
    codeAny (model P w) A (.call (.ref f) args) (CR (L2.CX P w) outer P w H s Q E) s
theorem FnG.mono {P : Program} {w : World} {mg : Str → Option Value} {base : Heap} {j k : Nat} {f : Addr} {fd : FuncData} {ps : List Str} {sp : Sp} (F : FnG P w K mg base j f fd ps sp) (h : j ≤ k) : FnG P w K mg base k f fd ps sp :=
  ⟨fun A outer s H args us vs Q E hr => F.run A outer s H args us vs Q E (hr.mono h)⟩
section
variable {X : Cx} {z : Z} {k : Nat} {f : Addr} {fd : FuncData} {ps : List Str} {sp : Sp} {E : Sg → XK} {x : Str} {p pos : Pos} {e : Expr} {es : List Expr} {t : TA}
theorem run_fnG {pins : List (Addr × Obj)} {σ : Sg} {H : Hp} {s : Shared} {Q : VK} {us : List Value} {vs : List V} (F : FnG X.prog X.w X.K X.mg X.base k f fd ps sp) (hr : Room k X.A) (hg : X.A.guards = some []) (hb : Binds X.K fd ps []) (hx : PassesAt (L2.CX X.prog X.w) X σ (E σ))
    (I : Inv X pins σ H s) (r : Vals vs us) (hl : vs.length = ps.length) (h : sp vs H Q (E σ)) : wpAny (model X.prog X.w) X.A (call (.ref f) us) (EP X pins σ Q) X.xe s := by
  have hl' : us.length = ps.length := by rw [← r.length]; exact hl
  have b := hb s us I.kIn (by rw [List.append_nil]; exact hl')
  rw [List.append_nil] at b
  refine wpAny_call (codeAny_mono (F.run X.A X.stack s H ⟨us, []⟩ us vs Q (E σ) hr hg I.env0 b r hl h) fun r s' hq => ?_)
  cases r with
  | error e => exact hx pins H s e s' I hq
  | ok fl =>
    cases fl with
    | ret u => exact I.after hq
    | next => exact False.elim hq
    | brk => exact False.elim hq
    | cont => exact False.elim hq
def tCallG (n : Nat) (sp : Sp) (E : Sg → XK) (t : TA) : TE := fun σ H Q => t σ H fun vs H1 => vs.length = n ∧ sp vs H1 Q (E σ)
theorem pe_callG (F : FnG X.prog X.w X.K X.mg X.base k f fd ps sp) (hr : Room k X.A) (hgd : X.A.guards = some []) (hg : Gl X x) (hm : X.mg x = some (.ref f)) (hk : PySem.W.keepIn X.K (.ref f) = true) (hb : Binds X.K fd ps []) (hx : ∀ σ, PassesAt (L2.CX X.prog X.w) X σ (E σ))
    (ha : PA X (e :: es) t) (hdb : (x == ("__debug__" : Str)) = false := by decide) (he : starEach (e :: es) X.env = (false, eval e X.env) :: starEach es X.env := by rfl) (hpl : (backTo pos (starEach es X.env)).any (·.1) = false := by rfl) :
    PE X (.Call (.Name x p) (e :: es) [] pos) (tCallG ps.length sp E t) := by
  refine ⟨fun pins s σ H Q I h => ?_⟩
  refine wpAny_Call_Name_kw (ld_glob I hg hm ?_ hdb)
  refine PySem.W.callWith_K (h₀ := X.base) I.ok.mod.kin hk (thn (ha.run pos pins s σ H _ I h) fun us s1 ⟨vs, H1, I1, r, q⟩ => ⟨I1.kIn, ?_⟩) he hpl
  exact run_fnG F hr hgd hb (hx σ) I1 r q.1 q.2
end
end DL
namespace DL
open PySem PySem.Spec PyProof.Rows L2
variable {K : PySem.W.Frag}
def okNp (np : List Nat) : Nat → List Sl → Bool
  | _, [] => true
  | i, s :: r => (!s.own || np.contains i) && okNp np (i + 1) r
theorem okNp_get {np : List Nat} : ∀ {k : Nat} {es : List Sl} {i : Nat} {s : Sl}, okNp np k es = true → es[i]? = some s → s.own = true → k + i ∈ np
  | _, [], _, _, _, h, _ => by simp at h
  | k, t :: r, 0, s, h, h2, ho => by
    have e : t = s := by simpa using h2
    subst e
    simp only [okNp, Bool.and_eq_true, Bool.or_eq_true, Bool.not_eq_true', ho] at h
    rcases h.1 with h | h
    · cases h
    · simpa using h
  | k, t :: r, i + 1, s, h, h2, ho => by
    simp only [okNp, Bool.and_eq_true] at h
    have := okNp_get (k := k + 1) (i := i) h.2 (by simpa using h2) ho
    have e : k + 1 + i = k + (i + 1) := by omega
    rw [← e]; exact this
def fCallF (n : Nat) (np : List Nat) (F : FD) (g : En → R En (List PArg × En)) : EF := fun env => (g env).bind fun p => match resolve p.2 p.1 with
  | some es => if p.1.length = n ∧ (slotsOf p.1).Nodup ∧ okNp np 0 es = true then match F es with
      | .ok (d, es') => .ok (d, back p.1 es' p.2)
      | .err x es' => .err x (back p.1 es' p.2)
      | .stuck => .stuck
    else .stuck
  | none => .stuck
section
variable {np : List Nat} {B : Bs} {σ : Sg} {H H' : Hp} {env : En} {vs : List V} {as : List PArg} {es es' : List Sl} {O' : Addr → Prop}
theorem argOwn_owned (hr : resolve env as = some es) (pa : PAll K (B.O σ env) σ H vs as) {a : Addr} (h : argOwn vs es a) : ∃ j, j ∈ slotsOf as ∧ ownedAt σ env j a := by
  obtain ⟨i, s, h1, h2, h3⟩ := h
  rcases resolve_get hr h1 with ⟨d, q1, rfl⟩ | ⟨j, q1, q2, _⟩
  · cases h2
  · obtain ⟨v, e1, e2⟩ := pa.get q1
    rw [h3] at e1
    cases e1
    exact ⟨j, slotsOf_mem q1, s, q2, h2, e2⟩
theorem args_ok (I : SR K np B σ H env) (hr : resolve env as = some es) (hn : (slotsOf as).Nodup) (pa : PAll K (B.O σ env) σ H vs as) {np' : List Nat} (hnp : okNp np' 0 es = true) : ArgsOk K np' (B.O σ env) H vs es where
  len := by rw [pa.length, resolve_length hr]
  od := I.od
  arg := fun i s h => by
    rcases resolve_get hr h with ⟨d, q1, rfl⟩ | ⟨j, q1, q2, _⟩
    · obtain ⟨v, e1, e2⟩ := pa.get q1
      exact ⟨v, e1, e2⟩
    · obtain ⟨v, e1, e2⟩ := pa.get q1
      obtain ⟨u, e3, q⟩ := I.slot j s q2
      have e2 : σ[j]? = some (some v) := e2
      rw [e2] at e3
      cases e3
      exact ⟨v, e1, q⟩
  dist := fun i j a s t h1 h2 h3 h4 h5 h6 => by
    rcases resolve_get hr h1 with ⟨d, q1, rfl⟩ | ⟨k, q1, q2, _⟩
    · cases h2
    rcases resolve_get hr h4 with ⟨d, q3, rfl⟩ | ⟨l, q3, q4, _⟩
    · cases h5
    obtain ⟨v, e1, e2⟩ := pa.get q1
    obtain ⟨u, e3, e4⟩ := pa.get q3
    rw [h3] at e1
    cases e1
    rw [h6] at e3
    cases e3
    have := I.dist k l a ⟨s, q2, h2, e2⟩ ⟨t, q4, h5, e4⟩
    subst this
    have key : ∀ {as : List PArg} {i j : Nat}, (slotsOf as).Nodup → as[i]? = some (.sl k) → as[j]? = some (.sl k) → i = j := by
      intro as
      induction as with
      | nil => intro i j _ h; simp at h
      | cons a r ih =>
        intro i j hn h1 h2
        cases a with
        | im d =>
          cases i with
          | zero => simp at h1
          | succ i =>
            cases j with
            | zero => simp at h2
            | succ j => exact congrArg (· + 1) (ih (i := i) (j := j) hn (by simpa using h1) (by simpa using h2))
        | sl m =>
          simp only [slotsOf, List.nodup_cons] at hn
          cases i with
          | zero =>
            have e : m = k := by simpa using h1
            cases j with
            | zero => rfl
            | succ j => exact absurd (slotsOf_mem (i := j) (by simpa using h2)) (e ▸ hn.1)
          | succ i =>
            cases j with
            | zero =>
              have e : m = k := by simpa using h2
              exact absurd (slotsOf_mem (i := i) (by simpa using h1)) (e ▸ hn.1)
            | succ j => exact congrArg (· + 1) (ih (i := i) (j := j) hn.2 (by simpa using h1) (by simpa using h2))
    exact key hn q1 q3
  np := fun i s h ho => by
    have := okNp_get hnp h ho
    simpa using this
theorem called_slots (I : SR K np B σ H env) (hr : resolve env as = some es) (hn : (slotsOf as).Nodup) (pa : PAll K (B.O σ env) σ H vs as) (hO : ∀ a, O' a → B.O σ env a ∨ H a = none) (hO2 : ∀ a, B.O σ env a → O' a) (hk : HeapOk K (B.O σ env) O' H H' vs es es') :
    (∀ j a, ownedAt σ (back as es' env) j a ↔ ownedAt σ env j a) ∧ Clean K O' σ H' (back as es' env) ∧ Mv (B.O σ env) O' H H' := by
  have m : Mv (B.O σ env) O' H H' := ⟨fun a o e n => hk.keep a o e fun w => by
    obtain ⟨j, _, q⟩ := argOwn_owned hr pa w
    exact n (.inr ⟨j, q⟩), hO, hk.dom⟩
  -- what stands in a slot that was handed over
  have inS : ∀ {j : Nat}, j ∈ slotsOf as → ∃ (i : Nat) (s s' : Sl) (v : V), env[j]? = some (some s) ∧ s.own = true ∧ (back as es' env)[j]? = some (some s') ∧ s'.own = true ∧ σ[j]? = some (some v) ∧ SlotR K O' H' v s' := fun {j} hj => by
    obtain ⟨i, q⟩ := mem_slotsOf hj
    have hi : i < as.length := (List.getElem?_eq_some_iff.mp q).1
    have hi2 : i < es.length := by rw [resolve_length hr]; exact hi
    have hes : es[i]? = some es[i] := List.getElem?_eq_getElem hi2
    rcases resolve_get hr hes with ⟨d, q1, _⟩ | ⟨k, q1, q2, q3⟩
    · rw [q] at q1; cases q1
    · rw [q] at q1
      cases q1
      obtain ⟨s', v, h1, h2, h3, h4⟩ := hk.args i _ hes q3
      obtain ⟨u, e1, e2⟩ := pa.get q
      rw [h3] at e1
      cases e1
      exact ⟨i, _, s', v, q2, q3, back_in hn q h1 (List.getElem?_eq_some_iff.mp q2).1, h2, e2, h4⟩
  have ow : ∀ j a, ownedAt σ (back as es' env) j a ↔ ownedAt σ env j a := fun j a => by
    by_cases hj : j ∈ slotsOf as
    · obtain ⟨i, s, s', v, q1, q2, q3, q4, q5, q6⟩ := inS hj
      constructor
      · rintro ⟨t, h1, h2, h3⟩
        exact ⟨s, q1, q2, h3⟩
      · rintro ⟨t, h1, h2, h3⟩
        exact ⟨s', q3, q4, h3⟩
    · constructor
      · rintro ⟨t, h1, h2, h3⟩
        exact ⟨t, by rw [back_out hj] at h1; exact h1, h2, h3⟩
      · rintro ⟨t, h1, h2, h3⟩
        exact ⟨t, by rw [back_out hj]; exact h1, h2, h3⟩
  refine ⟨ow, fun j t h => ?_, m⟩
  by_cases hj : j ∈ slotsOf as
  · obtain ⟨i, s, s', v, q1, q2, q3, q4, q5, q6⟩ := inS hj
    rw [q3] at h
    cases h
    exact ⟨v, q5, q6⟩
  · rw [back_out hj] at h
    obtain ⟨v, e, q⟩ := I.slot j t h
    refine ⟨v, e, q.mv m (fun a ea ho => hO2 a (.inr ⟨j, t, h, ho, ea ▸ e⟩)) fun a o ea ho z => hk.keep a o z fun w => ?_⟩
    obtain ⟨l, hl, q'⟩ := argOwn_owned hr pa w
    exact hj (I.dist l j a q' ⟨t, h, ho, ea ▸ e⟩ ▸ hl)
theorem SR.called (I : SR K np B σ H env) (hr : resolve env as = some es) (hn : (slotsOf as).Nodup) (pa : PAll K (B.O σ env) σ H vs as) (hk : HeapOk K (B.O σ env) (B.O σ env) H H' vs es es') :
    SR K np B σ H' (back as es' env) ∧ Mv (B.O σ env) (B.O σ (back as es' env)) H H' ∧ ∀ a, B.O σ (back as es' env) a ↔ B.O σ env a := by
  obtain ⟨ow, cl, m⟩ := called_slots I hr hn pa (fun a h => .inl h) (fun a h => h) hk
  have eO : ∀ a, B.O σ (back as es' env) a ↔ B.O σ env a := fun a => ⟨fun w => w.elim .inl fun ⟨j, q⟩ => .inr ⟨j, (ow j a).1 q⟩, fun w => w.elim .inl fun ⟨j, q⟩ => .inr ⟨j, (ow j a).2 q⟩⟩
  have nArg : ∀ a, (∀ i, ¬ ownedAt σ env i a) → ¬ argOwn vs es a := fun a h w => by
    obtain ⟨j, _, q⟩ := argOwn_owned hr pa w
    exact h j q
  refine ⟨⟨by rw [back_length]; exact I.len, fun j t h => ?_, fun i j a h1 h2 => I.dist i j a ((ow i a).1 h1) ((ow j a).1 h2), fun a o h n => ?_, fun a h => I.dom a (hk.dom a h), fun i a h => I.new i a ((ow i a).1 h), fun a h => ⟨fun w => (I.o0 a h).1 (hk.dom a w), (I.o0 a h).2⟩, fun a o h => ?_, fun i a h => I.kpo i a ((ow i a).1 h), fun i a h => I.own0 i a ((ow i a).1 h), fun p hp => ?_, I.fix⟩, m.trans (Mv.less fun a => (eO a).1), eO⟩
  · obtain ⟨v, e, q⟩ := cl j t h
    exact ⟨v, e, q.mv (Mv.less fun a => (eO a).1) (fun a ea ho => .inr ⟨j, t, h, ho, ea ▸ e⟩) fun _ _ _ _ z => z⟩
  · refine hk.keep a o (I.keep a o h n) (nArg a fun i q => ?_)
    rcases I.new i a q with w | w
    · exact n _ w rfl
    · rw [w] at h; cases h
  · refine hk.keep a o (I.kept a o h) (nArg a fun i q => ?_)
    rw [I.kpo i a q] at h; cases h
  · obtain ⟨h1, h2, h3⟩ := I.par p hp
    exact ⟨(ow _ _).2 h1, h2, h3⟩
end
theorem ExnAt.mv {O O' : Addr → Prop} {H : Hp} {ca : Str → Addr} {x : Exn} {cls : Value} {dp : Option Addr} (h : ExnAt K O H ca x cls dp) (hl : ∀ a, O' a → O a) : ExnAt K O' H ca x cls dp := by
  obtain ⟨e, h⟩ := h
  refine ⟨e, ?_⟩
  cases q : x.dat with
  | nil => rw [q] at h; exact h
  | cons f fs =>
    rw [q] at h
    obtain ⟨d, vs, h1, h2, h3, h4⟩ := h
    exact ⟨d, vs, h1, ⟨h2.1, fun z => h2.2 (hl d z)⟩, h3, AtAll.mv (Mv.less hl) h4⟩
section
variable {X : Cx} {z : Z} {k : Nat} {f : Addr} {fd : FuncData} {ps : List Str} {x : Str} {p pos : Pos} {e : Expr} {es : List Expr}
theorem de_call {np' : List Nat} {fr : Bool} {F : FD} {g : En → R En (List PArg × En)} (G : FnG X.prog X.w X.K X.mg X.base k f fd ps (spD X.K z.ca np' fr F)) (hr : Room k X.A) (hgd : X.A.guards = some []) (hg : Gl X x) (hm : X.mg x = some (.ref f)) (hk : PySem.W.keepIn X.K (.ref f) = true) (hb : Binds X.K fd ps [])
    (tk : Takes X z.W) (ha : DC z X (e :: es) g) (hdb : (x == ("__debug__" : Str)) = false := by decide) (he : starEach (e :: es) X.env = (false, eval e X.env) :: starEach es X.env := by rfl) (hpl : (backTo pos (starEach es X.env)).any (·.1) = false := by rfl) :
    DE z X fr (.Call (.Name x p) (e :: es) [] pos) (fCallF ps.length np' F g) := by
  refine de_imp (pe_callG G hr hgd hg hm hk hb (fun σ => passAt tk σ) ha hdb he hpl) fun B env σ H Q I hp => ?_
  refine ⟨B, env, I, (R.post_bind hp).imp (fun p hp vs H1 I1 m1 pa => ?_) fun _ _ q => q⟩
  obtain ⟨as, e1⟩ := p
  dsimp only at hp I1 m1 pa
  split at hp
  · rename_i es hres
    split at hp
    · rename_i hc
      obtain ⟨hlen, hnd, hnp⟩ := hc
      refine ⟨by rw [pa.length]; exact hlen, es, B.O σ e1, args_ok I1 hres hnd pa hnp, ?_⟩
      cases hF : F es with
      | stuck => rw [hF] at hp; exact hp
      | ok q =>
        obtain ⟨d, es'⟩ := q
        rw [hF] at hp
        intro v H' hcall
        obtain ⟨hk1, hk2, hk3⟩ := hcall
        obtain ⟨I2, m2, eO⟩ := I1.called hres hnd pa hk1
        refine hp v H' I2 (m1.trans m2) (At.mv (Mv.less fun a => (eO a).1) hk2) fun hf ds ed => ?_
        obtain ⟨a, xs, e2, na, nO, ha, hx, hh⟩ := hk3 hf ds ed
        obtain ⟨_, cl, _⟩ := called_slots I1 hres hnd pa (fun b w => w.elim .inl fun w => .inr (w ▸ na)) (fun b w => .inl w) hh
        have less : ∀ b, plus (B.O σ (back as es' e1)) a b → plus (B.O σ e1) a b := fun b w => w.elim (fun w => .inl ((eO b).1 w)) .inr
        refine ⟨a, xs, e2, m1.dom a na, fun w => nO ((eO a).1 w), ha, AtAll.mv (Mv.less less) hx, fun j t ht => ?_⟩
        obtain ⟨u, e3, q⟩ := cl j t ht
        exact ⟨u, e3, q.mv (Mv.less less) (fun b eb ho => .inl (.inr ⟨j, t, ht, ho, eb ▸ e3⟩)) fun _ _ _ _ z => z⟩
      | err x es' =>
        rw [hF] at hp
        intro cls dp H' hk1 hx
        obtain ⟨I2, m2, eO⟩ := I1.called hres hnd pa hk1
        exact hp cls dp H' I2 (m1.trans m2) (hx.mv fun a => (eO a).1)
    · exact hp.elim
  · exact hp.elim
/-- within a comprehension's block nothing is let out -/
theorem takes_no : Takes X (fun _ _ _ _ => False) := fun u s' ⟨_, _, _, _, _, _, _, _, _, _, _, _, _, _, _, _, w⟩ => w.elim
end
/-! ### a def -/
def backP (n : Nat) (e : En) : List Sl := (e.take n).map fun o => o.getD (.im .none)
def runD (n : Nat) (g : SF) : FD := fun es => match g (es.map some ++ List.replicate (n - es.length) none) with
  | .ok (.rt d e) => .ok (d, backP es.length e)
  | .ok (.nx e) => .ok (.none, backP es.length e)
  | .err x e => .err x (backP es.length e)
  | _ => .stuck
theorem start_get {α : Type} {es : List α} {m i : Nat} {s : α} : (es.map some ++ List.replicate m none)[i]? = some (some s) ↔ es[i]? = some s := by
  by_cases h : i < es.length
  · rw [List.getElem?_append_left (by simpa using h), List.getElem?_map]
    cases es[i]? <;> simp
  · have e2 : es[i]? = none := List.getElem?_eq_none (by omega)
    rw [List.getElem?_append_right (by simpa using h), e2]
    constructor
    · intro q
      rw [List.getElem?_replicate] at q
      split at q
      · cases q
      · cases q
    · intro q; cases q
theorem backP_get {n i : Nat} {e : En} {s : Sl} (hi : i < n) (h : e[i]? = some (some s)) : (backP n e)[i]? = some s := by
  unfold backP
  rw [List.getElem?_map, List.getElem?_take_of_lt hi, h]
  rfl
def psOf (vs : List V) (es : List Sl) : List (Nat × Addr) := (List.range vs.length).filterMap fun i => match es[i]?, vs[i]? with
  | some s, some (V.ref a) => if s.own = true then some (i, a) else none
  | _, _ => none
theorem mem_psOf {vs : List V} {es : List Sl} {p : Nat × Addr} : p ∈ psOf vs es ↔ ∃ s, es[p.1]? = some s ∧ s.own = true ∧ vs[p.1]? = some (.ref p.2) := by
  unfold psOf
  rw [List.mem_filterMap]
  constructor
  · rintro ⟨i, _, h⟩
    split at h
    · rename_i s a h1 h2
      split at h
      · rename_i ho
        cases h
        exact ⟨s, h1, ho, h2⟩
      · cases h
    · cases h
  · rintro ⟨s, h1, h2, h3⟩
    exact ⟨p.1, List.mem_range.mpr (List.getElem?_eq_some_iff.mp h3).1, by rw [h1, h3]; simp [h2]⟩
section
variable {P : Program} {w : World} {mg : Str → Option Value} {base : Heap}
theorem sem_def {ca : Str → Addr} {np : List Nat} {fr : Bool} {T : Hp → (Addr → Prop) → V → Hp → D → Prop} {g : SF} {n : Nat} {vs : List V} {H : Hp} {Q : VK} {E : XK} {N : List Str} (hN : N.length = n) (hl : vs.length ≤ n) (hT0 : ∀ O H', T H O .non H' .none) (h : spDT K ca np fr T (runD n g) vs H Q E) :
    tS K ⟨ca, np, fun c d _ H => E c d H, T⟩ fr g { nx := fun _ H' => Q .non H', rt := Q } (start N vs) H := by
  obtain ⟨es, O, ao, hp⟩ := h
  have hlen := ao.len
  have ow : ∀ i a, ownedAt (start N vs) (es.map some ++ List.replicate (n - es.length) none) i a ↔ (i, a) ∈ psOf vs es := fun i a => by
    rw [mem_psOf]
    constructor
    · rintro ⟨s, h1, h2, h3⟩
      exact ⟨s, start_get.1 h1, h2, start_get.1 h3⟩
    · rintro ⟨s, h1, h2, h3⟩
      exact ⟨s, start_get.2 h1, h2, start_get.2 h3⟩
  have argps : ∀ a, argOwn vs es a ↔ ∃ p ∈ psOf vs es, p.2 = a := fun a => by
    constructor
    · rintro ⟨i, s, h1, h2, h3⟩
      exact ⟨(i, a), mem_psOf.2 ⟨s, h1, h2, h3⟩, rfl⟩
    · rintro ⟨p, hp, rfl⟩
      obtain ⟨s, h1, h2, h3⟩ := mem_psOf.1 hp
      exact ⟨p.1, s, h1, h2, h3⟩
  have argO : ∀ a, argOwn vs es a → O a ∧ ∃ o, H a = some o := fun a ⟨i, s, h1, h2, h3⟩ => by
    obtain ⟨v, e, q⟩ := ao.arg i s h1
    rw [h3] at e
    cases e
    obtain ⟨b, o, e, q1, q2⟩ := q.ref h2
    cases e
    exact ⟨q1, o, q2⟩
  let B : Bs := ⟨fun a => O a ∧ ¬ argOwn vs es a, H, psOf vs es, fun _ => none, []⟩
  have eOp : ∀ a, B.Op a ↔ O a := fun a => by
    constructor
    · rintro (h | h)
      · exact h.1
      · exact (argO a ((argps a).2 h)).1
    · intro h
      by_cases q : argOwn vs es a
      · exact .inr ((argps a).1 q)
      · exact .inl ⟨h, q⟩
  have eO : ∀ a, B.O (start N vs) (es.map some ++ List.replicate (n - es.length) none) a ↔ O a := fun a => by
    constructor
    · rintro (h | ⟨i, h⟩)
      · exact h.1
      · exact (argO a ((argps a).2 ⟨_, (ow i a).1 h, rfl⟩)).1
    · intro h
      by_cases q : argOwn vs es a
      · obtain ⟨p, hp, e⟩ := (argps a).1 q
        exact .inr ⟨p.1, (ow _ _).2 (by rw [← e]; exact hp)⟩
      · exact .inl ⟨h, q⟩
  have I : SR K np B (start N vs) H (es.map some ++ List.replicate (n - es.length) none) := by
    refine ⟨?_, fun i s h => ?_, fun i j a h1 h2 => ?_, fun a o h _ => h, fun a h => h, fun i a h => .inl ((ow i a).1 h), fun a h => ?_, (fun a o h => nomatch h), fun _ _ _ => rfl, fun i a h w => ?_, fun p hp => ?_, fun p hp => (by cases hp)⟩
    · unfold L2.start
      simp only [List.length_append, List.length_map, List.length_replicate]
      omega
    · obtain ⟨v, e, q⟩ := ao.arg i s (start_get.1 h)
      refine ⟨v, start_get.2 e, q.mv (Mv.less fun a => (eO a).1) (fun a ea ho => .inr ⟨i, s, h, ho, start_get.2 (ea ▸ e)⟩) fun _ _ _ _ z => z⟩
    · obtain ⟨s, q1, q2, q3⟩ := mem_psOf.1 ((ow i a).1 h1)
      obtain ⟨t, q4, q5, q6⟩ := mem_psOf.1 ((ow j a).1 h2)
      exact ao.dist i j a s t q1 q2 q3 q4 q5 q6
    · refine ⟨fun e => ao.od a e h.1, fun p hp e => h.2 ((argps a).2 ⟨p, hp, e⟩)⟩
    · exact w.2 ((argps a).2 ⟨_, (ow i a).1 h, rfl⟩)
    · obtain ⟨s, q1, q2, q3⟩ := mem_psOf.1 hp
      refine ⟨(ow _ _).2 hp, fun e => ?_, ao.np p.1 s q1 q2⟩
      obtain ⟨_, o, e2⟩ := argO p.2 ⟨p.1, s, q1, q2, q3⟩
      have e : H p.2 = none := e
      rw [e] at e2; cases e2
  have heapOk : ∀ {σ' : Sg} {H' : Hp} {e : En} {O' : Addr → Prop}, SR K np B σ' H' e → (∀ p ∈ psOf vs es, ∃ s, e[p.1]? = some (some s) ∧ s.own = true ∧ SlotR K O' H' (.ref p.2) s) → HeapOk K O O' H H' vs es (backP es.length e) := fun {σ' H' e O'} J hs =>
    ⟨fun a o h n => J.keep a o h fun p hp q => n ((argps a).2 ⟨p, hp, q⟩), J.dom, fun i s h ho => by
      obtain ⟨v, e1, q⟩ := ao.arg i s h
      obtain ⟨a, o, rfl, q1, q2⟩ := q.ref ho
      obtain ⟨s', h1, h2, h3⟩ := hs (i, a) (mem_psOf.2 ⟨s, h, ho, e1⟩)
      exact ⟨s', .ref a, backP_get (List.getElem?_eq_some_iff.mp h).1 h1, h2, e1, h3⟩⟩
  have parO : ∀ {σ' : Sg} {H' : Hp} {e : En}, SR K np B σ' H' e → ∀ p ∈ psOf vs es, ∃ s, e[p.1]? = some (some s) ∧ s.own = true ∧ SlotR K O H' (.ref p.2) s := fun {σ' H' e} J p hp => by
    obtain ⟨s, h1, h2, h3⟩ := J.parSlot J.slot p hp
    exact ⟨s, h1, h2, h3.mv (Mv.less fun a h => J.op a ((eOp a).2 h)) (fun a ea _ => by cases ea; exact (eOp _).1 (.inr ⟨p, hp, rfl⟩)) fun _ _ _ _ z => z⟩
  refine ⟨B, _, I, ?_⟩
  unfold runD at hp
  cases hg : g (es.map some ++ List.replicate (n - es.length) none) with
  | stuck => rw [hg] at hp; exact hp
  | err x e =>
    rw [hg] at hp
    exact fun cls dp σ' H' J m hx => hp cls dp H' (heapOk J (parO J)) (hx.mv fun a h => J.op a ((eOp a).2 h))
  | ok o =>
    rw [hg] at hp
    cases o with
    | nx e => exact fun σ' H' J m => hp .non H' ⟨heapOk J (parO J), .non, fun _ _ q => nomatch q⟩ (hT0 O H')
    | bk e => exact hp.elim
    | ct e => exact hp.elim
    | rt d e =>
      intro v σ' H' J m ro rt
      rw [show B.Op = O from funext fun a => propext (eOp a)] at rt
      refine hp v H' ⟨heapOk J (parO J), At.mv (Mv.less fun a h => (eOp a).2 h) ro.1, fun hf ds ed => ?_⟩ rt
      obtain ⟨a, xs, e1, na, nO, ha, hx, hpar⟩ := ro.2 hf ds ed
      have less : ∀ b, plus O a b → plus B.Op a b := fun b w => w.elim (fun w => .inl ((eOp b).2 w)) .inr
      refine ⟨a, xs, e1, na, fun w => nO ((eOp a).2 w), ha, AtAll.mv (Mv.less less) hx, heapOk J fun p hp' => ?_⟩
      obtain ⟨s, h1, h2, h3⟩ := hpar p hp'
      exact ⟨s, h1, h2, h3.mv (Mv.less less) (fun b eb _ => by cases eb; exact .inl ((eOp _).1 (.inr ⟨p, hp', rfl⟩))) fun _ _ _ _ z => z⟩
/-- THE RULE of a def -/
theorem fun_okT {T : Hp → (Addr → Prop) → V → Hp → D → Prop} {x qual : Str} {st : Stmt} {f : Addr} {fd : FuncData} {N ps : List Str} {k : Nat} {ca : Str → Addr} {np : List Nat} {fr : Bool} {g : SF} (F : Fun K x qual st f fd) (S : FnScope N ps (defScope st)) (hps : ps.length ≤ N.length) (hT0 : ∀ H O H', T H O .non H' .none)
    (hbody : ∀ (cdv : Value) (A : Around) (outer : List Env) (s : Shared) (H : Hp) (E : XK), Room k (A.deeper (envOfC qual (defScope st) s.heap.objs.size f cdv)) → A.guards = some [] →
      DSs ⟨ca, np, fun c d _ H => E c d H, T⟩ (cxOf (L2.CX P w) P w K mg base N qual (defScope st) f cdv A outer s H E) fr (defBody st) g) :
    FnG P w K mg base (k + 1) f fd ps (spDT K ca np fr T (runD N.length g)) := by
  obtain ⟨oc, od, kV, doc, pm, an, cdv, ct, osl, rfl, lk, hcd⟩ := F.ex
  refine ⟨fun A outer s H args us vs Q E hr hgd e0 hb r hl hsp => ?_⟩
  have KX : K.In s.heap := e0.mod.kin.keeps fun b o e => (e0.bs b o e).1
  have lim : s.heap.NoLimit := e0.mod.nolimit.keeps fun b o e => (e0.bs b o e).1
  have hkind : ∀ y ∈ ps.zip us, (defScope st).names.lookup y.1 = some .local ∨ ((defScope st).names.lookup y.1 = some .cell ∧ ((cellsFrom (s.heap.objs.size + 1) (defScope st).names []).lookup y.1).isSome = true) := fun ⟨n, v⟩ hy => by
    rcases S.par n (List.of_mem_zip hy).1 with q | q
    · exact .inl q
    · exact .inr ⟨q, PySem.W.cellsFrom_some _ _ _ (.inl q)⟩
  refine codeAny_call_function hr.depth (KX _ _ lk) rfl S.co S.gen rfl (PySem.W.codeRec_of KX hcd) (hb _ _ _ _ ?_)
  refine wpAny_newFunctionEnv_cells S.kind hkind fun env he s1 x => ?_
  subst he
  refine ⟨lim.keeps x.toInCall.keep, codeAny_func ?_⟩
  have ht := hbody cdv A outer s H E (hr.deeper _) hgd
  have I : Inv (cxOf (L2.CX P w) P w K mg base N qual (defScope st) f cdv A outer s H E) [] (start N vs) H s1 := inv_start S hr.hd e0 hl r x
  refine wpAny_mono (ht.run [] s1 (start N vs) H _ I (sem_def rfl (by rw [hl]; exact hps) (hT0 H) hsp)) (fun fl s' hs => ?_) fun e s' hs => hs
  have fin : ∀ {σ' : Sg} {H' : Hp} {v : V} {u : Value}, Inv (cxOf (L2.CX P w) P w K mg base N qual (defScope st) f cdv A outer s H E) [] σ' H' s' → RelV v u → Q v H' → CE outer P w H s Q u s' :=
    fun {σ' H' v u} J rv q => ⟨v, H', J.os, J.bare, J.base, J.hok, rv, q⟩
  cases fl with
  | ret u =>
    obtain ⟨v, σ', H', J, rv, q⟩ := hs
    exact fin J rv q
  | next =>
    obtain ⟨σ', H', J, q⟩ := hs
    exact fin (v := V.non) (u := Value.none) J rfl q
  | brk =>
    obtain ⟨_, _, _, q⟩ := hs
    exact False.elim q
  | cont =>
    obtain ⟨_, _, _, q⟩ := hs
    exact False.elim q
theorem FnG.weak {f : Addr} {fd : FuncData} {ps : List Str} {k : Nat} {sp sp' : Sp} (F : FnG P w K mg base k f fd ps sp) (h : ∀ vs H Q E, sp' vs H Q E → sp vs H Q E) : FnG P w K mg base k f fd ps sp' :=
  ⟨fun A outer s H args us vs Q E hr hgd e0 hb r hl hsp => F.run A outer s H args us vs Q E hr hgd e0 hb r hl (h vs H Q E hsp)⟩
theorem spDT_of {ca : Str → Addr} {np : List Nat} {fr : Bool} {T : Hp → (Addr → Prop) → V → Hp → D → Prop} {F : FD} {vs : List V} {H : Hp} {Q : VK} {E : XK} (h : spD K ca np fr F vs H Q E) : spDT K ca np fr T F vs H Q E := by
  obtain ⟨es, O, ao, hp⟩ := h
  exact ⟨es, O, ao, hp.imp (fun p q v H' c _ => q v H' c) fun _ _ q => q⟩
theorem fun_okG {x qual : Str} {st : Stmt} {f : Addr} {fd : FuncData} {N ps : List Str} {k : Nat} {ca : Str → Addr} {np : List Nat} {fr : Bool} {g : SF} (F : Fun K x qual st f fd) (S : FnScope N ps (defScope st)) (hps : ps.length ≤ N.length)
    (hbody : ∀ (cdv : Value) (A : Around) (outer : List Env) (s : Shared) (H : Hp) (E : XK), Room k (A.deeper (envOfC qual (defScope st) s.heap.objs.size f cdv)) → A.guards = some [] →
      DSs ⟨ca, np, fun c d _ H => E c d H, fun _ _ _ _ _ => True⟩ (cxOf (L2.CX P w) P w K mg base N qual (defScope st) f cdv A outer s H E) fr (defBody st) g) :
    FnG P w K mg base (k + 1) f fd ps (spD K ca np fr (runD N.length g)) :=
  (fun_okT (T := fun _ _ _ _ _ => True) F S hps (fun _ _ _ => trivial) hbody).weak fun _ _ _ _ h => spDT_of h
end
end DL
namespace DL
open PySem PySem.Spec PyProof.Rows L2
variable {K : PySem.W.Frag}
section
variable {X : Cx} {z : Z}
theorem dts_nil : PTs X [] (tT X.K z fun env => .ok (true, env)) := ⟨fun pins s σ H Q I ⟨B, env, J, p⟩ => pts_nil.run pins s σ H Q I (p H J .refl)⟩
theorem dts_one {c : Expr} {f : En → R En (Bool × En)} (h : DT z X c f) : PTs X [c] (tT X.K z f) := pts_one h
theorem dt_chain {op op' : CmpOp} {fa fb fc : Bool} {f g k : EF} {h h' : D → D → Option D} {a b c : Expr} {pos : Pos} (ho : OpD X (compareOp op) true h) (ho' : OpD X (compareOp op') true h') (ha : DE z X fa a f) (hb : DE z X fb b g) (hc : DE z X fc c k)
    (hm : lastMarks [op, op'] [b, c] = false := by with_unfolding_all rfl) : DT z X (.Compare a [op, op'] [b, c] pos) (fBool (fChain h h' f g k)) := by
  obtain ⟨r, hr, sem⟩ := ho
  obtain ⟨r', hr', sem'⟩ := ho'
  refine dt_imp (pt_chain hr hr' ha hb hc hm) fun B env σ H Q I hp => ?_
  have hp := (R.post_bind hp)
  refine ⟨B, env, I, (R.post_bind hp).imp (fun p hp v H1 I1 m1 a1 _ => ?_) fun _ _ q => q⟩
  refine ⟨B, p.2, I1, (R.post_bind hp).imp (fun q hq u H2 I2 m2 a2 _ => ?_) fun x e hx => hx.step m1⟩
  obtain ⟨w, ew, hw⟩ := ofO_post (R.post_bind hq)
  refine sem _ H2 v u p.1 q.1 w _ I2.od (At.mv m2 a1) a2 ew fun v' H3 rr => ?_
  have I3 := I2.ex rr.1
  have m3 : Mv (B.O σ env) (B.O σ q.2) H H3 := (m1.trans m2).trans (Mv.ex rr.1)
  cases w with
  | bool t =>
    have av := rr.2.1
    cases av
    refine ⟨t, rfl, ?_⟩
    cases t with
    | false => exact ⟨false, rfl, hw H3 I3 m3⟩
    | true =>
      refine ⟨B, q.2, I3, (R.post_bind hw).imp (fun s hs u' H4 I4 m4 a4 _ => ?_) fun x e hx => hx.step m3⟩
      obtain ⟨w', ew', hw'⟩ := ofO_post (R.post_bind hs)
      refine sem' _ H4 u u' q.1 s.1 w' _ I4.od (At.mv m4 (At.mv (Mv.ex rr.1) a2)) a4 ew' fun v'' H' rr' => ?_
      cases w' with
      | bool t' =>
        have av' := rr'.2.1
        cases av'
        exact ⟨t', rfl, hw' H' (I4.ex rr'.1) ((m3.trans m4).trans (Mv.ex rr'.1))⟩
      | _ => exact hw'.elim
  | _ => exact hw.elim
end
/-! ### a def that keeps its promise, found by its name -/
def Lk (K : PySem.W.Frag) (f : Addr) (fd : FuncData) : Prop := ∃ (oc : Value) (od : Option Addr) (osl : Array (Option Value)), K.lookup f = some ⟨oc, od, .func fd, osl⟩
theorem Lk.same {K : PySem.W.Frag} {f : Addr} {fd fd' : FuncData} (h : Lk K f fd) (h' : Lk K f fd') : fd = fd' := by
  obtain ⟨_, _, _, e⟩ := h
  obtain ⟨_, _, _, e'⟩ := h'
  rw [e] at e'
  cases e'
  rfl
theorem lk_of {K : PySem.W.Frag} {x q : Str} {st : Stmt} {f : Addr} {fd : FuncData} (h : Fun K x q st f fd) : Lk K f fd := by
  obtain ⟨oc, od, kV, doc, pm, an, cdv, ct, osl, e, lk, _⟩ := h.ex
  exact ⟨oc, od, osl, lk⟩
def Has (P : Program) (w : World) (K : PySem.W.Frag) (mg : Str → Option Value) (base : Heap) (ca : Str → Addr) (x : Str) (k : Nat) (ps : List Str) (np : List Nat) (fr : Bool) (F : FD) : Prop :=
  ∃ (f : Addr) (fd : FuncData), mg x = some (.ref f) ∧ PySem.W.keepIn K (.ref f) = true ∧ L2.Binds K fd ps [] ∧ FnG P w K mg base k f fd ps (spD K ca np fr F) ∧ Lk K f fd
/-- a def that stands in the text -/
def Stands (K : PySem.W.Frag) (mg : Str → Option Value) (x : Str) (st : Stmt) (ps : List Str) : Prop :=
  ∃ (f : Addr) (fd : FuncData), mg x = some (.ref f) ∧ Fun K x x st f fd ∧ L2.Binds K fd ps []
section
variable {P : Program} {w : World} {mg : Str → Option Value} {base : Heap} {ca : Str → Addr}
theorem Stands.has {x : Str} {st : Stmt} {N ps : List Str} {k : Nat} {np : List Nat} {fr : Bool} {g : SF} {n : Nat} (S : Stands K mg x st ps) (sc : FnScope N ps (defScope st)) (hps : ps.length ≤ N.length) (hn : N.length = n)
    (hbody : ∀ (f : Addr) (cdv : Value) (A : Around) (outer : List Env) (s : Shared) (H : Hp) (E : XK), Room k (A.deeper (envOfC x (defScope st) s.heap.objs.size f cdv)) → A.guards = some [] →
      DSs ⟨ca, np, fun c d _ H => E c d H, fun _ _ _ _ _ => True⟩ (cxOf (L2.CX P w) P w K mg base N x (defScope st) f cdv A outer s H E) fr (defBody st) g) :
    Has P w K mg base ca x (k + 1) ps np fr (runD n g) := by
  obtain ⟨f, fd, h1, h2, h3⟩ := S
  subst hn
  exact ⟨f, fd, h1, h2.kp, h3, fun_okG h2 sc hps fun cdv A outer s H E => hbody f cdv A outer s H E, lk_of h2⟩
end
section
variable {X : Cx} {z : Z} {k j n : Nat} {ps : List Str} {x : Str} {p pos : Pos} {e : Expr} {es : List Expr} {np' : List Nat} {fr : Bool} {F : FD} {g : En → R En (List PArg × En)}
theorem de_callH (h : Has X.prog X.w X.K X.mg X.base z.ca x j ps np' fr F) (hr : Room k X.A) (hj : j ≤ k) (hgd : X.A.guards = some []) (hg : Gl X x) (hn : ps.length = n)
    (tk : Takes X z.W) (ha : DC z X (e :: es) g) (hdb : (x == ("__debug__" : Str)) = false := by decide) (he : starEach (e :: es) X.env = (false, eval e X.env) :: starEach es X.env := by rfl) (hpl : (backTo pos (starEach es X.env)).any (·.1) = false := by rfl) :
    DE z X fr (.Call (.Name x p) (e :: es) [] pos) (fCallF n np' F g) := by
  obtain ⟨f, fd, h1, h2, h3, h4, _⟩ := h
  subst hn
  exact de_call (h4.mono hj) hr hgd hg h1 h2 h3 tk ha hdb he hpl
end
/-! ### the end -/
theorem law_callG {P : Program} {w : World} {mg mb : Str → Option Value} {k : Nat} {fa a : Addr} {fd : FuncData} {x : Str} {sp : Sp} {s₁ : Shared} {vs : List Value} {ns : List Int}
    (KX : K.In s₁.heap) (hns : s₁.heap.Ns mainGlobals mg) (hb : s₁.heap.Ns builtinsNs mb) (hbb : ∀ x : Str, x ≠ "__name__" → mb x = bootBuiltins x) (hlim : s₁.heap.NoLimit) (hg : s₁.gens = #[])
    (ha : s₁.heap.get? a = some { cls := .type "list", data := .seq vs.toArray }) (hi : IntsAre vs ns) (hl : ns.length ≤ sizeLine) (hr : Room k callerA)
    (F : ∀ base : Heap, K.In base → base.Ns mainGlobals mg → FnG P w K mg base k fa fd [x] sp) (hbind : L2.Binds K fd [x] [])
    (hsp : ∀ H : Hp, Only H → SqL K H a (ns.map V.int) → sp [.ref a] H (fun v _ => v = .bl true) fun _ _ _ => False)
    (hCX : ∀ H e s', L2.CX P w [] H s₁ (fun _ _ _ => False) e s' → False) :
    codeAny (model P w) callerA (.call (.ref fa) ⟨[.ref a], []⟩) (fun r s' => r = .ok (.ret (.bool true)) ∧ OldK s₁.heap s'.heap ∧ s'.os = s₁.os ∧ AllBare s'.gens) s₁ := by
  have rv := vals_ints hi
  have lenV := hi.length
  have core : ∀ H : Hp, Only H → SqL K H a (ns.map V.int) → HOk P w H s₁.heap → (∀ b, H b ≠ none → b = a) → (H a ≠ none → K.lookup a = none) →
      codeAny (model P w) callerA (.call (.ref fa) ⟨[.ref a], []⟩) (fun r s' => r = .ok (.ret (.bool true)) ∧ OldK s₁.heap s'.heap ∧ s'.os = s₁.os ∧ AllBare s'.gens) s₁ := by
    intro H hO hS hok hA hK
    have base_of : ∀ {b : Addr} {o : Obj}, s₁.heap.get? b = some o → H b = none → (hidT s₁.heap H).get? b = some o := fun e n => hidT_get e n
    have noA : ∀ {b : Addr} {o : Obj} {es : Array DictEntry} {ep : Nat}, s₁.heap.get? b = some o → o.data = .dict es ep → H b = none := fun {b o es ep} e d => by
      cases q : H b with
      | none => rfl
      | some u =>
        have e' : b = a := hA b (by rw [q]; simp)
        subst e'
        rw [ha] at e; cases e
        have d' : Data.seq vs.toArray _ = Data.dict es ep := d
        cases d'
    have nsK : ∀ {b : Addr} {m : Str → Option Value}, s₁.heap.Ns b m → (hidT s₁.heap H).Ns b m := fun {b m} ⟨o, es, ep, e, d, r⟩ => ⟨o, es, ep, base_of e (noA e d), d, r⟩
    have hKb : K.In (hidT s₁.heap H) := fun b o e => base_of (KX b o e) (by
      cases q : H b with
      | none => rfl
      | some u =>
        have e' : b = a := hA b (by rw [q]; simp)
        subst e'
        rw [hK (by rw [q]; simp)] at e; cases e)
    have hM : Mod K mg (hidT s₁.heap H) := ⟨hKb, nsK hns, ⟨mb, nsK hb, hbb⟩, let ⟨mc, h1, h2⟩ := hlim; ⟨mc, nsK h1, h2⟩⟩
    have e0 : Env0 P w K mg (hidT s₁.heap H) callerA [] s₁ H := ⟨rfl, hM, fun b o e => of_hidT e, Nat.le_of_eq (hidT_size _ _), trivial, fun b hb => absurd (show b ∈ ([] : List Addr) from hb) (by simp), hok, .of_eq hg⟩
    refine codeAny_mono ((F _ hKb (nsK hns)).run callerA [] s₁ H ⟨[.ref a], []⟩ [.ref a] [.ref a] _ _ hr rfl e0 (hbind s₁ [.ref a] KX rfl) (.cons rfl .nil) rfl (hsp H hO hS)) fun r s' h => ?_
    cases r with
    | error e => exact (hCX H e s' h).elim
    | ok fl =>
      cases fl with
      | next => exact False.elim h
      | brk => exact False.elim h
      | cont => exact False.elim h
      | ret u =>
        obtain ⟨v, H', os, bare, un, hok', r', q⟩ := h
        have q' : v = .bl true := q
        subst q'
        obtain rfl : u = Value.bool true := r'
        refine ⟨rfl, OldK.of_keep fun b o e => ?_, os, bare⟩
        cases q : H b with
        | none => exact un.keep b o e q (by intro z; exact absurd (show b ∈ ([] : List Addr) from z) (by simp)) (by simp)
        | some u =>
          rcases hO b with z | ⟨ob, xs, z⟩
          · rw [q] at z; cases z
          · have z2 := un.frzs b ob _ z
            obtain ⟨e1, _⟩ := hok b _ z
            obtain ⟨e2, _⟩ := hok' b _ z2
            rw [e] at e1; cases e1
            exact e2
  cases hk : K.lookup a with
  | some o =>
    have e := KX a o hk
    rw [ha] at e
    cases e
    refine core (fun _ => none) (fun _ => .inl rfl) (.inr ⟨_, vs.toArray, _, hk, rfl, rfl, rfl, by rw [List.size_toArray, lenV]; exact hl, by simpa using rv⟩) (fun b u z => by have z' : (none : Option HO) = some u := z; cases z') (fun b z => absurd rfl z) fun z => absurd rfl z
  | none =>
    refine core (fun b => if b = a then some (.frz { cls := .type "list", data := .seq vs.toArray } (.lst (ns.map V.int))) else none) (fun b => ?_) (.inl (.inr ⟨{ cls := .type "list", data := .seq vs.toArray }, if_pos rfl⟩)) (fun b u z => ?_) (fun b z => ?_) fun _ => hk
    · by_cases hb : b = a
      · exact .inr ⟨_, _, if_pos hb⟩
      · exact .inl (if_neg hb)
    · by_cases hb : b = a
      · have z' := (if_pos hb).symm.trans z
        cases z'
        subst hb
        exact ⟨ha, by rw [List.length_map]; exact hl, vs, _, rv, ha⟩
      · have z' := (if_neg hb).symm.trans z
        cases z'
    · by_cases hb : b = a
      · exact hb
      · exact absurd (if_neg hb) z
theorem walk_ofG {l : PySem.W.OpenLaw} {n k m : Nat} {q : Program} {loose : List Str} {XP : (Str → Option Value) → Heap → Prop} {YP : World → Heap → Prop} {d : DefRec} {K : Params → PySem.W.Frag} {x : Str} {g : SF} {fr : Bool}
    (hn : l.most = some n) (hn2 : n ≤ sizeLine) (hdf : d.params.defaults = []) (hr : Room k callerA)
    (hY : ∀ (w : World) (h : Heap), YP w h → (K w.params).In h)
    (F : ∀ (w : World) (mg : Str → Option Value) (fa : Addr) (h : Heap), (K w.params).In h → h.Ns mainGlobals mg → mg d.name = some (.ref fa) →
      ∃ (fd : FuncData) (ca : Str → Addr), L2.Binds (K w.params) fd [x] [] ∧
        ∀ base : Heap, (K w.params).In base → base.Ns mainGlobals mg → FnG l.prog w (K w.params) mg base k fa fd [x] (spD (K w.params) ca [] fr (runD m g)))
    (hlaw : ∀ ns : List Int, ns.length ≤ n → ∃ es', runD m g [.im (.list (ns.map .int))] = .ok (.bool true, es')) :
    PySem.W.WalkO q loose XP YP l.row.toRowW d [] (fun f vs => PySem.call f vs) := by
  refine Att.attach_call hn hdf fun w s₀ s₁ mg mb fa o pm cd doc a vs ns G Y ho hd hcd hmg hobj hints hlen hg => ?_
  have KX := hY w _ Y
  obtain ⟨fd, ca, hb, hF⟩ := F w mg fa _ KX G.T.g hmg
  refine law_callG KX G.T.g G.T.b G.T.builtins G.T.nolimit hg hobj hints (Nat.le_trans hlen hn2) hr hF hb (fun H hO hS => ?_) fun H e s' h => ?_
  · refine ⟨[.im (.list (ns.map .int))], fun _ => False, ⟨rfl, fun _ _ h => h, fun i s h => ?_, fun i j a s t h1 h2 => ?_, fun i s h1 h2 => ?_⟩, ?_⟩
    · cases i with
      | zero =>
        have e : Sl.im (.list (ns.map .int)) = s := by simpa using h
        subst e
        exact ⟨_, rfl, .lst ⟨hS, fun z => z.elim⟩ (.of_ints ns)⟩
      | succ i => simp at h
    · cases i with
      | zero => cases h1; cases h2
      | succ i => simp at h1
    · cases i with
      | zero => cases h1; cases h2
      | succ i => simp at h1
    · obtain ⟨es', e⟩ := hlaw ns hlen
      rw [e]
      intro v H' hc
      obtain ⟨_, ha, _⟩ := hc
      cases ha
      rfl
  · obtain ⟨_, _, _, _, _, _, _, _, _, _, _, _, hE⟩ := h
    exact hE
theorem has_fit {P : Program} {w : World} {K : PySem.W.Frag} {mg : Str → Option Value} {x : Str} {st : Stmt} {ps : List Str} {k : Nat} {np : List Nat} {fr : Bool} {F : FD} {fa : Addr} {ca : Str → Addr} (S : Stands K mg x st ps)
    (H : ∀ base : Heap, K.In base → base.Ns mainGlobals mg → Has P w K mg base ca x k ps np fr F) (hmg : mg x = some (.ref fa)) :
    ∃ (fd : FuncData) (ca' : Str → Addr), L2.Binds K fd ps [] ∧ ∀ base : Heap, K.In base → base.Ns mainGlobals mg → FnG P w K mg base k fa fd ps (spD K ca' np fr F) := by
  obtain ⟨fl, fdl, e1, e2, e3⟩ := S
  have e4 : fl = fa := by have := e1.symm.trans hmg; cases this; rfl
  subst e4
  refine ⟨fdl, ca, e3, fun base hb1 hb2 => ?_⟩
  obtain ⟨f2, fd2, q1, q2, q3, q4, q5⟩ := H base hb1 hb2
  have e5 : f2 = fl := by have := q1.symm.trans e1; cases this; rfl
  subst e5
  have e6 := q5.same (lk_of e2)
  subst e6
  exact q4
abbrev FrX {K : PySem.W.Frag} {h : PySem.Heap} (_ : K.In h) : PySem.W.Frag := K
end DL
namespace DL
open PySem PySem.Spec PyProof.Rows L2
variable {K : PySem.W.Frag}
section
variable {X : Cx} {z : Z} {e : Expr} {es : List Expr}
theorem u65 {k : Nat} {A : Around} (r : Room k A) : A.units + 65 < cLine := by have := r.un; omega
theorem u66 {k : Nat} {A : Around} (r : Room k A) : A.units + 66 < cLine := by have := r.un; omega
/-! ### an own list, looked at -/
theorem SR.owDp {np : List Nat} {B : Bs} {σ : Sg} {H : Hp} {env : En} (I : SR K np B σ H env) {i : Nat} {ds : List D} (h : env[i]? = some (some (.ow ds))) : ∃ a xs, σ[i]? = some (some (V.ref a)) ∧ H a = some (.lst xs) ∧ (SeqAt.shaped (.list ds) = true → Dp K H (.ref a) (.list ds)) := by
  obtain ⟨a, xs, e, _, hH, r⟩ := I.ow h
  exact ⟨a, xs, e, hH, fun hs => .lst (SqL.of hH) (r.dp (by simpa only [PyData.canLay0] using SeqAt.canLay_of_shaped hs))⟩
/-- own list (left) compared -/
def fOpL (i : Nat) (h : D → D → Option D) (g : EF) : EF := fun env => match env[i]? with
  | some (some (.ow _)) => (g env).bind fun q => match q.2[i]? with
    | some (some (.ow ds)) => (ofO (h (.list ds) q.1)).bind fun r => .ok (r, q.2)
    | _ => .stuck
  | _ => .stuck
def fOpR (i : Nat) (h : D → D → Option D) (f : EF) : EF := fun env => (f env).bind fun q => match q.2[i]? with
    | some (some (.ow ds)) => (ofO (h q.1 (.list ds))).bind fun r => .ok (r, q.2)
    | _ => .stuck
/-- a comparison that only looks -/
def OpB (X : Cx) (f : Value → Value → Sem Value) (h : D → D → Option D) : Prop :=
  ∃ r : R2, OpR X f r ∧ ∀ (H : Hp) (x y : V) (d e w : D) (Q : VK), (SeqAt.shaped d = true → Dp X.K H x d) → (SeqAt.shaped e = true → Dp X.K H y e) → h d e = some w → (∀ b, w = .bool b → Q (.bl b) H) → (∃ b, w = .bool b) → r x y H Q
theorem eqD_inv {d e w : D} (h : eqD d e = some w) : SeqAt.shaped d = true ∧ SeqAt.shaped e = true ∧ w = .bool (PyData.eqv d e) := by
  unfold eqD at h
  split at h
  · rename_i hs
    cases h
    rw [Bool.and_eq_true] at hs
    exact ⟨hs.1, hs.2, rfl⟩
  · cases h
theorem neD_inv {d e w : D} (h : neD d e = some w) : SeqAt.shaped d = true ∧ SeqAt.shaped e = true ∧ w = .bool (!PyData.eqv d e) := by
  unfold neD at h
  split at h
  · rename_i hs
    cases h
    rw [Bool.and_eq_true] at hs
    exact ⟨hs.1, hs.2, rfl⟩
  · cases h
theorem ob_eq (hu : X.A.units + 64 < cLine) : OpB X (compareOp .Eq) eqD := ⟨_, op_eqD hu, fun H x y d e w Q hx hy hw q _ => by
  obtain ⟨h1, h2, rfl⟩ := eqD_inv hw
  exact ⟨d, e, hx h1, hy h2, h1, h2, q _ rfl⟩⟩
theorem ob_ne (hu : X.A.units + 64 < cLine) : OpB X (compareOp .NotEq) neD := ⟨_, op_neD hu, fun H x y d e w Q hx hy hw q _ => by
  obtain ⟨h1, h2, rfl⟩ := neD_inv hw
  exact ⟨d, e, hx h1, hy h2, h1, h2, q _ rfl⟩⟩
theorem EP1.bool {B : Bs} {σ : Sg} {H H2 : Hp} {env e2 : En} {Q : VK} {b : Bool} {fr : Bool} (h : EP1 K z fr B σ H env Q (.bool b, e2)) (I : SR K z.np B σ H2 e2) (m : Mv (B.O σ env) (B.O σ e2) H H2) : Q (.bl b) H2 :=
  EP1.give h I m (.flat (.bl _) fun _ q => nomatch q)
theorem eqD_bool {d e w : D} (h : eqD d e = some w) : ∃ b, w = .bool b := ⟨_, (eqD_inv h).2.2⟩
theorem neD_bool {d e w : D} (h : neD d e = some w) : ∃ b, w = .bool b := ⟨_, (neD_inv h).2.2⟩
theorem e_opL {i : Nat} {r : R2} {fb : Bool} {g : EF} {h : D → D → Option D} (hb : ∀ d e w, h d e = some w → ∃ b, w = .bool b)
    (sem : ∀ (H : Hp) (x y : V) (d e w : D) (Q : VK), (SeqAt.shaped d = true → Dp K H x d) → (SeqAt.shaped e = true → Dp K H y e) → h d e = some w → (∀ b, w = .bool b → Q (.bl b) H) → (∃ b, w = .bool b) → r x y H Q)
    {B : Bs} {env : En} {σ : Sg} {H : Hp} {Q : VK} (I : SR K z.np B σ H env) (hp : (fOpL i h g env).post (EP1 K z true B σ H env Q) (XP K z B σ H env)) : tOp r (tVar i) (tE K z fb g) σ H Q := by
  unfold fOpL at hp
  split at hp
  · rename_i ds0 e0
    obtain ⟨a0, _, hv, _⟩ := I.ow e0
    refine ⟨_, hv, B, env, I, (R.post_bind hp).imp (fun q hq u H2 I2 m2 a2 _ => ?_) fun _ _ q => q⟩
    split at hq
    · rename_i ds e1
      obtain ⟨w, ew, hw⟩ := ofO_post (R.post_bind hq)
      obtain ⟨a, xs, e2, hH, dp⟩ := I2.owDp e1
      rw [hv] at e2
      cases e2
      refine sem H2 _ u _ q.1 w Q dp (fun hs => a2.dp (SeqAt.canLay_of_shaped hs)) ew (fun b eb => ?_) (hb _ _ _ ew)
      subst eb
      exact EP1.bool hw I2 m2
    · exact hq.elim
  · exact hp.elim
theorem e_opR {i : Nat} {r : R2} {fa : Bool} {f : EF} {h : D → D → Option D} (hb : ∀ d e w, h d e = some w → ∃ b, w = .bool b)
    (sem : ∀ (H : Hp) (x y : V) (d e w : D) (Q : VK), (SeqAt.shaped d = true → Dp K H x d) → (SeqAt.shaped e = true → Dp K H y e) → h d e = some w → (∀ b, w = .bool b → Q (.bl b) H) → (∃ b, w = .bool b) → r x y H Q)
    {B : Bs} {env : En} {σ : Sg} {H : Hp} {Q : VK} (I : SR K z.np B σ H env) (hp : (fOpR i h f env).post (EP1 K z true B σ H env Q) (XP K z B σ H env)) : tOp r (tE K z fa f) (tVar i) σ H Q := by
  refine ⟨B, env, I, (R.post_bind hp).imp (fun q hq u H2 I2 m2 a2 _ => ?_) fun _ _ q => q⟩
  split at hq
  · rename_i ds e1
    obtain ⟨w, ew, hw⟩ := ofO_post (R.post_bind hq)
    obtain ⟨a, xs, e2, hH, dp⟩ := I2.owDp e1
    refine ⟨_, e2, sem H2 u _ q.1 _ w Q (fun hs => a2.dp (SeqAt.canLay_of_shaped hs)) dp ew (fun b eb => ?_) (hb _ _ _ ew)⟩
    subst eb
    exact EP1.bool hw I2 m2
  · exact hq.elim
section
variable {a b : Expr} {pos : Pos} {i : Nat} {fb fa : Bool} {g f : EF}
theorem de_eqL (hu : X.A.units + 64 < cLine) (ha : PE X a (tVar i)) (hb : DE z X fb b g) (hm : behindInMarks .Eq b = false) : DE z X true (.Compare a [.Eq] [b] pos) (fOpL i eqD g) := by
  obtain ⟨r, hr, sem⟩ := ob_eq hu
  exact de_imp (pe_cmpR hr ha hb hm) fun B env σ H Q I hp => e_opL (fun _ _ _ => eqD_bool) sem I hp
theorem de_neL (hu : X.A.units + 64 < cLine) (ha : PE X a (tVar i)) (hb : DE z X fb b g) (hm : behindInMarks .NotEq b = false) : DE z X true (.Compare a [.NotEq] [b] pos) (fOpL i neD g) := by
  obtain ⟨r, hr, sem⟩ := ob_ne hu
  exact de_imp (pe_cmpR hr ha hb hm) fun B env σ H Q I hp => e_opL (fun _ _ _ => neD_bool) sem I hp
theorem de_eqR (hu : X.A.units + 64 < cLine) (ha : DE z X fa a f) (hb : PE X b (tVar i)) (hm : behindInMarks .Eq b = false) : DE z X true (.Compare a [.Eq] [b] pos) (fOpR i eqD f) := by
  obtain ⟨r, hr, sem⟩ := ob_eq hu
  exact de_imp (pe_cmpR hr ha hb hm) fun B env σ H Q I hp => e_opR (fun _ _ _ => eqD_bool) sem I hp
theorem de_neR (hu : X.A.units + 64 < cLine) (ha : DE z X fa a f) (hb : PE X b (tVar i)) (hm : behindInMarks .NotEq b = false) : DE z X true (.Compare a [.NotEq] [b] pos) (fOpR i neD f) := by
  obtain ⟨r, hr, sem⟩ := ob_ne hu
  exact de_imp (pe_cmpR hr ha hb hm) fun B env σ H Q I hp => e_opR (fun _ _ _ => neD_bool) sem I hp
/-- the same as tests -/
theorem isTrue_Compare_of {op : CmpOp} {f : EF} (h : DE z X true (.Compare a [op] [b] pos) f) (ht : ∀ t, PE X (.Compare a [op] [b] pos) t → PT X (.Compare a [op] [b] pos) (tTest t)) : DT z X (.Compare a [op] [b] pos) (fBool f) := by
  refine dt_imp (ht _ h) fun B env σ H Q I hp => ⟨B, env, I, (R.post_bind hp).imp (fun p hp v H1 I1 m1 a1 _ => ?_) fun _ _ q => q⟩
  obtain ⟨d, e'⟩ := p
  cases d with
  | bool b =>
    cases a1
    exact ⟨b, rfl, hp H1 I1 m1⟩
  | _ => exact hp.elim
end
theorem dt_of_test {c : Expr} {t : TE} {f : EF} (hp : PT X c (tTest t)) (h : ∀ (B : Bs) (env : En) (σ : Sg) (H : Hp) (Q : VK), SR X.K z.np B σ H env → (f env).post (EP1 X.K z true B σ H env Q) (XP X.K z B σ H env) → t σ H Q) : DT z X c (fBool f) :=
  dt_imp hp fun B env σ H Q I p => h B env σ H _ I ((R.post_bind p).imp (fun p hp v H1 I1 m1 a1 _ => by
    obtain ⟨d, e'⟩ := p
    cases d with
    | bool b =>
      cases a1
      exact ⟨b, rfl, hp H1 I1 m1⟩
    | _ => exact hp.elim) fun _ _ q => q)
section
variable {a b : Expr} {pos : Pos} {i : Nat} {fb fa : Bool} {g f : EF}
theorem dt_eqL (hu : X.A.units + 64 < cLine) (ha : PE X a (tVar i)) (hb : DE z X fb b g) (hm : behindInMarks .Eq b = false) : DT z X (.Compare a [.Eq] [b] pos) (fBool (fOpL i eqD g)) := by
  obtain ⟨r, hr, sem⟩ := ob_eq hu
  exact dt_of_test (pt_cmpR hr ha hb hm) fun B env σ H Q I hp => e_opL (fun _ _ _ => eqD_bool) sem I hp
theorem dt_neL (hu : X.A.units + 64 < cLine) (ha : PE X a (tVar i)) (hb : DE z X fb b g) (hm : behindInMarks .NotEq b = false) : DT z X (.Compare a [.NotEq] [b] pos) (fBool (fOpL i neD g)) := by
  obtain ⟨r, hr, sem⟩ := ob_ne hu
  exact dt_of_test (pt_cmpR hr ha hb hm) fun B env σ H Q I hp => e_opL (fun _ _ _ => neD_bool) sem I hp
theorem dt_eqR (hu : X.A.units + 64 < cLine) (ha : DE z X fa a f) (hb : PE X b (tVar i)) (hm : behindInMarks .Eq b = false) : DT z X (.Compare a [.Eq] [b] pos) (fBool (fOpR i eqD f)) := by
  obtain ⟨r, hr, sem⟩ := ob_eq hu
  exact dt_of_test (pt_cmpR hr ha hb hm) fun B env σ H Q I hp => e_opR (fun _ _ _ => eqD_bool) sem I hp
theorem dt_neR (hu : X.A.units + 64 < cLine) (ha : DE z X fa a f) (hb : PE X b (tVar i)) (hm : behindInMarks .NotEq b = false) : DT z X (.Compare a [.NotEq] [b] pos) (fBool (fOpR i neD f)) := by
  obtain ⟨r, hr, sem⟩ := ob_ne hu
  exact dt_of_test (pt_cmpR hr ha hb hm) fun B env σ H Q I hp => e_opR (fun _ _ _ => neD_bool) sem I hp
/-- repr(own list) -/
def fReprO (i : Nat) : EF := fun env => match env[i]? with
  | some (some (.ow ds)) => (ofO (reprD [.list ds])).bind fun r => .ok (r, env)
  | _ => .stuck
theorem de_reprO {p pos : Pos} (hgd : X.A.guards = some []) (hu : X.A.units + 66 < cLine) (ha : PE X a (tVar i)) (hg : Gl X "repr") (hm : X.mg "repr" = none) (he : starEach [a] X.env = (false, eval a X.env) :: starEach [] X.env := by rfl) : DE z X true (.Call (.Name "repr" p) [a] [] pos) (fReprO i) := by
  refine de_imp (pe_callB (call_repr_data hgd hu) hg hm (by decide +kernel) (pa_cons ha pa_nil he) (by decide) (by decide) he) fun B env σ H Q I hp => ?_
  unfold fReprO at hp
  split at hp
  · rename_i ds e1
    obtain ⟨w, ew, hw⟩ := ofO_post (R.post_bind hp)
    obtain ⟨a, xs, e2, hH, dp⟩ := I.owDp e1
    simp only [reprD] at ew
    split at ew
    · rename_i hc
      cases ew
      simp only [Bool.and_eq_true, decide_eq_true_eq] at hc
      exact ⟨_, e2, _, _, rfl, dp hc.1.2, hc.1.1, hc.1.2, hc.2, EP1.give hw I .refl (.flat (.str _) fun _ q => nomatch q)⟩
    · cases ew
  · exact hp.elim
/-- isinstance(own list, T) -/
def fIsiO (T : String) (i : Nat) : EF := fun env => match env[i]? with
  | some (some (.ow _)) => (ofO (isTy T (.list []))).bind fun r => .ok (r, env)
  | _ => .stuck
theorem de_isiO {T : String} {x : Str} {p p2 pos : Pos} (ha : PE X a (tVar i)) (hg : Gl X "isinstance") (hm : X.mg "isinstance" = none) (hgT : Gl X x) (hmT : X.mg x = none) (hvT : bootBuiltins x = some (.type T))
    (hn : x ≠ "__name__" := by decide) (hd : (x == ("__debug__" : Str)) = false := by decide)
    (he1 : starEach [a, .Name x p2] X.env = (false, eval a X.env) :: starEach [.Name x p2] X.env := by rfl) (he2 : starEach [.Name x p2] X.env = (false, eval (.Name x p2) X.env) :: starEach [] X.env := by rfl) (hpl : (backTo pos (starEach [.Name x p2] X.env)).any (·.1) = false := by rfl) :
    DE z X true (.Call (.Name "isinstance" p) [a, .Name x p2] [] pos) (fIsiO T i) := by
  refine de_imp (pe_callB call_isi hg hm (by decide +kernel) (pa_cons ha (pa_cons (pe_bltn (v := .ty T) hgT hmT hvT rfl hn hd) pa_nil he2) he1) (by decide) (by decide) he1 hpl) fun B env σ H Q I hp => ?_
  unfold fIsiO at hp
  split at hp
  · rename_i ds e1
    obtain ⟨w, ew, hw⟩ := ofO_post (R.post_bind hp)
    obtain ⟨a, xs, e2, hO, hH, _⟩ := I.ow e1
    unfold isTy at ew
    rw [Option.map_eq_some_iff] at ew
    obtain ⟨b, hb, rfl⟩ := ew
    exact ⟨_, e2, _, .ty T, _, _, b, rfl, .ty T, .base (.lst hH), kit_ty hb, EP1.give hw I .refl (.flat (.bl _) fun _ q => nomatch q)⟩
  · exact hp.elim
end
/-! ### a tuple * an int -/
def repT (d e : D) : Option D := match d, e with
  | .tuple ds, .int k => if ds ≠ [] ∧ 2 ≤ k ∧ k ≤ 1000 ∧ ds.length ≤ 1000 then some (.tuple (List.replicate k.toNat ds).flatten) else none
  | _, _ => none
theorem od_repT : OpD X (binaryOp .Mult) true repT := by
  refine ⟨_, op_repT, fun O H x y d e w Q od hx hy hw q => ?_⟩
  cases hx with
  | tup l r =>
    cases hy with
    | int k =>
      simp only [repT] at hw
      split at hw
      · rename_i hc
        cases hw
        refine ⟨_, k, _, rfl, rfl, l.1, fun e => hc.1 ?_, hc.2.1, hc.2.2.1, by rw [r.length]; exact hc.2.2.2, fun p hp => q _ _ (.tup od hp (r.rep _))⟩
        have := r.length
        rw [e] at this
        exact List.eq_nil_of_length_eq_zero this.symm
      · cases hw
    | _ => cases hw
  | _ => cases hw
/-! ### the facts of a text -/
def caOf (mg : Str → Option Value) (x : Str) : Addr := match mg x with
  | some (.ref a) => a
  | _ => 0
theorem caOf_eq {mg : Str → Option Value} {x : Str} {a : Addr} (h : mg x = some (.ref a)) : caOf mg x = a := by unfold caOf; rw [h]
theorem stands_of {h : Heap} {mg : Str → Option Value} {x : Str} {st : Stmt} {f : Addr} {od an : Option Addr} {sl : Array (Option Value)} {oc kV dc pm cd ct : Value} {ps : List Str} (KX : K.In h) (G : h.Ns mainGlobals mg)
    (a : PySem.W.nsIn K mainGlobals x = some (some (.ref f))) (l : K.lookup f = some ⟨oc, od, .func (PySem.W.fnOf x x (defArgs st) (defBody st) (defScope st) .none kV dc pm an cd ct), sl⟩) (c : PySem.W.codeIn K cd x = true) (k : PySem.W.keepIn K (.ref f) = true)
    (b : ∀ (kV doc pm : Value) (an : Option Addr) (cdv ct : Value) (us : List Value), us.length = ps.length → bindArgs (PySem.W.fnOf x x (defArgs st) (defBody st) (defScope st) .none kV doc pm an cdv ct) ⟨us, []⟩ = pure (ps.zip us)) : Stands K mg x st ps :=
  ⟨f, _, PySem.W.mg_of KX G a, fun_mk l c k, (fun_mk l c k).binds b⟩
/-- an own exception class over another one, without methods of its own -/
structure ExF (K : PySem.W.Frag) (mg : Str → Option Value) (x : Str) (C : Addr) : Prop where
  g : mg x = some (.ref C)
  k : PySem.W.keepIn K (.ref C) = true
  b : PySem.W.subIn K (.ref C) (.type "BaseException") = some true
  t : PySem.W.typeIn K (.ref C) = some (.type "type")
  x : PySem.W.excIn K C [.type "ValueError", .type "Exception", .type "BaseException", .type "object"] "ValueError.__new__" = true
theorem exf_of {h : Heap} {mg : Str → Option Value} {x : Str} {C : Addr} (KX : K.In h) (G : h.Ns mainGlobals mg) (a : PySem.W.nsIn K mainGlobals x = some (some (.ref C))) (k : PySem.W.keepIn K (.ref C) = true)
    (b : PySem.W.subIn K (.ref C) (.type "BaseException") = some true) (t : PySem.W.typeIn K (.ref C) = some (.type "type")) (x' : PySem.W.excIn K C [.type "ValueError", .type "Exception", .type "BaseException", .type "object"] "ValueError.__new__" = true) : ExF K mg x C :=
  ⟨PySem.W.mg_of KX G a, k, b, t, x'⟩
theorem ds_raiseF {x m : Str} {C : Addr} {j : Nat} {p p2 pos pos' : Pos} {fr : Bool} (hc : X.calm = true) (tk : Takes X z.W) (F : ExF X.K X.mg x C) (hg : Gl X x) (hC : z.ca = caOf X.mg) (hdb : (x == ("__debug__" : Str)) = false := by decide) :
    DS z X fr (.Raise (some (.Call (.Name x p) [.Constant (.str m) j p2] [] pos)) none pos') (sRaise x) :=
  ds_raise hc tk (pmk_own PySem.F.excBase_ValueError F.x F.g F.k (raises_own F.b F.t) hg hdb) (by rw [hC]; exact caOf_eq F.g)
theorem ds_par {fr : Bool} {i j : Nat} {x y : Str} {a b : Expr} {g : En → R En (List D × En)} {px py pt pos : Pos} {kt k2 pt2} (hc : X.calm = true) (hN : X.N.Nodup) (hi : X.N[i]? = some x) (hj : X.N[j]? = some y) (hij : i ≠ j)
    (hx : X.env.scope.names.lookup x = some .local) (hy : X.env.scope.names.lookup y = some .local) (ha : DA z X [a, b] g) (hin : i ∉ z.np) (hjn : j ∉ z.np)
    (hw : swappedStores [.Tuple [.Name x px, .Name y py] kt pt] (.Tuple [a, b] k2 pt2) X.env = pure (some [x, y]) := by rfl)
    (hs : swapsWithSole [.Tuple [.Name x px, .Name y py] kt pt] (.Tuple [a, b] k2 pt2) pos.line X.env = pure false := by rfl) :
    DS z X fr (.Assign [.Tuple [.Name x px, .Name y py] kt pt] (.Tuple [a, b] k2 pt2) pos) (sPar i j g) :=
  ds_imp (ps_par hc hN hi hj hij hx hy ha hw hs) fun B env σ H Dd I p => sem_par hin hjn I p
/-- a, b, c = x, y, z -/
def sPar3 (i j l : Nat) (g : En → R En (List D × En)) : SF := fun env => (g env).bind fun p => match p.1 with
  | [d, e, f] => .ok (.nx (((p.2.set i (some (.im d))).set j (some (.im e))).set l (some (.im f))))
  | _ => .stuck
theorem ds_par3 {fr : Bool} {i j l : Nat} {x y w : Str} {a b c : Expr} {g : En → R En (List D × En)} {px py pz pt pos : Pos} {kt k2 pt2} (hc : X.calm = true) (hN : X.N.Nodup) (hi : X.N[i]? = some x) (hj : X.N[j]? = some y) (hl : X.N[l]? = some w) (hij : i ≠ j) (hil : i ≠ l) (hjl : j ≠ l)
    (hx : X.env.scope.names.lookup x = some .local) (hy : X.env.scope.names.lookup y = some .local) (hz : X.env.scope.names.lookup w = some .local) (ha : DA z X [a, b, c] g) (hin : i ∉ z.np) (hjn : j ∉ z.np) (hln : l ∉ z.np)
    (hw : swappedStores [.Tuple [.Name x px, .Name y py, .Name w pz] kt pt] (.Tuple [a, b, c] k2 pt2) X.env = pure (some [x, y, w]) := by rfl)
    (hs : swapsWithSole [.Tuple [.Name x px, .Name y py, .Name w pz] kt pt] (.Tuple [a, b, c] k2 pt2) pos.line X.env = pure false := by rfl) :
    DS z X fr (.Assign [.Tuple [.Name x px, .Name y py, .Name w pz] kt pt] (.Tuple [a, b, c] k2 pt2) pos) (sPar3 i j l g) :=
  ds_imp (ps_par3 hc hN hi hj hl hij hil hjl hx hy hz ha hw hs) fun B env σ H Dd I p => ⟨B, env, I, (R.post_bind p).imp (fun p hp vs H1 I1 m1 a => by
    obtain ⟨ds, e'⟩ := p
    dsimp only at hp
    split at hp
    · cases a with
      | cons h1 r =>
        cases r with
        | cons h2 r =>
          cases r with
          | cons h3 r =>
            cases r
            obtain ⟨I2, m2⟩ := I1.setIm hin h1
            obtain ⟨I3, m3⟩ := I2.setIm hjn (At.mv m2 h2)
            obtain ⟨I4, m4⟩ := I3.setIm hln (At.mv (m2.trans m3) h3)
            exact ⟨_, _, _, rfl, hp _ H1 I4 (((m1.trans m2).trans m3).trans m4)⟩
    · exact hp.elim) fun _ _ q => q.xp⟩
end
end DL
/-! a tuple * an int: also none, also once -/
namespace DL
open PySem PySem.Spec PyProof.Rows L2
theorem tmul_self (l : Addr) (xs : Array Value) (n : Nat) (dd : Option Addr) (sl : Array (Option Value)) (k : Int) (u : Tok)
    (r0 : (decide (k < -(2 ^ 63)) || decide (k ≥ 2 ^ 63)) = false) (r1 : (xs.isEmpty || k == 1) = true) :
    Meets (Builtin.«tuple.__mul__» ⟨[.ref l, .int k u], []⟩) (fun _ R s => s.heap.get? l = some ⟨.type "tuple", dd, .seq xs n, sl⟩ ∧ R (.ok (.ret (.ref l))) s) :=
  .of_wp fun prog w A R s hh => by
    obtain ⟨hp, g, d, tk, os⟩ := s
    obtain ⟨hg, hr⟩ := hh
    have z := AutoSeq1.idx_int
    wp_walk using wpAny_loadPart' hg
    refine wpAny_ite_false (decide_eq_false (by rw [r0]; decide)) ?_
    wp_walk using wpAny_loadPart' hg
    exact ⟨_, rfl, hr⟩
theorem tmul_none (l : Addr) (xs : Array Value) (n : Nat) (dd : Option Addr) (sl : Array (Option Value)) (k : Int) (u : Tok)
    (r0 : (decide (k < -(2 ^ 63)) || decide (k ≥ 2 ^ 63)) = false) (r1 : (xs.isEmpty || k == 1) = false) (r2 : k ≤ 0) :
    Meets (Builtin.«tuple.__mul__» ⟨[.ref l, .int k u], []⟩) (fun _ R s => s.heap.get? l = some ⟨.type "tuple", dd, .seq xs n, sl⟩ ∧
      R (.ok (.ret (.ref s.heap.objs.size))) { s with heap := s.heap.push { cls := .type "tuple", data := .seq #[] }, toks := s.toks }) :=
  .of_wp fun prog w A R s hh => by
    obtain ⟨hp, g, d, tk, os⟩ := s
    obtain ⟨hg, hr⟩ := hh
    have z := AutoSeq1.idx_int
    have r3 : (decide (k ≤ 0) || xs.isEmpty) = true := by rw [decide_eq_true r2]; rfl
    wp_walk using wpAny_loadPart' hg
    refine wpAny_ite_false (decide_eq_false (by rw [r0]; decide)) ?_
    wp_walk using wpAny_loadPart' hg
    exact ⟨_, rfl, hr⟩
section
variable {X : Cx}
/-- a tuple * an int: as often as is said -/
def rTmul (K : PySem.W.Frag) : R2 := fun x y H Q => ∃ (l : Addr) (k : Int) (xs : List V), x = .ref l ∧ y = .int k ∧ SqT K H l xs ∧ -1000 ≤ k ∧ k ≤ 1000 ∧ xs.length ≤ 1000 ∧
  ((xs = [] ∨ k = 1) → Q (.ref l) H) ∧ (xs ≠ [] → k ≤ 0 → ∀ p, H p = none → Q (.ref p) (upd H p (.tup []))) ∧
  (xs ≠ [] → 2 ≤ k → ∀ p, H p = none → Q (.ref p) (upd H p (.tup (List.replicate k.toNat xs).flatten)))
theorem op_tmul : OpR X (binaryOp .Mult) (rTmul X.K) := by
  intro pins s σ H x y v u Q I rx ry h
  obtain ⟨l, k, xs, ex, ey, hT, b0, b1, hz, q1, q0, q2⟩ := h
  by_cases hs : xs ≠ [] ∧ 2 ≤ k
  · exact op_repT pins s σ H x y v u Q I rx ry ⟨l, k, xs, ex, ey, hT, hs.1, hs.2, b1, hz, q2 hs.1 hs.2⟩
  subst ex
  subst ey
  cases rx
  obtain ⟨t, rfl⟩ := ry
  obtain ⟨its, r, ⟨⟨cls, dd, data, sl⟩, ho, hc, n, hd⟩, _⟩ := I.tuple hT
  simp only at hc hd
  subst hc hd
  have r0 : (decide (k < -(2 ^ 63)) || decide (k ≥ 2 ^ 63)) = false := by
    rw [decide_eq_false (show ¬ k < -(2 ^ 63) by omega), decide_eq_false (show ¬ k ≥ 2 ^ 63 by omega)]; rfl
  have nil_iff : its.toArray.isEmpty = decide (xs = []) := by
    have e := r.length
    cases its with
    | nil => rw [List.eq_nil_of_length_eq_zero (l := xs) (by simpa using e)]; rfl
    | cons a b =>
      cases xs with
      | nil => exact absurd e (by simp)
      | cons c d => rfl
  by_cases h1 : xs = [] ∨ k = 1
  · have r1 : (its.toArray.isEmpty || k == 1) = true := by
      rw [nil_iff]
      rcases h1 with h1 | h1
      · rw [decide_eq_true h1]; rfl
      · rw [h1]; simp
    refine wpAny_binaryOp_repeat_ref (U := "int") (T := "tuple") (by decide)
      ⟨_, ho, rfl⟩ (fun z => typeIs_int z k t) noFill_tuple_mul
      F.fills_int_mul F.slot_int_rmul repeat_tuple
      F.slot_int_index.lookup (call_meets F.slot_int_rmul
        (typeIs_int s k t) F.entry_int_rmul (F.args_int_rmul_2 _ _)
        (int_rmul_tuple k t l _ n dd sl) ⟨ho, rfl, ⟨_, ho, rfl⟩,
          call_meets F.slot_tuple_mul ⟨_, ho, rfl⟩ F.entry_tuple_mul
          (F.args_tuple_mul_2 _ _) (tmul_self l its.toArray n dd sl k t r0 r1) ⟨ho, ?_⟩⟩)
    exact ⟨.ref l, _, I, rfl, q1 h1⟩
  · have h2 : xs ≠ [] := fun e => h1 (.inl e)
    have h3 : k ≠ 1 := fun e => h1 (.inr e)
    have h4 : k ≤ 0 := by
      by_cases h5 : 2 ≤ k
      · exact absurd ⟨h2, h5⟩ hs
      · omega
    have r1 : (its.toArray.isEmpty || k == 1) = false := by
      rw [nil_iff, decide_eq_false h2, Bool.false_or]
      exact beq_eq_false_iff_ne.mpr h3
    refine wpAny_binaryOp_repeat_ref (U := "int") (T := "tuple") (by decide)
      ⟨_, ho, rfl⟩ (fun z => typeIs_int z k t) noFill_tuple_mul
      F.fills_int_mul F.slot_int_rmul repeat_tuple
      F.slot_int_index.lookup (call_meets F.slot_int_rmul
        (typeIs_int s k t) F.entry_int_rmul (F.args_int_rmul_2 _ _)
        (int_rmul_tuple k t l _ n dd sl) ⟨ho, rfl, ⟨_, ho, rfl⟩,
          call_meets F.slot_tuple_mul ⟨_, ho, rfl⟩ F.entry_tuple_mul
          (F.args_tuple_mul_2 _ _) (tmul_none l its.toArray n dd sl k t r0 r1 h4) ⟨ho, ?_⟩⟩)
    refine ⟨.ref s.heap.objs.size, _, I.laid (o := .tup []) (t' := s.toks)
      (fun _ _ z => Heap.get?_push_of_some _ z) (Nat.le_refl _) ?_, rfl,
      q0 h2 h4 _ (I.hok.fresh (Nat.le_refl _))⟩
    exact ⟨by simp, [], .nil, IsTup.new _ _⟩
end
def tmulD (d e : D) : Option D := match d, e with
  | .tuple ds, .int k => if -1000 ≤ k ∧ k ≤ 1000 ∧ ds.length ≤ 1000 then some (.tuple (List.replicate k.toNat ds).flatten) else none
  | _, _ => none
theorem od_tmul {X : Cx} : OpD X (binaryOp .Mult) true tmulD := by
  refine ⟨_, op_tmul, fun O H x y d e w Q od hx hy hw q => ?_⟩
  cases hx with
  | tup l r =>
    cases hy with
    | int k =>
      simp only [tmulD] at hw
      split at hw
      · rename_i hc
        cases hw
        have rl := r.length
        refine ⟨_, k, _, rfl, rfl, l.1, hc.1, hc.2.1, by rw [rl]; exact hc.2.2, fun h => ?_, fun h h' p hp => ?_, fun h h' p hp => ?_⟩
        · rcases h with h | h
          · subst h
            cases r
            rw [show (List.replicate k.toNat ([] : List D)).flatten = [] by simp] at q
            exact q _ _ (.flat (.tup l .nil) fun _ z => nomatch z)
          · subst h
            rw [show ∀ ds : List D, (List.replicate (1 : Int).toNat ds).flatten = ds by intro ds; simp] at q
            exact q _ _ (.flat (.tup l r) fun _ z => nomatch z)
        · have h0 : k.toNat = 0 := by omega
          rw [h0] at q
          exact q _ _ (.tup od hp .nil)
        · exact q _ _ (.tup od hp (r.rep _))
      · cases hw
    | _ => cases hw
  | _ => cases hw
end DL
/-! starred displays -/
namespace DL
open PySem PySem.Spec PyProof.Rows L2
section
variable {X : Cx} {z : Z} {e : Expr} {es : List Expr} {pos : Pos} {f : EF} {g : En → R En (List D × En)} {fr : Bool}
def fStar (f : EF) (g : En → R En (List D × En)) : En → R En (List D × En) := fun env => (f env).bind fun p => (ofO (itemsD p.1)).bind fun ds => (g p.2).bind fun q => .ok (ds ++ q.1, q.2)
theorem da_star (ha : DE z X fr e f) (hr : DA z X es g) (hs : starEach (.Starred e pos :: es) X.env = (true, eval e X.env) :: starEach es X.env := by rfl) : DA z X (.Starred e pos :: es) (fStar f g) :=
  da_imp (StX.pa_star ha hr hs) fun B env σ H Q I hp => ⟨B, env, I, (R.post_bind hp).imp (fun p hp v H1 I1 m1 a1 _ => by
    obtain ⟨d, e1⟩ := p
    obtain ⟨ds, hd, hp⟩ := ofO_post (R.post_bind hp)
    have go : ∀ (xs : List V), AtAll X.K (B.O σ e1) H1 xs ds → tA X.K z g σ H1 fun ys H2 => Q (xs ++ ys) H2 := fun xs r =>
      ⟨B, e1, I1, (R.post_bind hp).imp (fun q hq vs H2 I2 m2 a2 => hq (xs ++ vs) H2 I2 (m1.trans m2) ((AtAll.mv m2 r).append a2)) fun _ _ q => q.step m1⟩
    cases a1 with
    | lst l r => cases hd; exact ⟨_, _, rfl, .inr l.1, go _ r⟩
    | tup l r => cases hd; exact ⟨_, _, rfl, .inl l.1, go _ r⟩
    | _ => cases hd) fun _ _ q => q⟩
end
end DL
/-! a tuple told backwards -/
namespace DL
open PySem PySem.Spec PyProof.Rows L2
theorem adj_back (n : Int) : Builtin.Slice.sliceAdjust none none (-1) n = (n - 1, -1) := by simp [Builtin.Slice.sliceAdjust]
theorem places_back (n : Nat) : Builtin.Slice.slicePlaces ((n : Int) - 1) (-1) (-1) = n := by
  unfold Builtin.Slice.slicePlaces
  rw [if_neg (by decide)]
  by_cases h : 0 < n
  · rw [if_pos (by omega)]
    have e : ((n : Int) - 1 - -1 - 1) / (- -1) = n - 1 := by
      rw [show (- -1 : Int) = 1 by decide, Int.ediv_one]; omega
    rw [e]; omega
  · rw [if_neg (by omega)]; omega
theorem fm_congr {f g : Nat → Option Value} : ∀ {l : List Nat}, (∀ k ∈ l, f k = g k) → l.filterMap f = l.filterMap g
  | [], _ => rfl
  | a :: l, h => by rw [List.filterMap_cons, List.filterMap_cons, h a (by simp), fm_congr (l := l) fun k hk => h k (by simp [hk])]
theorem pick_back (l : List Value) : ((List.range l.length).filterMap fun k : Nat => l.toArray[((l.length : Int) - 1 + (k : Int) * -1).toNat]?) = l.reverse := by
  have h1 : ∀ k ∈ List.range l.length, (fun k : Nat => l.toArray[((l.length : Int) - 1 + (k : Int) * -1).toNat]?) k = (fun k => some (l.reverse.getD k .none)) k := by
    intro k hk
    rw [List.mem_range] at hk
    show l.toArray[((l.length : Int) - 1 + (k : Int) * -1).toNat]? = some (l.reverse.getD k .none)
    rw [List.getElem?_toArray, show ((l.length : Int) - 1 + (k : Int) * -1).toNat = l.length - 1 - k by omega, List.getD_eq_getElem?_getD, List.getElem?_reverse hk, List.getElem?_eq_getElem (by omega)]
    rfl
  rw [fm_congr h1]
  rw [show (List.range l.length).filterMap (fun k => some (l.reverse.getD k .none)) = (List.range l.length).map fun k => l.reverse.getD k .none by rw [← List.filterMap_eq_map]; rfl]
  apply List.ext_getElem
  · simp
  · intro i h1 h2
    simp only [List.getElem_map, List.getElem_range]
    rw [List.getD_eq_getElem?_getD, List.getElem?_eq_getElem h2]; rfl
variable {prog : Program} {w : World} {A : Around} {s : Shared} {E : Value → Shared → Prop}
theorem applied_back {sl : Addr} {vl vu vs : Value} {n : Nat} {Q : Int × Int × Nat → Shared → Prop} (hs : s.heap.IsSliceOf sl vl vu vs) (pl : IsPart vl none) (pu : IsPart vu none) (ps : IsPart vs (some (-1)))
    (h : Q ((n : Int) - 1, -1, n) s) : wpAny (model prog w) A (Builtin.Slice.sliceApplied (.ref sl) (pure (n : Int))) Q E s := by
  obtain ⟨q, hq, _, hf⟩ := id hs
  unfold Builtin.Slice.sliceApplied Builtin.Slice.sliceFields
  refine wpAny_bind (wpAny_bind (wpAny_field hq hf (x := vl) rfl (wpAny_bind (wpAny_field hq hf (x := vu) rfl (wpAny_bind (wpAny_field hq hf (x := vs) rfl (wpAny_pure ?_)))))))
  refine wpAny_bind (HT.slicePart_ ps ?_)
  show wpAny _ _ (if ((-1 : Int) == 0) = true then _ else _) _ _ s
  rw [if_neg (by decide)]
  refine wpAny_bind (HT.slicePart_ pl (wpAny_bind (HT.slicePart_ pu (wpAny_bind (wpAny_pure ?_)))))
  show wpAny _ _ (match Builtin.Slice.sliceAdjust none none (-1) (n : Int) with | (a, b) => pure (a, (-1 : Int), Builtin.Slice.slicePlaces a b (-1))) _ _ s
  rw [adj_back]
  show wpAny _ _ (pure ((n : Int) - 1, (-1 : Int), Builtin.Slice.slicePlaces ((n : Int) - 1) (-1) (-1))) _ _ s
  rw [places_back]
  exact wpAny_pure h
theorem getItem_back {t sl : Addr} {xs : List Value} {vl vu vs : Value} {Q : Value → Shared → Prop} (ht : IsTup s.heap t xs.toArray) (hs : s.heap.IsSliceOf sl vl vu vs) (pl : IsPart vl none) (pu : IsPart vu none) (ps : IsPart vs (some (-1)))
    (h : Q (.ref s.heap.objs.size) { s with heap := s.heap.push { cls := .type "tuple", data := .seq xs.reverse.toArray } }) (hz : xs.length ≤ sizeLine) : wpAny (model prog w) A (getItem (.ref t) (.ref sl)) Q E s := by
  have hfit : sizeOk (.seq xs.reverse.toArray) := by
    show xs.reverse.toArray.size ≤ sizeLine
    rw [List.size_toArray, List.length_reverse]; exact hz
  obtain ⟨q, hq, hc, hf⟩ := id hs
  have hT : s.TypeIs (.ref sl) "slice" := ⟨q, hq, hc⟩
  unfold getItem
  try with_reducible refine wpAny_holding ?_
  first | refine wpAny_bind (wpAny_pure ?_) | skip
  refine wpAny_bind (wpAny_sequenceKey ht.typeIs (by decide) ?_)
  refine wpAny_bind (wpAny_callSpecial?_slot
    (name := Str.ofString "__getitem__") ht.typeIs
    PyProof.Rows.slot_tuple_getitem (wpAny_call_entry
      PyProof.Rows.slot_tuple_getitem ht.typeIs
      entry_tuple_getitem ?_ (args_tuple_getitem _ _)))
  show wpAny _ _ (Builtin.Tuple.tupleItemsOf (.ref t) >>= _) _ _ s
  refine wpAny_bind (tupleItemsOf_ ht ?_)
  refine wpAny_bind (wpAny_typeOf hT ?_)
  rw [if_pos (by decide)]
  refine wpAny_bind (applied_back hs pl pu ps ?_)
  have no : ¬ (((xs.toArray.size : Int) - 1 == 0 && (-1 : Int) == 1 && xs.toArray.size == xs.toArray.size) = true) := by simp
  show wpAny _ _ (if ((xs.toArray.size : Int) - 1 == 0 && (-1 : Int) == 1 && xs.toArray.size == xs.toArray.size) = true then _ else _) _ _ s
  rw [if_neg no]
  have e := pick_back xs
  rw [← List.size_toArray] at e
  rw [e]
  first
    | exact wpAny_bind (wpAny_newObj_type (wpAny_pure ⟨_, rfl, wpAny_pure h⟩) hfit)
    | exact wpAny_bind (m := Builtin.Tuple.tupleExact _)
        (wpAny_newObj_type (wpAny_pure ⟨_, rfl, wpAny_pure h⟩) hfit)
def tBackT (K : PySem.W.Frag) (te : TE) : TE := fun σ H Q => te σ H fun x H1 => ∃ (a : Addr) (xs : List V), x = .ref a ∧ SqT K H1 a xs ∧ ∀ p, H1 p = none → Q (.ref p) (upd H1 p (.tup xs.reverse))
section
variable {X : Cx} {z : Z}
theorem pe_backT {e : Expr} {te : TE} {k : Nat} {p1 p2 p3 pos : Pos} (he : PE X e te) :
    PE X (.Subscript e (.Slice none none (some (.UnaryOp .USub (.Constant (.int 1) k p1) p2)) p3) pos) (tBackT X.K te) := by
  refine ⟨fun pins s σ H Q I h => ?_⟩
  refine Subscript_ (thn (he.run pins s σ H _ I h) fun v s1 ⟨x, H1, I1, r1, a, xs, ex, hx, q⟩ => ?_)
  subst ex
  cases r1
  have minus : PO X (some (.UnaryOp .USub (.Constant (.int 1) k p1) p2)) (tPart (L2.tUn (rU fun i => .int (-i)) (L2.tC (.int 1)))) :=
    po_some (pe_un un_neg pe_int)
  refine wpAny_Slice (thn (po_none.run pins s1 σ H1
    (fun o G => o = none ∧ G = H1) I1 ⟨rfl, rfl⟩) fun vl s2 ⟨l, H2, I2, pl, el, e2⟩ => ?_)
  subst el e2
  refine thn (po_none.run pins s2 σ H2
    (fun o G => o = none ∧ G = H2) I2 ⟨rfl, rfl⟩) fun vu s3 ⟨u, H3, I3, pu, eu, e3⟩ => ?_
  subst eu e3
  refine thn (minus.run pins s3 σ H3
    (fun o G => o = some (-1) ∧ G = H3) I3 ⟨1, rfl, -1, rfl, rfl, rfl⟩) fun vs s4 ⟨o, H4, I4, ps, eo, e4⟩ => ?_
  subst eo e4
  have I5 : Inv X pins σ H4 { s4 with heap := s4.heap.push { cls := .type "slice", data := .fields #[vl, vu, vs] } } :=
    I4.kept (t' := s4.toks) fun b ob w => Heap.get?_push_of_some _ w
  obtain ⟨its, r, ht, hz⟩ := I5.tuple hx
  have hlen := r.length
  show wpAny (model X.prog X.w) X.A (subscriptTail e
    (.Slice none none (some (.UnaryOp .USub (.Constant (.int 1) k p1) p2)) p3) (.ref a) (.ref s4.heap.objs.size))
    (EP X pins σ Q) X.xe { s4 with heap := s4.heap.push { cls := .type "slice", data := .fields #[vl, vu, vs] } }
  refine tail_any (ops := [.ref a, .ref s4.heap.objs.size])
    ht.typeIs PyProof.Rows.slot_tuple_getitem.lookup ?_ (by with_unfolding_all rfl)
  refine getItem_back ht (Heap.IsSliceOf.new _ vl vu vs) pl pu ps ?_ (by omega)
  refine ⟨.ref _, _, I5.laid (o := .tup xs.reverse) (t' := s4.toks)
    (fun b ob w => Heap.get?_push_of_some _ w) (Nat.le_refl _) ?_, rfl, q _ (I5.hok.fresh (Nat.le_refl _))⟩
  exact ⟨by rw [List.length_reverse]; exact hz, _, r.reverse, IsTup.new _ _⟩
theorem AtAll.back {K : PySem.W.Frag} {O : Addr → Prop} {H : Hp} {vs : List V} {ds : List D} (h : AtAll K O H vs ds) : AtAll K O H vs.reverse ds.reverse := by
  induction vs generalizing ds with
  | nil => cases h; exact .nil
  | cons v vs ih =>
    cases h with
    | cons a r =>
      rw [List.reverse_cons, List.reverse_cons]
      exact (ih r).append (.cons a .nil)
def backD : D → Option D
  | .tuple ds => some (.tuple ds.reverse)
  | .list ds => some (.list ds.reverse)
  | _ => none
theorem pe_orE {e : Expr} {t t' : TE} (h : PE X e t) (h' : PE X e t') : PE X e (fun σ H Q => t σ H Q ∨ t' σ H Q) :=
  ⟨fun pins s σ H Q I q => q.elim (h.run pins s σ H Q I) (h'.run pins s σ H Q I)⟩
theorem de_back {fr : Bool} {f : EF} {e : Expr} {k : Nat} {p1 p2 p3 pos : Pos} (he : DE z X fr e f) :
    DE z X true (.Subscript e (.Slice none none (some (.UnaryOp .USub (.Constant (.int 1) k p1) p2)) p3) pos) (fUn backD f) :=
  de_imp (pe_orE (pe_backT he) (pe_revL he)) fun B env σ H Q I hp => by
    have h1 := R.post_bind hp
    cases hf : f env with
    | stuck => rw [hf] at h1; exact h1.elim
    | err x e2 => rw [hf] at h1; exact .inl ⟨B, env, I, by rw [hf]; exact h1⟩
    | ok p =>
      rw [hf] at h1
      obtain ⟨d, e1⟩ := p
      obtain ⟨w, ew, hw⟩ := ofO_post (R.post_bind h1)
      cases d with
      | tuple ds =>
        refine .inl ⟨B, env, I, ?_⟩
        rw [hf]
        intro v H1 I1 m1 a1 _
        cases a1 with
        | tup l r => cases ew; exact ⟨_, _, rfl, l.1, fun q hq => EP1.give hw I1 m1 (Res.tup I1.od hq r.back)⟩
      | list ds =>
        refine .inr ⟨B, env, I, ?_⟩
        rw [hf]
        intro v H1 I1 m1 a1 _
        cases a1 with
        | lst l r => cases ew; exact ⟨_, _, rfl, l.1, fun q hq => EP1.give hw I1 m1 (Res.lst I1.od hq r.back)⟩
      | _ => cases ew
end
end DL
/-! own lists lent to a test, to an expression whose value is plain: while it runs they are data, behind it they are own lists again -/
namespace DL
open PySem PySem.Spec PyProof.Rows L2
variable {K : PySem.W.Frag}
def Sl.lent : Sl → Sl
  | .ow ds => .im (.list ds)
  | s => s
def lentE (env : En) : En := env.map (Option.map Sl.lent)
def noDk (env : En) : Bool := env.all fun o => match o with | some (.dk _) => false | some (.db _) => false | _ => true
theorem SR.lend {np : List Nat} {B : Bs} {σ : Sg} {H : Hp} {env : En} (I : SR K np B σ H env) (hd : noDk env = true) : SR K np ⟨B.O0, H, [], H, B.fx⟩ σ H (lentE env) := by
  have no : ∀ i a, ¬ ownedAt σ (lentE env) i a := fun i a ⟨s, h1, h2, _⟩ => by
    unfold lentE at h1
    rw [List.getElem?_map, Option.map_eq_some_iff] at h1
    obtain ⟨o, h3, h4⟩ := h1
    cases o with
    | none => cases h4
    | some t =>
      cases h4
      cases t with
      | im d => cases h2
      | ow ds => cases h2
      | dk kvs =>
        have := List.all_eq_true.mp hd _ (List.mem_of_getElem? h3)
        cases this
      | db kvs =>
        have := List.all_eq_true.mp hd _ (List.mem_of_getElem? h3)
        cases this
  have sub : ∀ a, Bs.O ⟨B.O0, H, [], H, B.fx⟩ σ (lentE env) a → B.O0 a := fun a z => z.elim id fun ⟨i, q⟩ => absurd q (no i a)
  refine ⟨by simpa [lentE] using I.len, fun i s hs => ?_, fun i j a h => absurd h (no i a), fun a o h _ => h, fun a h => h, fun i a h => absurd h (no i a), fun a h => ⟨(I.o0 a h).1, fun p hp => by cases hp⟩, fun a o h => h, fun i a h => absurd h (no i a), fun i a h => absurd h (no i a), (fun p hp => by cases hp), I.fix⟩
  unfold lentE at hs
  rw [List.getElem?_map, Option.map_eq_some_iff] at hs
  obtain ⟨o, h3, h4⟩ := hs
  cases o with
  | none => cases h4
  | some t =>
    cases h4
    obtain ⟨v, e, q⟩ := I.slot i t h3
    refine ⟨v, e, ?_⟩
    have m : Mv (B.O σ env) (Bs.O ⟨B.O0, H, [], H, B.fx⟩ σ (lentE env)) H H := Mv.less fun a z => .inl (sub a z)
    cases t with
    | im d => exact At.mv m q
    | ow ds =>
      obtain ⟨a, xs, rfl, _, h5, h6⟩ := q
      have na : ¬ B.O0 a := I.own0 i a ⟨_, h3, rfl, e⟩
      exact .lst ⟨.inl (.inl h5), fun z => absurd (sub a z) na⟩ (AtAll.mv m h6)
    | dk kvs =>
      have := List.all_eq_true.mp hd _ (List.mem_of_getElem? h3)
      cases this
    | db kvs =>
      have := List.all_eq_true.mp hd _ (List.mem_of_getElem? h3)
      cases this
section
variable {X : Cx} {e : Expr} {z : Z}
def tLend (t : En → R En (Bool × En)) : En → R En (Bool × En) := fun env => if noDk env = true then (match t (lentE env) with
  | .ok p => .ok (p.1, env)
  | _ => .stuck) else .stuck
def flatD : D → Bool
  | .list _ => false
  | .tuple _ => false
  | .dict _ => false
  | _ => true
def fLend (f : EF) : EF := fun env => if noDk env = true then (match f (lentE env) with
  | .ok p => if flatD p.1 = true then .ok (p.1, env) else .stuck
  | _ => .stuck) else .stuck
theorem dt_lend {t : En → R En (Bool × En)} (h : DT z X e t) : DT z X e (tLend t) := dt_imp h fun B env σ H Q I hp => by
  unfold tLend at hp
  by_cases hd : noDk env = true
  · rw [if_pos hd] at hp
    refine ⟨_, _, I.lend hd, ?_⟩
    revert hp
    cases t (lentE env) with
    | stuck => exact fun q => q
    | err x s => exact fun q => q.elim
    | ok p => exact fun q H' I' m => q H' (I.ex fun a o h => I'.kept a o h) (Mv.ex fun a o h => I'.kept a o h)
  · rw [if_neg hd] at hp
    exact hp.elim
theorem At.flatD {O O' : Addr → Prop} {H : Hp} {v : V} {d : D} (h : At K O H v d) (hf : flatD d = true) : At K O' H v d := by
  cases h with
  | non => exact .non
  | bl b => exact .bl b
  | int i => exact .int i
  | str x => exact .str x
  | lst _ _ => cases hf
  | tup _ _ => cases hf
  | exc _ _ _ => cases hf
  | excP _ _ _ _ _ => cases hf
theorem de_lend {fr : Bool} {f : EF} (h : DE z X fr e f) : DE z X true e (fLend f) := de_imp h fun B env σ H Q I hp => by
  unfold fLend at hp
  by_cases hd : noDk env = true
  · rw [if_pos hd] at hp
    refine ⟨_, _, I.lend hd, ?_⟩
    revert hp
    cases f (lentE env) with
    | stuck => exact fun q => q
    | err x s => exact fun q => q.elim
    | ok p =>
      intro q
      simp only at q
      by_cases hf : DL.flatD p.1 = true
      · rw [if_pos hf] at q
        exact fun v H' I' m a _ => q v H' (I.ex fun a o h => I'.kept a o h) (Mv.ex fun a o h => I'.kept a o h) (a.flatD hf) fun _ => .flat fun ds e => by rw [e] at hf; cases hf
      · rw [if_neg hf] at q
        exact q.elim
  · rw [if_neg hd] at hp
    exact hp.elim
end
end DL
/-! an error caught by "except .. as e" and kept in a name: from then on it is data -/
namespace DL
open PySem PySem.Spec PyProof.Rows L2
section
variable {X : Cx} {pins : List (Addr × Obj)} {σ : Sg} {H : Hp} {s : Shared}
/-- an object that was known by itself is known by its description -/
theorem inv_track {a : Addr} {ob : Obj} {fs : Array Value} {o : HO} (I : Inv X pins σ H s) (he : s.heap.get? a = some ob) (hd : ob.data = .fields fs) (na : H a = none) (n0 : X.s_0.heap.get? a = none) (nL : a ≠ X.env.locals)
    (np : ∀ p ∈ X.pn ++ pins, p.1 ≠ a) (new : ObjOk X.prog X.w (upd H a o) s.heap a o) : Inv X pins σ (upd H a o) s := by
  have other : ∀ {b : Addr}, b ≠ a → upd H a o b = H b := fun h => upd_ne h
  have had : ∀ {b : Addr} {u : HO}, H b = some u → b ≠ a := fun e z => by rw [z, na] at e; cases e
  refine ⟨I.ok, I.os, I.bare, ⟨I.base.keep, I.base.slot, fun b u e n q => ?_, I.base.there, fun b xs e => ?_, fun b u w e => ?_, fun b ps e => ?_⟩, I.loc, I.cell, ?_, fun x c e => ?_, fun p hp => ?_, fun b u e => ?_, I.len⟩
  · rw [other fun z => by rw [z, n0] at e; cases e]
    exact I.base.free b u e n q
  · have k := I.base.tups b xs e
    rw [other (had k)]; exact k
  · have k := I.base.frzs b u w e
    rw [other (had k)]; exact k
  · obtain ⟨m, k⟩ := I.base.tbls b ps e
    exact ⟨m, by rw [other (had k)]; exact k⟩
  · rw [other (Ne.symm nL)]; exact I.free
  · obtain ⟨w, ow, hw, dw⟩ := I.cell x c e
    rw [other fun z => by rw [z, he] at hw; cases hw; rw [hd] at dw; cases dw]
    exact I.freeC x c e
  · obtain ⟨k1, k2, k3⟩ := I.pin p hp
    exact ⟨k1, by rw [other (np p hp)]; exact k2, k3⟩
  · by_cases hb : b = a
    · rw [hb, upd_same] at e
      cases e
      rw [hb]; exact new
    · rw [other hb] at e
      exact (I.hok b u e).stay (fun c w _ q => q) (fun c q => by rw [other (had q)]; exact q) fun c xs q => by rw [other (had q)]; exact q
end
/-- what "except x as n: v = n" wishes of an error of the body -/
def wKeep (K : PySem.W.Frag) (c : Value) (i j : Nat) (Wout : WX) (D : Ends) : WX := fun cls d σ H => ∃ b, PySem.W.exmOne K cls c = some b ∧
  (b = true → ∀ a, H a = none → D.nx (((σ.set i (some (.ref a))).set j (some (.ref a))).set i none) (upd H a (ExB cls d a))) ∧ (b = false → Wout cls d σ H)
def tCopy (i j : Nat) : TS := fun D σ H => ∃ u, σ[i]? = some (some u) ∧ D.nx (σ.set j (some u)) H
section
variable {X : Cx} {x n v : Str} {c : Value} {i j : Nat} {body : List Stmt} {np np2 vp ap pos pos' : Pos} {tb : WX → TS} {Wout : WX}
theorem ps_tryKeep (hs : X.stack = X.env :: X.outer) (hf : X.env.frame = some X.env.locals) (hx : X.ex = []) (hN : X.N.Nodup) (hi : X.N[i]? = some n) (hln : X.env.kindOf n = some .local) (hc : Names X x c) (tk : Takes X Wout)
    (hb : ∀ (W : WX) (pn : List (Addr × Obj)) (xe : Value → Shared → Prop), Takes (X.tr pn xe) W → PassesOwn (model X.prog X.w) X.A X.env xe → PSs (X.tr pn xe) body (tb W))
    (hsu : ∀ (a : Addr) (oe : Obj) (pn : List (Addr × Obj)), PSs (X.suite a ((a, oe) :: pn)) [.Assign [.Name v vp] (.Name n np2) ap] (tCopy i j)) :
    PS X (.Try body [.ExceptHandler (some (.Name x np)) (some n) [.Assign [.Name v vp] (.Name n np2) ap] pos'] [] [] pos) (fun D σ H => tb (wKeep X.K c i j Wout D) D σ H) := by
  refine ⟨fun pins s σ H D I h => ?_⟩
  have okX := I.ok
  have frX : X.A.frames = some (X.env :: X.outer) := by rw [okX.frames, hs]
  have locN : Loc X.env.scope n := .inl hln
  refine wpAny_Try_except ?_
  refine wpAny_mono ((hb (wKeep X.K c i j Wout D) (X.pn ++ pins) (fun e s1 => wpAny (model X.prog X.w) X.A (noteFrame e X.env) (fun _ s2 => wpAny (model X.prog X.w) X.A (setFlight e none) (fun _ s3 =>
    wpAny (model X.prog X.w) X.A (handleBy e X.env [.ExceptHandler (some (.Name x np)) (some n) [.Assign [.Name v vp] (.Name n np2) ap] pos']) (SP X pins D) X.xe s3) X.xe s2) X.xe s1) (fun u sE xx => ?_) PassesOwn.looking).run [] s σ H D (I.toTry _) h) (fun f sE hsp => ?_) fun e sE he => he
  · obtain ⟨a, B, sI, pinsE, σE, HE, cls, d, rfl, JE, inB, upE, skyE, naE, osE, agE, b, hbE, yes, no⟩ := xx
    have J : Inv X pins σE HE sI := JE.ofTry okX
    have sky2 : Sky B (X.env :: X.outer) a (Zc cls d) X.env.locals sE.heap := by rw [← hs]; exact skyE
    show wpAny (model X.prog X.w) X.A (noteFrame (.ref a) X.env) _ _ _
    refine Sky.land Zc.steady frX hf sky2 fun h3 fl3 up3 => ?_
    have J3 : Inv X pins σE HE { sE with heap := h3 } := J.landed inB fl3.1 (upE.trans up3) osE agE
    obtain ⟨ob3, fs3, at3, cls3, data3⟩ := fl3.there
    have offFrames : ∀ {hh : Heap} {o : Obj} {fs : Array Value}, hh.FunFrames B (X.env :: X.outer) → hh.get? a = some o → o.data = .fields fs → a ∉ frs (X.env :: X.outer) := fun {hh o fs} ff e dd hm => by
      obtain ⟨_, o2, e2, hnf⟩ := ff.mem hm
      rw [e] at e2
      cases e2
      exact hnf _ dd
    have notFr := offFrames fl3.2.2.1 at3 data3
    have notL : a ≠ X.env.locals := fun z => notFr (List.mem_filterMap.mpr ⟨X.env, List.mem_cons_self, by rw [hf, z]⟩)
    have notF : a ∉ X.fs := fun hm => by
      obtain ⟨e, he, q⟩ := List.mem_filterMap.mp hm
      exact notFr (List.mem_filterMap.mpr ⟨e, List.mem_cons_of_mem _ he, q⟩)
    have newI : sI.heap.get? a = none := by
      cases e : sI.heap.get? a with
      | none => rfl
      | some o =>
        have z := inB a o e (by rw [hs]; exact notFr)
        rw [fl3.2.1] at z
        cases z
    have new0 : X.s_0.heap.get? a = none := by
      cases e : X.s_0.heap.get? a with
      | none => rfl
      | some o =>
        obtain ⟨o2, z⟩ := J.base.there a o e (by rw [hx]; exact fun z => nomatch z)
        rw [newI] at z
        cases z
    have pinsOff : ∀ p ∈ X.pn ++ pins, p.1 ≠ a := fun p hp z => by
      have k := (J.pin p hp).1
      rw [z, newI] at k
      cases k
    have S3 := J3.suite at3 data3 naE notL notF
    refine wpAny_handleBy_cons (codeAny_handlers_test ?_) (by intro q; cases q)
    have LT : PySem.W.Looks (model X.prog X.w) h3 (typeOf (.ref a)) cls := fun A Q E s k q => wpAny_typeOf_ref (k _ _ at3) (by rw [cls3.1]; exact q)
    have LM := PySem.W.exm_one (M := model X.prog X.w) (J3.kIn) LT hbE
    have test : ∀ {Q : Value → Shared → Prop} {E : Value → Shared → Prop}, Q c { sE with heap := h3 } → wpAny (model X.prog X.w) (X.A.mark (some (.ref a))) (eval (.Name x np) X.env) Q E { sE with heap := h3 } := fun {Q E} q => by
      obtain ⟨hg, hdbg, hm | ⟨hm, hv, hnn⟩⟩ := hc
      · exact ld_glob (X := X.suite a ((a, ob3) :: (X.pn ++ pins))) S3 hg hm q hdbg
      · exact ld_blt (X := X.suite a ((a, ob3) :: (X.pn ++ pins))) S3 hg hm hv q hnn hdbg
    refine test (LM.here ?_)
    cases b with
    | true =>
      have yes2 := yes rfl
      refine codeAny_handlers_suite_as ?_
      refine HandSPX.lands_againZ fl3 fun h4 fl4 up4 => ?_
      have J4 : Inv X pins σE HE { sE with heap := h4 } := J.landed inB fl4.1 ((upE.trans up3).trans up4) osE agE
      obtain ⟨ob4, fs4, at4, cls4, data4⟩ := fl4.there
      have S4 := J4.suite at4 data4 naE notL notF
      refine store_ok (X := X.suite a ((a, ob4) :: (X.pn ++ pins))) (v := .ref a) S4 hN hi locN rfl (fun s5 S5 => ?_) (.inr hln)
      have hlt : i < σE.length := by
        have k1 := S4.len
        have k2 : i < X.N.length := (List.getElem?_eq_some_iff.mp hi).1
        have k3 : σE.length = X.N.length := k1
        omega
      have Dn : tCopy i j { nx := fun σ6 H6 => H6 = HE ∧ σ6 = (σE.set i (some (.ref a))).set j (some (.ref a)), rt := fun _ _ => False, bk := fun _ _ => False, ct := fun _ _ => False } (σE.set i (some (.ref a))) HE :=
        ⟨.ref a, by rw [List.getElem?_set_self hlt], rfl, rfl⟩
      refine wpAny_mono ((hsu a ob4 (X.pn ++ pins)).run [] s5 _ HE _ S5 Dn) (fun f s6 hsp => ?_) fun _ _ z => z.elim
      cases f with
      | next =>
        obtain ⟨σ6, H6, S6, rfl, rfl⟩ := hsp
        have pinA := S6.pin (a, ob4) (List.mem_append.mpr (.inl List.mem_cons_self))
        have T6 := inv_track (o := ExB cls d a) (S6.unsuite okX) pinA.1 data4 naE new0 notL pinsOff ⟨⟨ob4, fs4, pinA.1, cls4, data4⟩, ⟨ob4, pinA.1⟩, fun _ _ ⟨o, w, q, r⟩ k => ⟨o, w, k o q, r⟩⟩
        refine gone_ok T6 hN hi hln fun s7 J7 => ?_
        exact ⟨_, _, J7, yes2 a naE⟩
      | brk =>
        obtain ⟨_, _, _, z⟩ := hsp
        exact z.elim
      | cont =>
        obtain ⟨_, _, _, z⟩ := hsp
        exact z.elim
      | ret u =>
        obtain ⟨_, _, _, _, _, z⟩ := hsp
        exact z.elim
    | false =>
      show wpAny _ X.A (handleBy (.ref a) X.env []) _ _ _
      refine wpAny_handleBy_nil ?_
      obtain ⟨k1, k2, k3, obF, fsF, T, oT, tsF, heF, hzF, hdF, h1F, hrF⟩ := id fl3
      unfold PySem.passOn
      refine wpAny_bind (wpAny_field heF hdF h1F ?_)
      rw [if_neg (show ¬ ((Value.ref T == Value.none) = true) from by simp)]
      have fin : wpAny (model X.prog X.w) X.A (setFlight (.ref a) X.env.frame) (fun _ s4 => wpAny (model X.prog X.w) X.A (throw (.ref a) : Sem Flow) (SP X pins D) X.xe s4) X.xe { sE with heap := h3 } := by
        rw [hf]
        exact HandSPX.setFlight_upZ fl3 fun h4 hh4 up4 => wpAny_throw (tk _ _ ⟨a, B, sI, pins, σE, HE, cls, d, rfl, J, inB, (upE.trans up3).trans up4, .inr (.inr (by rw [hs]; exact hh4)), naE, osE, agE, no rfl⟩)
      first
        | exact wpAny_bind (wpAny_pure (wpAny_bind fin))
        | exact wpAny_bind fin
  · cases f with
    | next => obtain ⟨σE, HE, J, q⟩ := hsp; exact wpAny_execs_nil ⟨σE, HE, J.ofTry okX, q⟩
    | brk => obtain ⟨σE, HE, J, q⟩ := hsp; exact ⟨σE, HE, J.ofTry okX, q⟩
    | cont => obtain ⟨σE, HE, J, q⟩ := hsp; exact ⟨σE, HE, J.ofTry okX, q⟩
    | ret u => obtain ⟨w, σE, HE, J, r, q⟩ := hsp; exact ⟨w, σE, HE, J.ofTry okX, r, q⟩
end
end DL
/-! try .. except StintsError as e: v = e; isinstance of what was kept -/
namespace DL
open PySem PySem.Spec PyProof.Rows L2
variable {K : PySem.W.Frag}
def excD (n : Str) : D := .dict [(.str n, .none)]
/-- all of the package's errors stand in the written part -/
structure ExA (K : PySem.W.Frag) (mg : Str → Option Value) : Prop where
  i : ∀ n : Str, n ∈ exNames → ExI K n
  g : ∀ n : Str, n ∈ exNames → mg n = some (.ref (caK K n))
  o : ∀ n : Str, n ∈ exNames → PySem.W.kitOne K (.type "NoneType") (.ref (caK K n)) = some false
  m : ∀ n : Str, n ∈ exNames → PySem.W.exmOne K (.ref (caK K n)) (.ref (caK K n)) = some true
  f : ∀ n : Str, n ∈ exNames → PySem.W.findIn K (.ref (caK K n)) "bar" = some none ∧ PySem.W.findIn K (.ref (caK K n)) "line" = some none
section
variable {np : List Nat} {B : Bs} {σ : Sg} {H : Hp} {env : En}
/-- a name goes -/
theorem SR.drop (I : SR K np B σ H env) {i : Nat} {x : Option V} (hi : i ∉ np) : SR K np B (σ.set i x) H (env.set i none) ∧ Mv (B.O σ env) (B.O (σ.set i x) (env.set i none)) H H := by
  have ow : ∀ j a, ownedAt (σ.set i x) (env.set i none) j a → j ≠ i ∧ ownedAt σ env j a := fun j a ⟨s, h1, h2, h3⟩ => by
    rcases getElem?_set_some h1 with ⟨e, e2⟩ | ⟨e, h1⟩
    · cases e2
    · rw [List.getElem?_set_ne (Ne.symm e)] at h3
      exact ⟨e, s, h1, h2, h3⟩
  have wo : ∀ j a, j ≠ i → ownedAt σ env j a → ownedAt (σ.set i x) (env.set i none) j a := fun j a n ⟨s, h1, h2, h3⟩ =>
    ⟨s, by rw [List.getElem?_set_ne (Ne.symm n)]; exact h1, h2, by rw [List.getElem?_set_ne (Ne.symm n)]; exact h3⟩
  have m : Mv (B.O σ env) (B.O (σ.set i x) (env.set i none)) H H := Mv.less fun a z => z.elim .inl fun ⟨j, q⟩ => .inr ⟨j, (ow j a q).2⟩
  refine ⟨⟨by simpa using I.len, fun j s hs => ?_, fun j k a h1 h2 => I.dist j k a (ow j a h1).2 (ow k a h2).2, I.keep, I.dom, fun j a h => I.new j a (ow j a h).2, I.o0, I.kept, fun j a h => I.kpo j a (ow j a h).2, fun j a h => I.own0 j a (ow j a h).2, fun p hp => ?_, I.fixSet hi⟩, m⟩
  · rcases getElem?_set_some hs with ⟨_, e2⟩ | ⟨e, h1⟩
    · cases e2
    · obtain ⟨u, e1, q⟩ := I.slot j s h1
      exact ⟨u, by rw [List.getElem?_set_ne (Ne.symm e)]; exact e1, q.mv m (fun a ea ho => .inr ⟨j, wo j a e ⟨s, h1, ho, ea ▸ e1⟩⟩) fun _ _ _ _ z => z⟩
  · obtain ⟨h1, h2, h3⟩ := I.par p hp
    exact ⟨wo _ _ (fun z => hi (z ▸ h3)) h1, h2, h3⟩
end
section
variable {X : Cx} {z : Z} {fr : Bool} {e : Expr}
/-- an error as data -/
def excDP (x : Exn) : D := .dict ((.str x.cls, .none) :: x.dat.map fun p => (.str p.1, p.2))
/-- i: the clause's name; j: the name that keeps the error -/
def sTryK (i j : Nat) (g : SF) : SF := fun env => match g env with
  | .err x e => if decide (x.dat.length ≤ 1) = true ∧ x.cls ∈ exNames then .ok (.nx ((e.set j (some (.im (excDP x)))).set i none)) else .stuck
  | r => r
theorem ds_tryKeep {i j : Nat} {n v : Str} {body : List Stmt} {np np2 vp ap pos pos' : Pos} {g : SF} (F : ExA X.K X.mg) (hC : z.ca = caOf X.mg) (hs : X.stack = X.env :: X.outer) (hf : X.env.frame = some X.env.locals) (hx : X.ex = []) (tk : Takes X z.W) (hg : Gl X "StintsError")
    (hN : X.N.Nodup) (hi : X.N[i]? = some n) (hln : X.env.kindOf n = some .local) (hij : i ≠ j) (hin : i ∉ z.np) (hjn : j ∉ z.np)
    (hsu : ∀ (a : Addr) (oe : Obj) (pn : List (Addr × Obj)), PSs (X.suite a ((a, oe) :: pn)) [.Assign [.Name v vp] (.Name n np2) ap] (tCopy i j))
    (hb : ∀ (W : WX) (pn : List (Addr × Obj)) (xe : Value → Shared → Prop), Takes (X.tr pn xe) W → PassesOwn (model X.prog X.w) X.A X.env xe → DSs { z with W := W } (X.tr pn xe) fr body g) :
    DS z X fr (.Try body [.ExceptHandler (some (.Name "StintsError" np)) (some n) [.Assign [.Name v vp] (.Name n np2) ap] pos'] [] [] pos) (sTryK i j g) := by
  have hS : ("StintsError" : Str) ∈ exNames := by decide
  have hc : Names X "StintsError" (.ref (caK X.K "StintsError")) := ⟨hg, by decide +kernel, .inl (F.g _ hS)⟩
  refine ps_weak (ps_tryKeep (j := j) (tb := fun W => tS X.K { z with W := W } fr g) (Wout := z.W) hs hf hx hN hi hln hc tk hb hsu) fun Dd σ H ⟨B, env, I, p⟩ => ⟨B, env, I, ?_⟩
  unfold sTryK at p
  revert p
  cases g env with
  | stuck => exact fun p => p
  | ok o =>
    intro p
    cases o with
    | nx e => exact p
    | rt d e => exact p
    | bk e => exact p
    | ct e => exact p
  | err x e =>
    intro p
    simp only at p
    by_cases hq : decide (x.dat.length ≤ 1) = true ∧ x.cls ∈ exNames
    · rw [if_pos hq] at p
      intro cls dp σ' H' I' m' ea
      obtain ⟨rfl, hd⟩ := ea
      have e0 : x.dat.length ≤ 1 := of_decide_eq_true hq.1
      have ec : ({ z with W := wKeep X.K (.ref (caK X.K "StintsError")) i j z.W Dd } : Z).ca x.cls = caK X.K x.cls := by
        show z.ca x.cls = _
        rw [hC]
        exact caOf_eq (F.g _ hq.2)
      rw [ec]
      refine ⟨true, (F.i _ hq.2).e, fun _ a na => ?_, fun q => nomatch q⟩
      have I1 := I'.ex (Ex.new (o := ExB (.ref (caK X.K x.cls)) dp a) na)
      have m1 : Mv (B.O σ' e) (B.O σ' e) H' (upd H' a (ExB (.ref (caK X.K x.cls)) dp a)) := Mv.ex (Ex.new na)
      have nO : ¬ B.O σ' e a := I'.nO na
      have at_ : At X.K (B.O σ' e) (upd H' a (ExB (.ref (caK X.K x.cls)) dp a)) (.ref a) (excDP x) := by
        obtain ⟨cls', dat⟩ := x
        cases dat with
        | nil =>
          have hd : dp = none := hd
          subst hd
          exact .exc cls' ⟨upd_same, nO⟩ (F.i _ hq.2)
        | cons fd0 r =>
          cases r with
          | cons _ _ => exact absurd e0 (by simp)
          | nil =>
            obtain ⟨dx, vs, rfl, ⟨hdx, ndx⟩, hf, av⟩ := hd
            cases vs with
            | nil => simp at hf
            | cons w r =>
              cases r with
              | cons _ _ => simp at hf
              | nil =>
                obtain ⟨f, d⟩ := fd0
                obtain ⟨g, v⟩ := w
                have eg : g = f := by simpa using hf
                subst eg
                have av : AtAll X.K (B.O σ' e) H' [v] [d] := av
                cases av with
                | cons av _ =>
                  have da : dx ≠ a := fun z => by rw [z, na] at hdx; cases hdx
                  refine .excP cls' g ⟨⟨upd_same, nO⟩, ⟨[(g, v)], by rw [upd_ne da]; exact hdx, by simp [List.lookup]⟩, ndx⟩ (F.i _ hq.2) (At.mv m1 av)
      obtain ⟨I2, m2⟩ := I1.setIm (v := .ref a) (d := excDP x) hjn at_
      obtain ⟨I3, m3⟩ := I2.drop (x := none) hin
      have es : ((σ'.set i (some (V.ref a))).set j (some (.ref a))).set i none = (σ'.set j (some (.ref a))).set i none := by
        rw [List.set_comm _ _ hij, List.set_set]
      rw [es]
      exact p _ _ I3 ((m'.trans m1).trans (m2.trans m3))
    · rw [if_neg hq] at p
      exact p.elim
/-- isinstance of an error's class -/
def isEx (m : Str) : D → Option D
  | .none => some (.bool false)
  | .dict ((.str n, .none) :: _) => some (.bool (exSub n m))
  | _ => none
def fIsE (m : Str) (f : EF) : EF := fUn (isEx m) f
theorem de_isE {m : Str} {p p2 pos : Pos} {fr : Bool} {f : EF} (F : ExA X.K X.mg) (he : DE z X fr e f) (hg : Gl X "isinstance") (hm : X.mg "isinstance" = none) (hgm : Gl X m) (hmem : m ∈ exNames)
    (hd : (m == ("__debug__" : Str)) = false := by decide)
    (he1 : starEach [e, .Name m p2] X.env = (false, eval e X.env) :: starEach [.Name m p2] X.env := by rfl) (he2 : starEach [.Name m p2] X.env = (false, eval (.Name m p2) X.env) :: starEach [] X.env := by rfl) (hpl : (backTo pos (starEach [.Name m p2] X.env)).any (·.1) = false := by rfl) :
    DE z X true (.Call (.Name "isinstance" p) [e, .Name m p2] [] pos) (fIsE m f) := by
  refine de_imp (pe_callB (call_isi.or call_isX) hg hm (by decide +kernel) (pa_cons he (pa_cons (pe_glob (v := .ref (caK X.K m)) hgm (F.g m hmem) rfl hd) pa_nil he2) he1) (by decide) (by decide) he1 hpl) fun B env σ H Q I hp => ?_
  refine ⟨B, env, I, (R.post_bind hp).imp (fun p hp v H1 I1 m1 a1 _ => ?_) fun _ _ q => q⟩
  obtain ⟨w, ew, hw⟩ := ofO_post (R.post_bind hp)
  obtain ⟨d, e2⟩ := p
  dsimp only at ew hw a1 I1 m1
  cases a1 with
  | non =>
    cases ew
    exact .inl ⟨.non, .ref (caK X.K m), _, _, false, rfl, .own _, .base .non, F.o m hmem, EP1.give hw I1 m1 (.flat (.bl _) fun _ q => nomatch q)⟩
  | exc n h i =>
    cases ew
    exact .inr ⟨_, caK X.K n, .ref (caK X.K m), _, _, none, rfl, .own _, ⟨h.1, fun _ q => nomatch q⟩, i.c, i.s m hmem, EP1.give hw I1 m1 (.flat (.bl _) fun _ q => nomatch q)⟩
  | excP n f h i _ =>
    cases ew
    obtain ⟨⟨h1, _⟩, ⟨fs, h2, _⟩, _⟩ := h
    exact .inr ⟨_, caK X.K n, .ref (caK X.K m), _, _, _, rfl, .own _, ⟨h1, fun dx q => by cases q; exact ⟨fs, h2⟩⟩, i.c, i.s m hmem, EP1.give hw I1 m1 (.flat (.bl _) fun _ q => nomatch q)⟩
  | _ => cases ew
end
end DL
/-! the errors' classes, looked at in the written part by reckoning -/
namespace DL
open PySem PySem.Spec PyProof.Rows L2
def exOne (K : PySem.W.Frag) (n : Str) : Bool :=
  (PySem.W.nsIn K mainGlobals n == some (some (.ref (caK K n)))) &&
  (PySem.W.findIn K (.ref (caK K n)) "__getattribute__" == some (some (.builtin "BaseException.__getattribute__"))) &&
  (PySem.W.findIn K (.ref (caK K n)) "__getattr__" == some none) &&
  (PySem.W.subIn K (.ref (caK K n)) (.type "BaseException") == some true) &&
  PySem.W.hasDictIn K (caK K n) &&
  (PySem.W.findIn K (.ref (caK K n)) "__class__" == some (some (.builtin "object.__class__"))) &&
  (PySem.W.mroIn K (caK K n) (.type "object") == some true) &&
  (tyFive.all fun T => PySem.W.kitOne K (.ref (caK K n)) (.type T) == some false) &&
  (PySem.W.kitOne K (.ref (caK K n)) (.type "ValueError") == some true) &&
  (PySem.W.exmOne K (.ref (caK K n)) (.ref (caK K "StintsError")) == some true) &&
  (exNames.all fun m => PySem.W.kitOne K (.ref (caK K n)) (.ref (caK K m)) == some (exSub n m)) &&
  (PySem.W.kitOne K (.type "NoneType") (.ref (caK K n)) == some false) &&
  ((PySem.W.exmOne K (.ref (caK K n)) (.ref (caK K n)) == some true) &&
  ((PySem.W.findIn K (.ref (caK K n)) "bar" == some none) && (PySem.W.findIn K (.ref (caK K n)) "line" == some none)))
def exAll (K : PySem.W.Frag) : Bool := (PySem.W.specialIn K (.builtin "object.__class__") "__get__" == some (some (.builtin "getset_descriptor.__get__"))) && (PySem.W.takesIn K (.builtin "object.__class__") == some true) && exNames.all (exOne K)
theorem exA_of {K : PySem.W.Frag} {h : Heap} {mg : Str → Option Value} (KX : K.In h) (G : h.Ns mainGlobals mg) (c : exAll K = true) : ExA K mg := by
  unfold exAll at c
  simp only [Bool.and_eq_true, beq_iff_eq] at c
  obtain ⟨⟨c1, c2⟩, c3⟩ := c
  have one : ∀ n : Str, n ∈ exNames → exOne K n = true := fun n hn => List.all_eq_true.mp c3 n hn
  refine ⟨fun n hn => ?_, fun n hn => ?_, fun n hn => ?_, fun n hn => ?_, fun n hn => ?_⟩
  · have q := one n hn
    unfold exOne at q
    simp only [Bool.and_eq_true, beq_iff_eq] at q
    obtain ⟨⟨⟨⟨⟨⟨⟨⟨⟨⟨⟨⟨q1, q2⟩, q3⟩, q4⟩, q5⟩, q6⟩, q7⟩, q8⟩, q9⟩, q10⟩, q11⟩, q12⟩, _⟩ := q
    exact ⟨⟨q2, q3, q4, q5, q6, c1, c2, q7⟩, fun T hT => beq_iff_eq.mp (List.all_eq_true.mp q8 T hT), q9, q10, fun m hm => beq_iff_eq.mp (List.all_eq_true.mp q11 m hm)⟩
  · have q := one n hn
    unfold exOne at q
    simp only [Bool.and_eq_true, beq_iff_eq] at q
    obtain ⟨⟨⟨⟨⟨⟨⟨⟨⟨⟨⟨⟨q1, q2⟩, q3⟩, q4⟩, q5⟩, q6⟩, q7⟩, q8⟩, q9⟩, q10⟩, q11⟩, q12⟩, _⟩ := q
    exact PySem.W.mg_of KX G q1
  · have q := one n hn
    unfold exOne at q
    simp only [Bool.and_eq_true, beq_iff_eq] at q
    exact q.1.2
  · have q := one n hn
    unfold exOne at q
    simp only [Bool.and_eq_true, beq_iff_eq] at q
    exact q.2.1
  · have q := one n hn
    unfold exOne at q
    simp only [Bool.and_eq_true, beq_iff_eq] at q
    exact q.2.2
theorem copy_ok {Y : Cx} {st : Stmt} {i j : Nat} (h : PS Y st (tAsg (tVar i) (gName j))) : PSs Y [st] (tCopy i j) := pss_weak (pss_one h) fun D σ H ⟨u, e, q⟩ => ⟨u, e, q⟩
end DL
/-! xs.count(x), xs.index(x) of data -/
namespace DL
open PySem PySem.Spec PyProof.Rows L2
section
variable {X : Cx} {z : Z} {e : Expr}
def rCountD (K : PySem.W.Frag) : V → List V → Hp → VK → Prop := fun x xs H Q => ∃ (a : Addr) (y : V) (d : PyData) (ds : List PyData), x = V.ref a ∧ xs = [y] ∧ Dp K H (V.ref a) (.list ds) ∧ Dp K H y d ∧
  SeqAt.shaped (.list ds) = true ∧ SeqAt.shaped d = true ∧ Q (.int (ds.countP fun w => PyData.eqv w d : Nat)) H
theorem mt_countD (hu : X.A.units + 65 < cLine) : MtR X "list.count" (rCountD X.K) := by
  intro pins s σ H x xs v us Q I rx rxs h
  obtain ⟨a, y, d, ds, rfl, rfl, hl, hy, sl, sd, q⟩ := h
  cases rx
  cases rxs with
  | cons ry rt =>
    rename_i uy ut
    cases rt
    obtain ⟨bs, rY⟩ := Dp.reads I d y uy hy ry
    have lay : PyData.canLayAll0 ds = true := SeqAt.canLay_of_shaped sl
    have room : X.A.units + 1 + min (PyData.depthAll ds) d.depth < cLine := room_in_shaped sd hu
    cases hl with
    | lst hs ha =>
      obtain ⟨its, rv, ⟨⟨cls, dd, data, sls⟩, n, ho, hc, hdn, hdt⟩, hlen⟩ := I.list hs
      simp only at hc hdt
      subst hc hdt
      obtain ⟨as, rL⟩ := Dp.readsAll I ds _ its ha rv
      have em : its.map (SeqAt.readOf s.heap) = ds := SeqAt.readsAll_map ds its as lay rL
      have ec : its.toArray.toList.countP (fun u => PyData.eqv (SeqAt.readOf s.heap u) d) = ds.countP fun w => PyData.eqv w d := by
        rw [← em, List.countP_map]; rfl
      refine call_meets PySem.F.slot_list_count ⟨_, ho, rfl⟩ PySem.F.entry_list_count (PySem.F.args_list_count_2 _ _)
        (SeqAt.list_countAt a its.toArray n dd sls uy fun u => PyData.eqv (SeqAt.readOf s.heap u) d) ⟨ho, SeqAt.items_eqAt (vs := its.toArray) (show ReadsAll s.heap its.toArray.toList ds as from rL) rY lay (SeqAt.canLay_of_shaped sd) room, ?_⟩
      refine ⟨.int (ds.countP fun w => PyData.eqv w d : Nat), H, I.tok _, ⟨s.toks, ?_⟩, q⟩
      show Value.int ((its.toArray.toList.countP (fun u => PyData.eqv (SeqAt.readOf s.heap u) d) : Nat) : Int) s.toks = _
      rw [ec]
def countD (d e : D) : Option D := match d with
  | .list ds => if (SeqAt.shaped (.list ds) && SeqAt.shaped e) = true then some (.int (ds.countP fun w => PyData.eqv w e : Nat)) else none
  | _ => none
def indexD (d e : D) : Option D := match d with
  | .list ds => if (SeqAt.shaped (.list ds) && SeqAt.shaped e) = true then (ds.findIdx? fun w => PyData.eqv w e).map fun j => .int (j : Nat) else none
  | _ => none
def fMt (h : D → D → Option D) (f g : EF) : EF := fun env => (f env).bind fun p => match p.1 with
  | .list ds => (g p.2).bind fun q => (ofO (h (.list ds) q.1)).bind fun r => .ok (r, q.2)
  | _ => .stuck
theorem de_mtD {id : String} {name : Str} {r : V → List V → Hp → VK → Prop} {h : D → D → Option D} {fo fe : Bool} {f g : EF} {o : Expr} {apos cpos : Pos} (slot : Slot "list" name id) (hty : typeOf (.builtin id) = pure (.type "method_descriptor")) (hm : MtR X id r)
    (sem : ∀ (H : Hp) (x y : V) (ds : List D) (e w : D) (Q : VK), (∃ a, x = .ref a) → (SeqAt.shaped (.list ds) = true → Dp X.K H x (.list ds)) → (SeqAt.shaped e = true → Dp X.K H y e) → h (.list ds) e = some w → (∀ i : Int, w = .int i → Q (.int i) H) → r x [y] H Q)
    (hi : ∀ d e w, h d e = some w → ∃ i : Int, w = .int i) (ho : DE z X fo o f) (he : DE z X fe e g)
    (hbase : attributeBase o name X.env (eval o X.env) = eval o X.env := by rfl)
    (hfew : ((backTo cpos (starEach [e] X.env)).all (fun x => !x.1) && (backToKw cpos (keywordEach [] X.env)).all (fun x => x.1.isSome)
      && decide ([e].length + ([] : List Keyword).length + (if ([] : List Keyword).isEmpty then 0 else 1) < 30)) = true := by rfl)
    (hline : (apos.endLine == cpos.line) = true := by rfl) (hs : starEach [e] X.env = (false, eval e X.env) :: starEach [] X.env := by rfl) (hplain : (backTo cpos (starEach [] X.env)).any (·.1) = false := by rfl) :
    DE z X true (.Call (.Attribute o name apos) [e] [] cpos) (fMt h f g) :=
  de_imp (pe_bm PySem.F.plainAttrs_list slot hty hm ho (pa_cons he pa_nil hs) hbase hfew hline hs hplain) fun B env σ H Q I hp => ⟨B, env, I, (R.post_bind hp).imp (fun p hp x H1 I1 m1 a1 _ => by
    obtain ⟨d, e1⟩ := p
    cases d with
    | list ds =>
      obtain ⟨a, xs, rfl, l, r1⟩ := a1.list_inv
      refine ⟨.inl ⟨rfl, xs, l.1⟩, B, e1, I1, (R.post_bind hp).imp (fun q hq u H2 I2 m2 a2 _ => ?_) fun _ _ q => q.step m1⟩
      obtain ⟨w, ew, hw⟩ := ofO_post (R.post_bind hq)
      have aL := At.mv m2 (At.lst l r1)
      exact sem H2 (.ref a) u ds q.1 w Q ⟨a, rfl⟩ (fun hs => aL.dp (SeqAt.canLay_of_shaped hs)) (fun hs => a2.dp (SeqAt.canLay_of_shaped hs)) ew fun i ei => by
        subst ei
        exact EP1.give hw I2 (m1.trans m2) (.flat (.int _) fun _ q => nomatch q)
    | _ => exact hp.elim) fun _ _ q => q⟩
theorem de_count {fo fe : Bool} {f g : EF} {o : Expr} {apos cpos : Pos} (hu : X.A.units + 65 < cLine) (ho : DE z X fo o f) (he : DE z X fe e g)
    (hbase : attributeBase o "count" X.env (eval o X.env) = eval o X.env := by rfl)
    (hfew : ((backTo cpos (starEach [e] X.env)).all (fun x => !x.1) && (backToKw cpos (keywordEach [] X.env)).all (fun x => x.1.isSome)
      && decide ([e].length + ([] : List Keyword).length + (if ([] : List Keyword).isEmpty then 0 else 1) < 30)) = true := by rfl)
    (hline : (apos.endLine == cpos.line) = true := by rfl) (hs : starEach [e] X.env = (false, eval e X.env) :: starEach [] X.env := by rfl) (hplain : (backTo cpos (starEach [] X.env)).any (·.1) = false := by rfl) :
    DE z X true (.Call (.Attribute o "count" apos) [e] [] cpos) (fMt countD f g) := by
  refine de_mtD PySem.F.slot_list_count rfl (mt_countD hu) (fun H x y ds e w Q ⟨a, ea⟩ hx hy hw q => ?_) (fun d e w hw => ?_) ho he hbase hfew hline hs hplain
  · subst ea
    unfold countD at hw
    simp only at hw
    split at hw
    · rename_i hc
      rw [Bool.and_eq_true] at hc
      cases hw
      exact ⟨a, y, e, ds, rfl, rfl, hx hc.1, hy hc.2, hc.1, hc.2, q _ rfl⟩
    · cases hw
  · unfold countD at hw
    split at hw
    · split at hw
      · cases hw; exact ⟨_, rfl⟩
      · cases hw
    · cases hw
theorem de_index {fo fe : Bool} {f g : EF} {o : Expr} {apos cpos : Pos} (hu : X.A.units + 65 < cLine) (ho : DE z X fo o f) (he : DE z X fe e g)
    (hbase : attributeBase o "index" X.env (eval o X.env) = eval o X.env := by rfl)
    (hfew : ((backTo cpos (starEach [e] X.env)).all (fun x => !x.1) && (backToKw cpos (keywordEach [] X.env)).all (fun x => x.1.isSome)
      && decide ([e].length + ([] : List Keyword).length + (if ([] : List Keyword).isEmpty then 0 else 1) < 30)) = true := by rfl)
    (hline : (apos.endLine == cpos.line) = true := by rfl) (hs : starEach [e] X.env = (false, eval e X.env) :: starEach [] X.env := by rfl) (hplain : (backTo cpos (starEach [] X.env)).any (·.1) = false := by rfl) :
    DE z X true (.Call (.Attribute o "index" apos) [e] [] cpos) (fMt indexD f g) := by
  refine de_mtD PySem.F.slot_list_index rfl (mt_indexD hu) (fun H x y ds e w Q ⟨a, ea⟩ hx hy hw q => ?_) (fun d e w hw => ?_) ho he hbase hfew hline hs hplain
  · subst ea
    unfold indexD at hw
    simp only at hw
    split at hw
    · rename_i hc
      rw [Bool.and_eq_true] at hc
      rw [Option.map_eq_some_iff] at hw
      obtain ⟨j, hj, rfl⟩ := hw
      rw [List.findIdx?_eq_some_iff_getElem] at hj
      obtain ⟨h1, h2, h3⟩ := hj
      refine ⟨a, y, e, ds, j, ds[j], rfl, rfl, hx hc.1, hy hc.2, hc.1, hc.2, List.getElem?_eq_getElem h1, h2, fun m w hm hw => ?_, q _ rfl⟩
      obtain ⟨h4, rfl⟩ := List.getElem?_eq_some_iff.mp hw
      simpa using h3 m hm
    · cases hw
  · unfold indexD at hw
    split at hw
    · split at hw
      · rw [Option.map_eq_some_iff] at hw
        obtain ⟨j, _, rfl⟩ := hw
        exact ⟨_, rfl⟩
      · cases hw
    · cases hw
end
end DL
/-! a dict that is a name's own: keys ints and texts -/
namespace DL
open PySem PySem.Spec PyProof.Rows L2
variable {K : PySem.W.Frag}
def keyOf : D → Option Key
  | .int i => some (.inl i)
  | .str x => some (.inr x)
  | _ => none
theorem keyOf_at {O : Addr → Prop} {H : Hp} {v : V} {d : D} {k : Key} (h : At K O H v d) (e : keyOf d = some k) : v = kV k := by
  cases h with
  | int i => cases e; rfl
  | str x => cases e; rfl
  | _ => cases e
def valD (kvs : List (Key × D)) (k : Key) : Option D := (kvs.find? fun kv => decide (kv.1 = k)).map (·.2)
def putD (kvs : List (Key × D)) (k : Key) (v : D) : List (Key × D) :=
  if (kvs.any fun kv => decide (kv.1 = k)) = true then kvs.map (fun kv => if kv.1 = k then (kv.1, v) else kv) else kvs ++ [(k, v)]
/-- a dict's pairs and their data -/
inductive DkR (K : PySem.W.Frag) (O : Addr → Prop) (H : Hp) : List (Key × V) → List (Key × D) → Prop
  | nil : DkR K O H [] []
  | cons {k : Key} {v : V} {d : D} {vs : List (Key × V)} {kvs : List (Key × D)} : At K O H v d → DkR K O H vs kvs → DkR K O H ((k, v) :: vs) ((k, d) :: kvs)
section
variable {O O' : Addr → Prop} {H H' : Hp}
theorem DkR.of : ∀ {vs : List (Key × V)} {kvs : List (Key × D)}, vs.map Prod.fst = kvs.map Prod.fst → AtAll K O H (vs.map Prod.snd) (kvs.map Prod.snd) → DkR K O H vs kvs
  | [], [], _, _ => .nil
  | [], _ :: _, e, _ => by simp at e
  | _ :: _, [], e, _ => by simp at e
  | (k, v) :: vs, (k', d) :: kvs, e, r => by
    simp only [List.map_cons, List.cons.injEq] at e r
    obtain ⟨rfl, e⟩ := e
    cases r with
    | cons a r => exact .cons a (DkR.of e r)
theorem DkR.fst : ∀ {vs : List (Key × V)} {kvs : List (Key × D)}, DkR K O H vs kvs → vs.map Prod.fst = kvs.map Prod.fst
  | _, _, .nil => rfl
  | _, _, .cons a r => by simp only [List.map_cons, r.fst]
theorem DkR.snd : ∀ {vs : List (Key × V)} {kvs : List (Key × D)}, DkR K O H vs kvs → AtAll K O H (vs.map Prod.snd) (kvs.map Prod.snd)
  | _, _, .nil => .nil
  | _, _, .cons a r => .cons a r.snd
theorem DkR.length : ∀ {vs : List (Key × V)} {kvs : List (Key × D)}, DkR K O H vs kvs → vs.length = kvs.length
  | _, _, .nil => rfl
  | _, _, .cons a r => by simp only [List.length_cons, r.length]
theorem DkR.mv (m : Mv O O' H H') : ∀ {vs : List (Key × V)} {kvs : List (Key × D)}, DkR K O H vs kvs → DkR K O' H' vs kvs
  | _, _, .nil => .nil
  | _, _, .cons a r => .cons (a.mv m) (r.mv m)
/-- what is found -/
theorem DkR.val : ∀ {vs : List (Key × V)} {kvs : List (Key × D)} (k : Key), DkR K O H vs kvs → (valD kvs k = none ∧ valV vs k = none) ∨ ∃ d v, valD kvs k = some d ∧ valV vs k = some v ∧ At K O H v d
  | _, _, k, .nil => .inl ⟨rfl, rfl⟩
  | _, _, k, .cons (k := j) (v := v) (d := d) (vs := vs) (kvs := kvs) a r => by
    unfold valD valV
    simp only [List.find?_cons]
    by_cases e : j = k
    · simp only [e, decide_true, Option.map_some]
      exact .inr ⟨d, v, rfl, rfl, a⟩
    · simp only [e, decide_false]
      exact r.val k
theorem DkR.any (p : Key → Bool) : ∀ {vs : List (Key × V)} {kvs : List (Key × D)}, DkR K O H vs kvs → (vs.any fun kv => p kv.1) = kvs.any fun kv => p kv.1
  | _, _, .nil => rfl
  | _, _, .cons a r => by simp only [List.any_cons, r.any p]
theorem DkR.put {v : V} {d : D} (k : Key) (a : At K O H v d) : ∀ {vs : List (Key × V)} {kvs : List (Key × D)}, DkR K O H vs kvs → DkR K O H (putK vs k v) (putD kvs k d) := by
  intro vs kvs r
  unfold putK putD
  rw [r.any fun j => decide (j = k)]
  split
  · rename_i h
    clear h
    induction r with
    | nil => exact .nil
    | cons b r ih =>
      simp only [List.map_cons]
      split
      · exact .cons a ih
      · exact .cons b ih
  · rename_i h
    clear h
    induction r with
    | nil => exact .cons a .nil
    | cons b r ih => exact .cons b ih
end
theorem SlotR.dkR {O : Addr → Prop} {H : Hp} {v : V} {kvs : List (Key × D)} (h : SlotR K O H v (.dk kvs)) : ∃ a vs, v = .ref a ∧ O a ∧ H a = some (.dK vs) ∧ DkR K O H vs kvs := by
  obtain ⟨a, vs, e, o, h, f, r⟩ := h
  exact ⟨a, vs, e, o, h, .of f r⟩
theorem SlotR.of_dkR {O : Addr → Prop} {H : Hp} {a : Addr} {vs : List (Key × V)} {kvs : List (Key × D)} (o : O a) (h : H a = some (.dK vs)) (r : DkR K O H vs kvs) : SlotR K O H (.ref a) (.dk kvs) := ⟨a, vs, rfl, o, h, r.fst, r.snd⟩
section
variable {X : Cx} {z : Z} {e : Expr} {pos : Pos} {i : Nat} {o : Expr}
/-- d[k] -/
def fDIx (i : Nat) (g : EF) : EF := fun env => match env[i]? with
  | some (some (.dk _)) => (g env).bind fun q => match q.2[i]? with
    | some (some (.dk kvs)) => (ofO ((keyOf q.1).bind (valD kvs))).bind fun r => .ok (r, q.2)
    | _ => .stuck
  | _ => .stuck
theorem de_dix {fe : Bool} {g : EF} (hu : X.A.units + 1 < cLine) (ho : PE X o (tVar i)) (he : DE z X fe e g) (hs : NoSl e) : DE z X false (.Subscript o e pos) (fDIx i g) :=
  de_imp (pe_dget hu ho he hs) fun B env σ H Q I hp => by
    unfold fDIx at hp
    split at hp
    · rename_i kvs0 e0
      obtain ⟨v0, hv, q0⟩ := I.slot i _ e0
      refine ⟨v0, hv, B, env, I, (R.post_bind hp).imp (fun q hq u H2 I2 m2 a2 _ => ?_) fun _ _ q => q⟩
      split at hq
      · rename_i kvs e1
        obtain ⟨w, ew, hw⟩ := ofO_post (R.post_bind hq)
        obtain ⟨v1, hv1, q1⟩ := I2.slot i _ e1
        rw [hv] at hv1
        cases hv1
        obtain ⟨a, vs, rfl, hO, hH, r⟩ := q1.dkR
        cases ek : keyOf q.1 with
        | none => rw [ek] at ew; cases ew
        | some k =>
          rw [ek] at ew
          have ew : valD kvs k = some w := ew
          rcases r.val k with ⟨h1, _⟩ | ⟨d, v, h1, h2, ha⟩
          · rw [h1] at ew; cases ew
          · rw [h1] at ew; cases ew
            refine ⟨a, v, rfl, ?_, hw v H2 I2 m2 ha fun z => nomatch z⟩
            rw [keyOf_at a2 ek, ← h2]
            exact DGet.k hH
      · exact hq.elim
    · exact hp.elim
/-- d.get(k, x) -/
def fDGet2 (i : Nat) (g f : EF) : EF := fun env => match env[i]? with
  | some (some (.dk _)) => (g env).bind fun q => (f q.2).bind fun p => match p.2[i]? with
    | some (some (.dk kvs)) => (ofO (keyOf q.1)).bind fun k => .ok ((valD kvs k).getD p.1, p.2)
    | _ => .stuck
  | _ => .stuck
theorem de_dget2 {fe ff : Bool} {g f : EF} {e2 : Expr} {apos cpos : Pos} (hu : X.A.units + 1 < cLine) (ho : PE X o (tVar i)) (he : DE z X fe e g) (hf : DE z X ff e2 f) (m : M2 X o "get" apos e e2 cpos) :
    DE z X false (.Call (.Attribute o "get" apos) [e, e2] [] cpos) (fDGet2 i g f) :=
  de_imp (pe_dget2 hu ho he hf m) fun B env σ H Q I hp => by
    unfold fDGet2 at hp
    split at hp
    · rename_i kvs0 e0
      obtain ⟨v0, hv, q0⟩ := I.slot i _ e0
      obtain ⟨a0, vs0, rfl, _, hH0, _⟩ := q0.dkR
      refine ⟨_, hv, a0, rfl, .inl ⟨vs0, .inl hH0⟩, B, env, I, (R.post_bind hp).imp (fun q hq u H2 I2 m2 a2 _ => ?_) fun _ _ q => q⟩
      refine ⟨B, q.2, I2, (R.post_bind hq).imp (fun p hq2 w H3 I3 m3 a3 _ => ?_) fun _ _ q => q.step m2⟩
      split at hq2
      · rename_i kvs e1
        obtain ⟨k, ek, hw⟩ := ofO_post (R.post_bind hq2)
        obtain ⟨v1, hv1, q1⟩ := I3.slot i _ e1
        rw [hv] at hv1
        cases hv1
        obtain ⟨a, vs, ea, hO, hH, r⟩ := q1.dkR
        cases ea
        have eu : u = kV k := keyOf_at a2 ek
        rcases r.val k with ⟨h1, h2⟩ | ⟨d, v, h1, h2, ha⟩
        · rw [h1] at hw
          refine ⟨none, ?_, hw w H3 I3 (m2.trans m3) a3 fun z => nomatch z⟩
          rw [eu, ← h2]
          exact DGet.k hH
        · rw [h1] at hw
          refine ⟨some v, ?_, hw v H3 I3 (m2.trans m3) ha fun z => nomatch z⟩
          rw [eu, ← h2]
          exact DGet.k hH
      · exact hq2.elim
    · exact hp.elim
end
end DL
/-! own dicts: made, asked, written -/
namespace DL
open PySem PySem.Spec PyProof.Rows L2
variable {K : PySem.W.Frag}
section
variable {np : List Nat} {B : Bs} {σ : Sg} {H : Hp} {env : En}
/-- a new thing is stored as the slot's own -/
theorem SR.setNew (I : SR K np B σ H env) {i : Nat} {p : Addr} {o : HO} {t : Sl} (hi : i ∉ np) (hp : H p = none) (ht : t.own = true) (r : ∀ (O2 : Addr → Prop) (H2 : Hp), Mv (B.O σ env) O2 H H2 → O2 p → H2 p = some o → SlotR K O2 H2 (.ref p) t) :
    SR K np B (σ.set i (some (.ref p))) (upd H p o) (env.set i (some t)) ∧ Mv (B.O σ env) (B.O (σ.set i (some (.ref p))) (env.set i (some t))) H (upd H p o) := by
  have nO : ¬ B.O σ env p := I.nO hp
  have I1 := I.ex (Ex.new (o := o) hp)
  have ow : ∀ j b, ownedAt (σ.set i (some (.ref p))) (env.set i (some t)) j b → (j = i ∧ b = p) ∨ (j ≠ i ∧ ownedAt σ env j b) := fun j b ⟨s, h1, h2, h3⟩ => by
    rcases getElem?_set_some h1 with ⟨e, _⟩ | ⟨e, h1⟩
    · rcases getElem?_set_some h3 with ⟨_, e3⟩ | ⟨e3, _⟩
      · cases e3; exact .inl ⟨e, rfl⟩
      · exact absurd e e3
    · rcases getElem?_set_some h3 with ⟨e3, _⟩ | ⟨_, h3⟩
      · exact absurd e3 e
      · exact .inr ⟨e, s, h1, h2, h3⟩
  have wo : ∀ j b, j ≠ i → ownedAt σ env j b → ownedAt (σ.set i (some (.ref p))) (env.set i (some t)) j b := fun j b n ⟨s, h1, h2, h3⟩ =>
    ⟨s, by rw [List.getElem?_set_ne (Ne.symm n)]; exact h1, h2, by rw [List.getElem?_set_ne (Ne.symm n)]; exact h3⟩
  have sub : ∀ b, B.O (σ.set i (some (.ref p))) (env.set i (some t)) b → plus (B.O σ env) p b := fun b z => by
    rcases z with z | ⟨j, q⟩
    · exact .inl (.inl z)
    · rcases ow j b q with ⟨_, e⟩ | ⟨_, q⟩
      · exact .inr e
      · exact .inl (.inr ⟨j, q⟩)
  have m0 : Mv (B.O σ env) (plus (B.O σ env) p) H (upd H p o) := Mv.new hp
  have m1 : Mv (plus (B.O σ env) p) (B.O (σ.set i (some (.ref p))) (env.set i (some t))) (upd H p o) (upd H p o) := Mv.less sub
  have m := m0.trans m1
  have no : ∀ l, ¬ ownedAt σ env l p := fun l q => nO (.inr ⟨l, q⟩)
  refine ⟨⟨by simpa using I.len, fun j s h1 => ?_, fun j k b h1 h2 => ?_, I1.keep, I1.dom, fun j b h => ?_, I1.o0, I1.kept, fun j b h => ?_, fun j b h => ?_, fun q hq => ?_, I1.fixSet hi⟩, m⟩
  · rcases getElem?_set_some h1 with ⟨e, e2⟩ | ⟨e, h2⟩
    · cases e2
      subst e
      have hl : j < env.length := by
        have := (List.getElem?_eq_some_iff.mp h1).1
        simpa using this
      have hl' : j < σ.length := by rw [I.len]; exact hl
      exact ⟨.ref p, by rw [List.getElem?_set_self hl'], r _ _ m (.inr ⟨j, t, by rw [List.getElem?_set_self hl], ht, by rw [List.getElem?_set_self hl']⟩) upd_same⟩
    · obtain ⟨u, e1, q⟩ := I.slot j s h2
      exact ⟨u, by rw [List.getElem?_set_ne (Ne.symm e)]; exact e1, q.mv m (fun b eb ho => .inr ⟨j, wo j b e ⟨s, h2, ho, eb ▸ e1⟩⟩) fun b o _ _ z => Ex.new hp b o z⟩
  · rcases ow j b h1 with ⟨e1, e2⟩ | ⟨e1, q1⟩
    · rcases ow k b h2 with ⟨e3, e4⟩ | ⟨e3, q2⟩
      · rw [e1, e3]
      · rw [e2] at q2
        exact absurd q2 (no k)
    · rcases ow k b h2 with ⟨e3, e4⟩ | ⟨e3, q2⟩
      · rw [e4] at q1
        exact absurd q1 (no j)
      · exact I.dist j k b q1 q2
  · rcases ow j b h with ⟨_, e⟩ | ⟨_, q⟩
    · exact .inr (e ▸ I.dom p hp)
    · exact I.new j b q
  · rcases ow j b h with ⟨_, e⟩ | ⟨_, q⟩
    · rw [e]
      cases ek : B.kp p with
      | none => rfl
      | some o =>
        have := I.kept p o ek
        rw [hp] at this; cases this
    · exact I.kpo j b q
  · rcases ow j b h with ⟨_, e⟩ | ⟨_, q⟩
    · exact fun w => nO (.inl (e ▸ w))
    · exact I.own0 j b q
  · obtain ⟨h1, h2, h3⟩ := I.par q hq
    exact ⟨wo _ _ (fun z => hi (z ▸ h3)) h1, h2, h3⟩
end
theorem SR.setDk {np : List Nat} {B : Bs} {σ : Sg} {H : Hp} {env : En} (I : SR K np B σ H env) {i : Nat} {p : Addr} {vs : List (Key × V)} {kvs : List (Key × D)} (hi : i ∉ np) (hp : H p = none) (r : DkR K (B.O σ env) H vs kvs) :
    SR K np B (σ.set i (some (.ref p))) (upd H p (.dK vs)) (env.set i (some (.dk kvs))) ∧ Mv (B.O σ env) (B.O (σ.set i (some (.ref p))) (env.set i (some (.dk kvs)))) H (upd H p (.dK vs)) :=
  I.setNew hi hp rfl fun O2 H2 m o2 h2 => SlotR.of_dkR o2 h2 (r.mv m)
theorem SR.setDb {np : List Nat} {B : Bs} {σ : Sg} {H : Hp} {env : En} (I : SR K np B σ H env) {i : Nat} {p : Addr} (hi : i ∉ np) (hp : H p = none) :
    SR K np B (σ.set i (some (.ref p))) (upd H p (BD p [])) (env.set i (some (.db []))) ∧ Mv (B.O σ env) (B.O (σ.set i (some (.ref p))) (env.set i (some (.db [])))) H (upd H p (BD p [])) :=
  I.setNew hi hp rfl fun O2 H2 m o2 h2 => ⟨p, [], rfl, o2, h2, rfl, .nil⟩
theorem u1 {k : Nat} {A : Around} (r : Room k A) : A.units + 1 < cLine := by have := r.un; omega
section
variable {X : Cx} {z : Z} {e : Expr} {pos : Pos} {i j : Nat} {o : Expr} {fr : Bool}
/-- k in d -/
def fDIn (i : Nat) (f : EF) : EF := fun env => (f env).bind fun q => match q.2[i]? with
  | some (some (.dk kvs)) => (ofO (keyOf q.1)).bind fun k => .ok (.bool (valD kvs k).isSome, q.2)
  | _ => .stuck
theorem e_din {fe : Bool} {f : EF} {B : Bs} {env : En} {σ : Sg} {H : Hp} {Q : VK} (hp : (fDIn i f env).post (EP1 X.K z true B σ H env Q) (XP X.K z B σ H env)) (I : SR X.K z.np B σ H env) : tDIn (tE X.K z fe f) (tVar i) σ H Q := by
  unfold fDIn at hp
  refine ⟨B, env, I, (R.post_bind hp).imp (fun q hq u H2 I2 m2 a2 _ => ?_) fun _ _ q => q⟩
  split at hq
  · rename_i kvs e1
    obtain ⟨k, ek, hw⟩ := ofO_post (R.post_bind hq)
    obtain ⟨v1, hv1, q1⟩ := I2.slot i _ e1
    obtain ⟨a, vs, rfl, hO, hH, r⟩ := q1.dkR
    have eu : u = kV k := keyOf_at a2 ek
    refine ⟨_, hv1, a, valV vs k, rfl, by rw [eu]; exact DGet.k hH, ?_⟩
    have es : (valV vs k).isSome = (valD kvs k).isSome := by
      rcases r.val k with ⟨h1, h2⟩ | ⟨d, v, h1, h2, _⟩ <;> rw [h1, h2] <;> rfl
    rw [es]
    exact hw (.bl (valD kvs k).isSome) H2 I2 m2 (.bl _) fun _ => .flat fun _ q => nomatch q
  · exact hq.elim
theorem de_din {fe : Bool} {f : EF} (hu : X.A.units + 1 < cLine) (he : DE z X fe e f) (ho : PE X o (tVar i)) (h1 : behindInMarks .In o = false := by rfl) : DE z X true (.Compare e [.In] [o] pos) (fDIn i f) :=
  de_imp (pe_cmp (pc_din hu he ho) h1) fun B env σ H Q I hp => e_din hp I
theorem dt_din {fe : Bool} {f : EF} (hu : X.A.units + 1 < cLine) (he : DE z X fe e f) (ho : PE X o (tVar i)) (h1 : behindInMarks .In o = false := by rfl) : DT z X (.Compare e [.In] [o] pos) (fBool (fDIn i f)) :=
  dt_imp (pt_cmp (pc_din hu he ho) h1) fun B env σ H Q I hp => by
    refine e_din (z := z) (fe := fe) (Q := fun x H1 => ∃ c, x = .bl c ∧ Q c H1) ((R.post_bind hp).imp (fun p hp v H' I' m a _ => ?_) fun _ _ q => q) I
    obtain ⟨d, e'⟩ := p
    cases d with
    | bool b =>
      cases a
      exact ⟨b, rfl, hp H' I' m⟩
    | _ => exact hp.elim
/-- d[k] = v -/
def sDSto (i : Nat) (g f : EF) : SF := fun env => (f env).bind fun p => match p.2[i]? with
  | some (some (.dk _)) => (g p.2).bind fun q => match q.2[i]? with
    | some (some (.dk kvs)) => if kvs.length < sizeLine then (ofO (keyOf q.1)).bind fun k => .ok (.nx (q.2.set i (some (.dk (putD kvs k p.1))))) else .stuck
    | _ => .stuck
  | _ => .stuck
theorem ds_dsto {fe ff : Bool} {g f : EF} {value : Expr} {pos' : Pos} (hu : X.A.units + 1 < cLine) (ho : PE X o (tVar i)) (he : DE z X fe e g) (hv : DE z X ff value f) (hs : swapsWith value (some (.Subscript o e pos')) pos.line X.env = pure false := by rfl) :
    DS z X fr (.Assign [.Subscript o e pos'] value pos) (sDSto i g f) :=
  ds_imp (ps_dput hu ho he hv hs) fun B env σ H Dd I p => by
    unfold sDSto at p
    refine ⟨B, env, I, (R.post_bind p).imp (fun p hp v H1 I1 m1 a1 _ => ?_) fun _ _ q => q.xp⟩
    split at hp
    · rename_i kvs0 e0
      obtain ⟨v0, hv0, q0⟩ := I1.slot i _ e0
      refine ⟨v0, hv0, B, p.2, I1, (R.post_bind hp).imp (fun q hq u H2 I2 m2 a2 _ => ?_) fun _ _ q => (XS.step m1 q).xp⟩
      split at hq
      · rename_i kvs e1
        split at hq
        · rename_i hlen
          obtain ⟨k, ek, hw⟩ := ofO_post (R.post_bind hq)
          obtain ⟨v1, hv1, q1⟩ := I2.slot i _ e1
          rw [hv0] at hv1
          cases hv1
          obtain ⟨a, vs, rfl, hO, hH, r⟩ := q1.dkR
          have eu : u = kV k := keyOf_at a2 ek
          have rp : DkR X.K (B.O σ q.2) H2 (putK vs k v) (putD kvs k p.1) := r.put k (At.mv m2 a1)
          have mw : Mv (B.O σ q.2) (B.O σ q.2) H2 (upd H2 a (.dK (putK vs k v))) := ⟨fun b u e n => by rw [upd_ne fun z => n (by rw [z]; exact hO)]; exact e, fun _ h => .inl h, fun b e => by
            by_cases z : b = a
            · rw [z, upd_same] at e; cases e
            · rw [upd_ne z] at e; exact e⟩
          obtain ⟨I3, m3⟩ := I2.write (s' := .dk (putD kvs k p.1)) e1 rfl rfl hv0 (SlotR.of_dkR hO upd_same (rp.mv mw))
          refine ⟨a, _, rfl, by rw [eu]; exact DPut.k hH (by rw [r.length]; exact hlen), ?_⟩
          exact hw σ _ I3 ((m1.trans m2).trans m3)
        · exact hq.elim
      · exact hq.elim
    · exact hp.elim
/-- x = {name: constant} -/
def sSetDk (j i : Nat) (c : D) : SF := fun env => match env[i]? with
  | some (some (.im d)) => (ofO (keyOf d)).bind fun k => .ok (.nx (env.set j (some (.dk [(k, c)]))))
  | _ => .stuck
theorem ds_setDk {x : Str} {e1 e2 : Expr} {v : V} {c : D} {pos' dpos : Pos} (hN : X.N.Nodup) (hn : X.N[j]? = some x) (hx : Loc X.env.scope x) (h1 : PE X e1 (tVar i)) (h2 : PE X e2 (L2.tC v)) (hc : ∀ O H, At X.K O H v c) (hj : j ∉ z.np)
    (hs : swapsWith (.Dict [some e1] [e2] dpos) (some (.Name x pos')) pos.line X.env = pure false := by rfl) (hf : X.fn x = true ∨ X.env.scope.names.lookup x = some .local := by first | exact .inl rfl | exact .inr rfl | assumption) :
    DS z X fr (.Assign [.Name x pos'] (.Dict [some e1] [e2] dpos) pos) (sSetDk j i c) :=
  ds_imp (ps_set hN hn hx (pe_disp (pps_cons h1 h2 pps_nil) rfl rfl (by simp) (by simp)) hs hf) fun B env σ H Dd I p => by
    unfold sSetDk at p
    split at p
    · rename_i d e0
      obtain ⟨k, ek, hw⟩ := ofO_post (R.post_bind p)
      obtain ⟨u, hu, a⟩ := I.im e0
      intro q hq
      refine ⟨u, hu, upd_same, [(k, v)], by rw [keyOf_at a ek]; rfl, by simp, ?_⟩
      rw [upd_upd]
      obtain ⟨I3, m3⟩ := I.setDk (i := j) (p := q) (vs := [(k, v)]) (kvs := [(k, c)]) hj hq (.cons (hc _ _) .nil)
      exact hw _ _ I3 m3
    · exact p.elim
end
end DL
/-! xs.insert(k, x) on an own list -/
namespace DL
open PySem PySem.Spec PyProof.Rows L2
variable {K : PySem.W.Frag}
def insD (ds : List D) (k : Nat) (d : D) : List D := ds.take k ++ [d] ++ ds.drop k
def sIns (i : Nat) (g f : EF) : SF := fun env => match env[i]? with
  | some (some (.ow _)) => (g env).bind fun q => (f q.2).bind fun p => match p.2[i]?, q.1 with
    | some (some (.ow ds)), .int k => if ds.length < sizeLine ∧ 0 ≤ k ∧ k < 2 ^ 63 then .ok (.nx (p.2.set i (some (.ow (insD ds k.toNat p.1))))) else .stuck
    | _, _ => .stuck
  | _ => .stuck
section
variable {X : Cx} {z : Z} {fr : Bool}
theorem ds_ins {i : Nat} {o b a : Expr} {g f : EF} {fb fe : Bool} {apos cpos pos : Pos} (ho : PE X o (tVar i)) (hb : DE z X fb b g) (ha : DE z X fe a f) (hbase : attributeBase o "insert" X.env (eval o X.env) = eval o X.env := by rfl)
    (hfew : ((backTo cpos (starEach [b, a] X.env)).all (fun x => !x.1) && (backToKw cpos (keywordEach [] X.env)).all (fun x => x.1.isSome) && decide ([b, a].length + ([] : List Keyword).length + (if ([] : List Keyword).isEmpty then 0 else 1) < 30)) = true := by rfl)
    (hline : (apos.endLine == cpos.line) = true := by rfl) (hs : starEach [b, a] X.env = (false, eval b X.env) :: starEach [a] X.env := by rfl) (hs2 : starEach [a] X.env = (false, eval a X.env) :: starEach [] X.env := by rfl) (hplain : (backTo cpos (starEach [a] X.env)).any (·.1) = false := by rfl)
    (hsw : swapsWith (.Call (.Attribute o "insert" apos) [b, a] [] cpos) none pos.line X.env = pure false := by rfl) : DS z X fr (.Expr (.Call (.Attribute o "insert" apos) [b, a] [] cpos) pos) (sIns i g f) := by
  refine ds_imp (ps_expr (pe_bm PySem.F.plainAttrs_list PySem.F.slot_list_insert PySem.F.type_list_insert mt_insert ho (pa_cons hb (pa_cons ha pa_nil hs2) hs) hbase hfew hline hs hplain) hsw) fun B env σ H Dd I p => ?_
  unfold sIns at p
  split at p
  · rename_i ds0 he
    obtain ⟨a0, xs0, e1, _, hH0, _⟩ := I.ow he
    refine ⟨_, e1, .inl ⟨rfl, _, SqL.of hH0⟩, B, env, I, (R.post_bind p).imp (fun q hq w H1 I1 m1 b1 _ => ?_) fun _ _ q => q.xp⟩
    refine ⟨B, q.2, I1, (R.post_bind hq).imp (fun p hp v H2 I2 m2 a1 _ => ?_) fun _ _ q => (XS.step m1 q).xp⟩
    split at hp
    · rename_i ds k he1 hk
      split at hp
      · rename_i hl
        obtain ⟨a, xs, e2, hO, hH, r⟩ := I2.ow he1
        rw [e1] at e2
        cases e2
        have bw := At.mv m2 b1
        rw [hk] at bw
        cases bw
        have m3 : Mv (B.O σ p.2) (B.O σ p.2) H2 (upd H2 a0 (.lst (xs.take k.toNat ++ [v] ++ xs.drop k.toNat))) := ⟨fun b u e n => by
          rw [upd_ne (show b ≠ a0 from fun q => n (q ▸ hO))]; exact e, fun _ w => .inl w, fun b e => by
          by_cases q : b = a0
          · rw [q, upd_same] at e; cases e
          · rw [upd_ne q] at e; exact e⟩
        have r2 := AtAll.mv m3 r
        obtain ⟨I', m'⟩ := I2.write (i := i) (a := a0) (s := .ow ds) (s' := .ow (insD ds k.toNat p.1)) (o := .lst (xs.take k.toNat ++ [v] ++ xs.drop k.toNat)) he1 rfl rfl e1 ⟨a0, _, rfl, hO, upd_same, ((r2.take k.toNat).append (.cons (At.mv m3 a1) .nil)).append (r2.drop k.toNat)⟩
        exact ⟨a0, xs, k, v, rfl, rfl, hH, by rw [r.length]; exact hl.1, hl.2.1, hl.2.2, hp σ _ I' ((m1.trans m2).trans m')⟩
      · exact hp.elim
    · exact hp.elim
  · exact p.elim
end
end DL
/-! a dict of truth values: made empty, written, all its values listed -/
namespace DL
open PySem PySem.Spec PyProof.Rows L2
variable {K : PySem.W.Frag}
theorem BD_mut (a : Addr) (vs : List (Bool × V)) : Mut (some (BD a vs)) := True.intro
theorem pairs_kind {P P' : Program} {w w' : World} {es : List DictEntry} {us : List (Bool × Value)} (q : Pairs (PpSet.boolK P w) es us) : Pairs (PpSet.boolK P' w') es us := by
  induction q with
  | nil => exact .nil
  | cons h1 h2 _ ih => exact .cons h1 h2 ih
theorem bd_kind {P P' : Program} {w w' : World} {h : Heap} {a : Addr} {us : List (Bool × Value)} (q : h.DictOf (PpSet.boolK P w) a us) : h.DictOf (PpSet.boolK P' w') a us := by
  obtain ⟨o, es, ep, ho, hx, hd, hk, hp, hn⟩ := q
  exact ⟨o, es, ep, ho, hx, hd, hk, pairs_kind hp, hn⟩
theorem bdk_at {h h' : Heap} {a : Addr} {vs : List (Bool × V)} (q : BDk h a vs) (k : ∀ o, h.get? a = some o → h'.get? a = some o) : BDk h' a vs := by
  obtain ⟨z, hd, P, w, us, kv, o, es, ep, ho, r⟩ := q
  exact ⟨z, hd, P, w, us, kv, o, es, ep, k o ho, r⟩
theorem bd_ok {P : Program} {w : World} {H : Hp} {h : Heap} {a : Addr} {vs : List (Bool × V)} (q : BDk h a vs) : ObjOk P w H h a (BD a vs) := by
  obtain ⟨z, hd, P', w', us, kv, o, es, ep, ho, r⟩ := id q
  exact ⟨q, ⟨o, ho⟩, fun h1 h2 y k => bdk_at y k⟩
theorem bd_get {P : Program} {w : World} {H : Hp} {h : Heap} {a : Addr} {vs : List (Bool × V)} (x : ObjOk P w H h a (BD a vs)) : BDk h a vs := by
  have y : ObjOk P w H h a (HO.ext fun h => BDk h a vs) := x
  exact y.1
theorem relB {b : Bool} {u : Value} (r : RelV (.bl b) u) (P : Program) (w : World) : (PpSet.boolK P w).is b u = true := by
  have e : u = Value.bool b := r
  rw [e]
  exact PpSet.boolK_is P w b
section
variable {X : Cx} {pins : List (Addr × Obj)} {σ : L2.St} {H : Hp} {s : Shared} {a : Addr} {vs : List (Bool × V)} {k : Bool} {v : V} {u r : Value} {A : Around} {E : Value → Shared → Prop}
/-- the value of a key that is there; the dict may be locked -/
theorem bd_read {Q : Value → Shared → Prop} (I : Inv X pins σ H s) (e : Rd H a (BD a vs)) (l : valV vs k = some v) (h : ∀ x s', Inv X pins σ H s' → RelV v x → Q x s') :
    wpAny (model X.prog X.w) A (getItem (.ref a) (.bool k)) Q E s := by
  have ok : ObjOk X.prog X.w H s.heap a (BD a vs) := by
    rcases e with e | ⟨o, e⟩
    · exact I.hok a _ e
    · exact (I.hok a _ e).2
  obtain ⟨z, hd, P, w, us, kv, dd⟩ := bd_get ok
  have dd : s.heap.DictOf (PpSet.boolK X.prog X.w) a us := bd_kind dd
  obtain ⟨x, hx, rx⟩ := RelO.some_of (v := v) (o := valueAt us k) (by rw [← l]; exact kv.val k)
  exact wpAny_getItem_of (PpSet.boolK_is _ _ k) dd.mapOf hx (h x _ (I.tok _) rx)
/-- a key is given a value -/
theorem bd_write {Q : Unit → Shared → Prop} (I : Inv X pins σ H s) (e : H a = some (BD a vs)) (hl : vs.length < sizeLine) (rv : RelV v r) (h : ∀ s', Inv X pins σ (upd H a (BD a (putK vs k v))) s' → Q () s') :
    wpAny (model X.prog X.w) A (setItem (.ref a) (.bool k) r) Q E s := by
  obtain ⟨z, hd, P, w, us, kv, dd⟩ := bd_get (I.hok a _ e)
  have dd : s.heap.DictOf (PpSet.boolK X.prog X.w) a us := bd_kind dd
  have zu : us.length ≤ sizeLine := by rw [← kv.length]; exact z
  refine wpAny_setItem_pairs (hsz := zu) (PpSet.boolK_is _ _ k) dd fun h' dd' same => h _ ?_
  have there : ∃ q, h'.get? a = some q := by
    obtain ⟨q, _, _, hq, _⟩ := dd'
    exact ⟨q, hq⟩
  have long : (putK vs k v).length ≤ sizeLine := by
    have := length_putK vs k v
    omega
  exact d_write I (by rw [e]; exact BD_mut a vs) same there (bd_ok ⟨long, hd, X.prog, X.w, _, kv.put k rv, dd'⟩)
end
/-- x = {} : a dict for truth values -/
def tBNew : TE := fun _ H Q => ∀ p, H p = none → Q (.ref p) (upd H p (BD p []))
theorem pe_bnew {X : Cx} {pos : Pos} : PE X (.Dict [] [] pos) tBNew := by
  constructor
  intro pins s σ H Q I q
  have big : (s.heap.objs.size == sysModules) = false := beq_eq_false_iff_ne.mpr (Ne.symm (Nat.ne_of_lt I.big))
  have new : BDk (s.heap.push { cls := .type "dict", data := .dict #[] }) s.heap.objs.size [] := ⟨Nat.zero_le _, big, X.prog, X.w, [], .nil, Heap.DictOf.new s.heap⟩
  have I1 := I.laid (a := s.heap.objs.size) (o := BD s.heap.objs.size []) (t' := s.toks) (fun _ _ q => Heap.get?_push_of_some _ q) (Nat.le_refl _) (bd_ok new)
  exact wpAny_Dict_empty ⟨.ref s.heap.objs.size, _, I1, rfl, q _ (I.hok.fresh (Nat.le_refl _))⟩
/-- d[k] = v -/
def sBPut (td ty tv : TE) : TS := fun D σ H => tv σ H fun v H1 => td σ H1 fun x H2 => ty σ H2 fun y H3 => ∃ (a : Addr) (vs : List (Bool × V)) (k : Bool), x = .ref a ∧ y = .bl k ∧ H3 a = some (BD a vs) ∧ vs.length < sizeLine ∧ D.nx σ (upd H3 a (BD a (putK vs k v)))
theorem ps_bput {X : Cx} {o i value : Expr} {pos pos' : Pos} {td ty tv : TE} (ho : PE X o td) (hi : PE X i ty) (hv : PE X value tv) (hs : swapsWith value (some (.Subscript o i pos')) pos.line X.env = pure false) :
    PS X (.Assign [.Subscript o i pos'] value pos) (sBPut td ty tv) := by
  constructor
  intro pins s σ H D I h
  refine wpAny_Assign_Subscript (thn (hv.run pins s σ H _ I h) fun r s1 ⟨v, H1, I1, rv, q1⟩ => thn (ho.run pins s1 σ H1 _ I1 q1) fun u s2 ⟨x, H2, I2, rx, q2⟩ => ?_) hs
  refine thn (hi.run pins s2 σ H2 _ I2 q2) fun iv s3 hh => ?_
  obtain ⟨y, H3, I3, ry, a, vs, k, rfl, rfl, e, hl, q3⟩ := hh
  obtain rfl : u = Value.ref a := rx
  obtain rfl : iv = Value.bool k := ry
  exact bd_write I3 e hl rv fun s4 I4 => ⟨σ, _, I4, q3⟩
/-- d[k] within the walk -/
def tBGet (td ty : TE) : TE := fun σ H Q => td σ H fun x H1 => ty σ H1 fun y H2 => ∃ (a : Addr) (vs : List (Bool × V)) (k : Bool) (v : V), x = .ref a ∧ y = .bl k ∧ Rd H2 a (BD a vs) ∧ valV vs k = some v ∧ Q v H2
theorem bd_type {X : Cx} {pins : List (Addr × Obj)} {σ : L2.St} {H : Hp} {s : Shared} {a : Addr} {vs : List (Bool × V)} (I : Inv X pins σ H s) (e : Rd H a (BD a vs)) : s.TypeIs (.ref a) "dict" := by
  have ok : ObjOk X.prog X.w H s.heap a (BD a vs) := by
    rcases e with e | ⟨o, e⟩
    · exact I.hok a _ e
    · exact (I.hok a _ e).2
  obtain ⟨z, hd, P, w, us, kv, dd⟩ := bd_get ok
  exact dd.typeIs
theorem pe_bget {X : Cx} {o i : Expr} {pos : Pos} {td ty : TE} (ho : PE X o td) (hi : PE X i ty) (hs : NoSl i) : PE X (.Subscript o i pos) (tBGet td ty) := by
  constructor
  intro pins s σ H Q I h
  refine subD_of PySem.F.slot_dict_getitem.lookup hs (thn (ho.run pins s σ H _ I h) fun u s1 ⟨x, H1, I1, rx, q1⟩ => ?_)
  refine thn (hi.run pins s1 σ H1 _ I1 q1) fun iv s2 hh => ?_
  obtain ⟨y, H2, I2, ry, a, vs, k, v, rfl, rfl, e, l, q2⟩ := hh
  obtain rfl : u = Value.ref a := rx
  obtain rfl : iv = Value.bool k := ry
  exact ⟨bd_type I2 e, bd_read I2 e l fun w' s3 I3 rw' => ⟨v, H2, I3, rw', q2⟩⟩
/-- the keys of the locked dict, one by one -/
def ItB (d : Addr) (o : Obj) (vs : List (Bool × V)) : It where
  go := fun i H => H d = some (.frz o (BD d vs)) ∧ i < vs.length
  yld := fun i H x H' => H' = H ∧ ∃ k v, vs[i]? = some (k, v) ∧ x = .bl k
  stop := fun i H => H d = some (.frz o (BD d vs)) ∧ vs.length ≤ i
theorem frzB {X : Cx} {pins : List (Addr × Obj)} {σ : L2.St} {H : Hp} {s : Shared} {d : Addr} {o : Obj} {vs : List (Bool × V)} (I : Inv X pins σ H s) (h : H d = some (.frz o (BD d vs))) :
    (d == sysModules) = false ∧ s.heap.get? d = some o ∧ o.ExactDict ∧ ∃ (es : Array DictEntry) (ep : Nat) (us : List (Bool × Value)), o.data = .dict es ep ∧ es.size = vs.length ∧ KV vs us ∧ s.heap.DictAt (PpSet.boolK X.prog X.w) d us ep := by
  obtain ⟨hd, ok⟩ := I.hok d _ h
  obtain ⟨z, hs, P, w, us, kv, o', es, ep, ho, hx, hdt, r⟩ := bd_get ok
  rw [hd] at ho
  cases ho
  have l1 := r.2.1.length
  have l2 : vs.length = us.length := kv.length
  rw [Array.length_toList] at l1
  exact ⟨hs, hd, hx, es, ep, us, hdt, by omega, kv, o, es, hd, hx, hdt, r.1, pairs_kind r.2.1, r.2.2⟩
theorem isB_rel {P : Program} {w : World} {k : Bool} {u : Value} (h : (PpSet.boolK P w).is k u = true) : RelV (.bl k) u := PpSet.isB_shape h
section
variable {P : Program} {w : World} {tg : Expr} {d : Addr} {o : Obj} {es : Array DictEntry} {ep : Nat} {vs : List (Bool × V)}
theorem turn_bkeys (it : Addr) (hod : o.data = .dict es ep) : Turn P w K tg (ItB d o vs) [it] it (fun i h => h.IsKeyIter it d i vs.length ep) := by
  constructor
  case mem => exact List.mem_cons_self ..
  case obj =>
    intro i h st b hb
    obtain rfl : b = it := by simpa using hb
    obtain ⟨oi, e, c, dd⟩ := st
    exact ⟨oi, e, fun v z => by rw [dd] at z; cases z⟩
  case keep => exact fun i h h' st k => st.at fun oi e => k it (List.mem_cons_self ..) oi e
  case item =>
    intro X hP hw hK hc i pins s σ H E I hf st hg
    subst hP hw hK
    obtain ⟨hd, hi⟩ := hg
    obtain ⟨f0, f1, f2, f3, f4, f5⟩ := hf it (List.mem_cons_self ..)
    obtain ⟨hs, hgd, hx, es', ep', us, hdt, hsz, kv, hm⟩ := frzB I hd
    obtain ⟨rfl, rfl⟩ := dict_ep hod hdt
    have hkv : vs[i]? = some (vs[i].1, vs[i].2) := List.getElem?_eq_getElem hi
    obtain ⟨u, hu, ru⟩ := kv_get kv hkv
    have hl : vs.length = us.length := kv.length
    rw [hl] at st
    refine wpAny_pyNext_dict_item st hm hu fun key h' hkey st' sb => ?_
    have I1 : Inv X pins σ H { s with heap := h' } := I.turned (t' := s.toks) (fun b ob hb e => (sb.2 b hb).trans e) f0 f1 f3 f4 f5
    obtain ⟨oi, e, c, dd⟩ := id st'
    refine ⟨key, rfl, go_of (s := { s with heap := h' }) e c dd (by decide) ⟨.bl vs[i].1, H, I1, isB_rel hkey, ⟨rfl, _, _, hkv, rfl⟩, ?_, fun b hb => (hf b hb).1⟩⟩
    show h'.IsKeyIter it d (i + 1) vs.length _
    rw [hl]
    exact st'
  case done =>
    intro X hP hw hK hc i pins s σ H E I hf st hg
    subst hP hw hK
    obtain ⟨hd, hi⟩ := hg
    obtain ⟨f0, f1, f2, f3, f4, f5⟩ := hf it (List.mem_cons_self ..)
    obtain ⟨hs, hgd, hx, es', ep', us, hdt, hsz, kv, hm⟩ := frzB I hd
    obtain ⟨rfl, rfl⟩ := dict_ep hod hdt
    exact next_key_end (I.ok.hd hc) st hgd hdt hsz hi fun h' eb => ⟨rfl, I.turned (t' := s.toks) (fun b ob hb e => eb b ob hb e) f0 f1 f3 f4 f5⟩
  case self => exact fun A i s Q E st h => wpAny_pyIter_keyiter st h
end
def iBKeys (td : TE) : TI := fun σ H R => td σ H fun x H1 => ∃ d o vs, x = .ref d ∧ H1 d = some (.frz o (BD d vs)) ∧ R (ItB d o vs) H1
theorem pi_bkeys {X : Cx} {tg e : Expr} {td : TE} (he : PE X e td) : PI X tg e (iBKeys td) := by
  constructor
  intro pins s σ H R I h
  refine thn (he.run pins s σ H _ I h) fun u s1 hh => ?_
  obtain ⟨x, H1, I1, rx, d, o, vs, rfl, hd, q⟩ := hh
  obtain rfl : u = Value.ref d := rx
  obtain ⟨hs, hgd, hx, es, ep, us, hdt, hsz, kv, hm⟩ := frzB I1 hd
  refine iter_keys hs hgd hx hdt (pi_one (tk := s1.toks) I1 _ (turn_bkeys _ hdt) ⟨_, Heap.get?_push_size _ rfl, rfl, ?_⟩ q)
  rw [hsz] <;> rfl
end DL
/-! own dicts of truth values, as data -/
namespace DL
open PySem PySem.Spec PyProof.Rows L2
variable {K : PySem.W.Frag}
def putB (kvs : List (Bool × D)) (k : Bool) (v : D) : List (Bool × D) :=
  if (kvs.any fun kv => decide (kv.1 = k)) = true then kvs.map (fun kv => if kv.1 = k then (kv.1, v) else kv) else kvs ++ [(k, v)]
inductive DbR (K : PySem.W.Frag) (O : Addr → Prop) (H : Hp) : List (Bool × V) → List (Bool × D) → Prop
  | nil : DbR K O H [] []
  | cons {k : Bool} {v : V} {d : D} {vs : List (Bool × V)} {kvs : List (Bool × D)} : At K O H v d → DbR K O H vs kvs → DbR K O H ((k, v) :: vs) ((k, d) :: kvs)
section
variable {O O' : Addr → Prop} {H H' : Hp}
theorem DbR.of : ∀ {vs : List (Bool × V)} {kvs : List (Bool × D)}, vs.map Prod.fst = kvs.map Prod.fst → AtAll K O H (vs.map Prod.snd) (kvs.map Prod.snd) → DbR K O H vs kvs
  | [], [], _, _ => .nil
  | [], _ :: _, e, _ => by simp at e
  | _ :: _, [], e, _ => by simp at e
  | (k, v) :: vs, (k', d) :: kvs, e, r => by
    simp only [List.map_cons, List.cons.injEq] at e r
    obtain ⟨rfl, e⟩ := e
    cases r with
    | cons a r => exact .cons a (DbR.of e r)
theorem DbR.fst : ∀ {vs : List (Bool × V)} {kvs : List (Bool × D)}, DbR K O H vs kvs → vs.map Prod.fst = kvs.map Prod.fst
  | _, _, .nil => rfl
  | _, _, .cons a r => by simp only [List.map_cons, r.fst]
theorem DbR.snd : ∀ {vs : List (Bool × V)} {kvs : List (Bool × D)}, DbR K O H vs kvs → AtAll K O H (vs.map Prod.snd) (kvs.map Prod.snd)
  | _, _, .nil => .nil
  | _, _, .cons a r => .cons a r.snd
theorem DbR.length : ∀ {vs : List (Bool × V)} {kvs : List (Bool × D)}, DbR K O H vs kvs → vs.length = kvs.length
  | _, _, .nil => rfl
  | _, _, .cons a r => by simp only [List.length_cons, r.length]
theorem DbR.mv (m : Mv O O' H H') : ∀ {vs : List (Bool × V)} {kvs : List (Bool × D)}, DbR K O H vs kvs → DbR K O' H' vs kvs
  | _, _, .nil => .nil
  | _, _, .cons a r => .cons (a.mv m) (r.mv m)
theorem DbR.any (p : Bool → Bool) : ∀ {vs : List (Bool × V)} {kvs : List (Bool × D)}, DbR K O H vs kvs → (vs.any fun kv => p kv.1) = kvs.any fun kv => p kv.1
  | _, _, .nil => rfl
  | _, _, .cons a r => by simp only [List.any_cons, r.any p]
theorem DbR.put {v : V} {d : D} (k : Bool) (a : At K O H v d) {vs : List (Bool × V)} {kvs : List (Bool × D)} (r : DbR K O H vs kvs) : DbR K O H (putK vs k v) (putB kvs k d) := by
  unfold putK putB
  rw [r.any fun j => decide (j = k)]
  split
  · rename_i h
    clear h
    induction r with
    | nil => exact .nil
    | cons b r ih =>
      simp only [List.map_cons]
      split
      · exact .cons a ih
      · exact .cons b ih
  · rename_i h
    clear h
    induction r with
    | nil => exact .cons a .nil
    | cons b r ih => exact .cons b ih
end
theorem SlotR.dbR {O : Addr → Prop} {H : Hp} {v : V} {kvs : List (Bool × D)} (h : SlotR K O H v (.db kvs)) : ∃ a vs, v = .ref a ∧ O a ∧ H a = some (BD a vs) ∧ DbR K O H vs kvs := by
  obtain ⟨a, vs, e, o, h, f, r⟩ := h
  exact ⟨a, vs, e, o, h, .of f r⟩
theorem SlotR.of_dbR {O : Addr → Prop} {H : Hp} {a : Addr} {vs : List (Bool × V)} {kvs : List (Bool × D)} (o : O a) (h : H a = some (BD a vs)) (r : DbR K O H vs kvs) : SlotR K O H (.ref a) (.db kvs) := ⟨a, vs, rfl, o, h, r.fst, r.snd⟩
section
variable {X : Cx} {z : Z} {e : Expr} {pos : Pos} {i j : Nat} {o : Expr} {fr : Bool}
/-- x = {} -/
def sSetDb (j : Nat) : SF := fun env => .ok (.nx (env.set j (some (.db []))))
theorem ds_setDb {x : Str} {pos' dpos : Pos} (hN : X.N.Nodup) (hn : X.N[j]? = some x) (hx : Loc X.env.scope x) (hj : j ∉ z.np)
    (hs : swapsWith (.Dict [] [] dpos) (some (.Name x pos')) pos.line X.env = pure false := by rfl) (hf : X.fn x = true ∨ X.env.scope.names.lookup x = some .local := by first | exact .inl rfl | exact .inr rfl | assumption) :
    DS z X fr (.Assign [.Name x pos'] (.Dict [] [] dpos) pos) (sSetDb j) :=
  ds_imp (ps_set hN hn hx pe_bnew hs hf) fun B env σ H Dd I p => by
    unfold sSetDb at p
    intro q hq
    obtain ⟨I3, m3⟩ := I.setDb (i := j) (p := q) hj hq
    exact p _ _ I3 m3
/-- d[k] = v -/
def sDbSto (i : Nat) (g f : EF) : SF := fun env => (f env).bind fun p => match p.2[i]? with
  | some (some (.db _)) => (g p.2).bind fun q => match q.2[i]?, q.1 with
    | some (some (.db kvs)), .bool k => if kvs.length < sizeLine then .ok (.nx (q.2.set i (some (.db (putB kvs k p.1))))) else .stuck
    | _, _ => .stuck
  | _ => .stuck
theorem ds_dbsto {fe ff : Bool} {g f : EF} {value : Expr} {pos' : Pos} (ho : PE X o (tVar i)) (he : DE z X fe e g) (hv : DE z X ff value f) (hs : swapsWith value (some (.Subscript o e pos')) pos.line X.env = pure false := by rfl) :
    DS z X fr (.Assign [.Subscript o e pos'] value pos) (sDbSto i g f) :=
  ds_imp (ps_bput ho he hv hs) fun B env σ H Dd I p => by
    unfold sDbSto at p
    refine ⟨B, env, I, (R.post_bind p).imp (fun p hp v H1 I1 m1 a1 _ => ?_) fun _ _ q => q.xp⟩
    split at hp
    · rename_i kvs0 e0
      obtain ⟨v0, hv0, q0⟩ := I1.slot i _ e0
      refine ⟨v0, hv0, B, p.2, I1, (R.post_bind hp).imp (fun q hq u H2 I2 m2 a2 _ => ?_) fun _ _ q => (XS.step m1 q).xp⟩
      split at hq
      · rename_i kvs k e1 eq
        split at hq
        · rename_i hlen
          obtain ⟨v1, hv1, q1⟩ := I2.slot i _ e1
          rw [hv0] at hv1
          cases hv1
          obtain ⟨a, vs, rfl, hO, hH, r⟩ := q1.dbR
          have eu : u = .bl k := by
            rw [eq] at a2
            cases a2
            rfl
          have rp : DbR X.K (B.O σ q.2) H2 (putK vs k v) (putB kvs k p.1) := r.put k (At.mv m2 a1)
          have mw : Mv (B.O σ q.2) (B.O σ q.2) H2 (upd H2 a (BD a (putK vs k v))) := ⟨fun b u e n => by rw [upd_ne fun z => n (by rw [z]; exact hO)]; exact e, fun _ h => .inl h, fun b e => by
            by_cases z : b = a
            · rw [z, upd_same] at e; cases e
            · rw [upd_ne z] at e; exact e⟩
          obtain ⟨I3, m3⟩ := I2.write (s' := .db (putB kvs k p.1)) e1 rfl rfl hv0 (SlotR.of_dbR hO upd_same (rp.mv mw))
          exact ⟨a, vs, k, rfl, eu, hH, by rw [r.length]; exact hlen, hq σ _ I3 ((m1.trans m2).trans m3)⟩
        · exact hq.elim
      · exact hq.elim
    · exact hp.elim
/-- [d[x] for x in d] -/
def tBVals (i : Nat) : TE := fun σ H Q => ∃ a vs, σ[i]? = some (some (.ref a)) ∧ H a = some (BD a vs) ∧ (vs.map Prod.fst).Nodup ∧ vs.length < sizeLine ∧ ∀ p, H p = none → Q (.ref p) (upd H p (.lst (vs.map Prod.snd)))
theorem valV_at {vs : List (Bool × V)} (nd : (vs.map Prod.fst).Nodup) : ∀ {i : Nat} {k : Bool} {v : V}, vs[i]? = some (k, v) → valV vs k = some v := by
  induction vs with
  | nil => intro i k v h; simp at h
  | cons p r ih =>
    intro i k v h
    rw [List.map_cons, List.nodup_cons] at nd
    cases i with
    | zero =>
      have e : p = (k, v) := by simpa using h
      subst e
      exact valV_pos rfl
    | succ i =>
      have h : r[i]? = some (k, v) := by simpa using h
      rw [valV_neg fun z => nd.1 (List.mem_map.mpr ⟨_, List.mem_of_getElem? h, z.symm⟩)]
      exact ih nd.2 h
theorem pe_bvals {x y : Str} {scope : Scope} {p1 p2 p3 p4 p5 pos : Pos} (hc : X.calm = true) (hN : X.N.Nodup) (ho : PE X (.Name x p1) (tVar i)) (ok : BlkOk X.N X.env.scope scope [(y, j)]) (hij : i ≠ j) (hj : X.N[j]? = some y)
    (hg : ∀ (s : Shared) (H : Hp) (C : Addr) (cl : List (Str × Addr)) (fp : List Addr), PG (X.blk s H scope (compEnvC scope cl C X.env) fp) (.Name y p2) (gName j))
    (he : ∀ (s : Shared) (H : Hp) (C : Addr) (cl : List (Str × Addr)) (fp : List Addr), PE (X.blk s H scope (compEnvC scope cl C X.env) fp) (.Name x p3) (tVar i))
    (hk : ∀ (s : Shared) (H : Hp) (C : Addr) (cl : List (Str × Addr)) (fp : List Addr), PE (X.blk s H scope (compEnvC scope cl C X.env) fp) (.Name y p4) (tVar j)) :
    PE X (.ListComp (.Subscript (.Name x p3) (.Name y p4) p5) [⟨.Name y p2, .Name x p1, [], 0⟩] scope pos) (tBVals i) := by
  have P : PE X (.ListComp (.Subscript (.Name x p3) (.Name y p4) p5) [⟨.Name y p2, .Name x p1, [], 0⟩] scope pos) _ := pe_lock (pe_lc hc hN (pi_bkeys ho) ok hg (fun _ _ _ _ _ => pts_nil) fun s H C cl fp => pe_bget (he s H C cl fp) (hk s H C cl fp) (fun _ _ => rfl))
  refine ⟨fun pins s σ H Q I hh => P.run pins s σ H Q I ?_⟩
  obtain ⟨a, vs, hσ, hH, nd, hl, q⟩ := hh
  have lj : j < σ.length := by
    rw [I.len]
    exact (List.getElem?_eq_some_iff.mp hj).1
  refine ⟨a, BD a vs, hH, BD_mut a vs, fun od => ?_⟩
  refine ⟨.ref a, hσ, a, od, vs, rfl, upd_same, fun p hp => ?_⟩
  have pa : p ≠ a := fun z => by rw [z, upd_same] at hp; cases hp
  have hp0 : H p = none := by rw [upd_ne pa] at hp; exact hp
  let G : Nat → Hp := fun n => upd (upd H a (.frz od (BD a vs))) p (.lst ((vs.map Prod.snd).take n))
  have Ga : ∀ n, G n a = some (.frz od (BD a vs)) := fun n => by
    show upd (upd H a (.frz od (BD a vs))) p (.lst ((vs.map Prod.snd).take n)) a = _
    rw [upd_ne (Ne.symm pa), upd_same]
  refine ⟨fun n m H' => m = vs.length - n ∧ n ≤ vs.length ∧ H' = G n, ⟨_, rfl, Nat.zero_le _, rfl⟩, ?_⟩
  rintro n m H' ⟨rfl, hn, rfl⟩
  by_cases hs : vs.length ≤ n
  · refine .inl ⟨⟨Ga n, hs⟩, Ga n, ?_⟩
    have e : upd (G n) a (BD a vs) = upd H p (.lst (vs.map Prod.snd)) := by
      funext b
      show upd (upd (upd H a (.frz od (BD a vs))) p (.lst ((vs.map Prod.snd).take n))) a (BD a vs) b = _
      rw [List.take_of_length_le (by rw [List.length_map]; exact hs)]
      by_cases b1 : b = a
      · rw [b1, upd_same, upd_ne (Ne.symm pa), hH]
      · rw [upd_ne b1]
        by_cases b2 : b = p
        · rw [b2, upd_same, upd_same]
        · rw [upd_ne b2, upd_ne b1, upd_ne b2]
    rw [e]
    exact q p hp0
  · refine .inr ⟨⟨Ga n, by omega⟩, fun H' => H' = G (n + 1), fun H' e => ⟨vs.length - (n + 1), by omega, rfl, by omega, e⟩, ?_⟩
    rintro x H' ⟨rfl, k, v, hkv, rfl⟩
    refine ⟨(wipe_set (show j ∈ List.map (fun q : Str × Nat => q.2) [(y, j)] from List.mem_cons_self ..)).trans (wipe_wipe σ _), ?_⟩
    show tBGet (tVar i) (tVar j) _ _ _
    have w1 : wipe σ (List.map (·.2) [(y, j)]) = σ.set j none := rfl
    rw [w1]
    have s1 : ((σ.set j none).set j (some (V.bl k)))[i]? = some (some (.ref a)) := by
      rw [List.getElem?_set_ne (Ne.symm hij), List.getElem?_set_ne (Ne.symm hij)]
      exact hσ
    have s2 : ((σ.set j none).set j (some (V.bl k)))[j]? = some (some (.bl k)) := by
      rw [List.getElem?_set_self (by rw [List.length_set]; exact lj)]
    refine ⟨_, s1, _, s2, a, vs, k, v, rfl, rfl, .inr ⟨od, Ga n⟩, valV_at nd hkv, (vs.map Prod.snd).take n, upd_same, ?_, ?_⟩
    · rw [List.length_take, List.length_map]
      omega
    · show upd (upd (upd H a (.frz od (BD a vs))) p _) p _ = upd _ p _
      rw [upd_upd]
      congr 2
      have hn2 : n < (vs.map Prod.snd).length := by rw [List.length_map]; omega
      rw [List.take_succ_eq_append_getElem hn2, List.getElem_map]
      obtain ⟨h1, h2⟩ := List.getElem?_eq_some_iff.mp hkv
      rw [h2]
def fDbVals (i : Nat) : EF := fun env => match env[i]? with
  | some (some (.db kvs)) => if (kvs.map Prod.fst).Nodup ∧ kvs.length < sizeLine then .ok (.list (kvs.map Prod.snd), env) else .stuck
  | _ => .stuck
theorem de_dbvals {x y : Str} {scope : Scope} {p1 p2 p3 p4 p5 pos : Pos} (hc : X.calm = true) (hN : X.N.Nodup) (ho : PE X (.Name x p1) (tVar i)) (ok : BlkOk X.N X.env.scope scope [(y, j)]) (hij : i ≠ j) (hj : X.N[j]? = some y)
    (hg : ∀ (s : Shared) (H : Hp) (C : Addr) (cl : List (Str × Addr)) (fp : List Addr), PG (X.blk s H scope (compEnvC scope cl C X.env) fp) (.Name y p2) (gName j))
    (he : ∀ (s : Shared) (H : Hp) (C : Addr) (cl : List (Str × Addr)) (fp : List Addr), PE (X.blk s H scope (compEnvC scope cl C X.env) fp) (.Name x p3) (tVar i))
    (hk : ∀ (s : Shared) (H : Hp) (C : Addr) (cl : List (Str × Addr)) (fp : List Addr), PE (X.blk s H scope (compEnvC scope cl C X.env) fp) (.Name y p4) (tVar j)) :
    DE z X false (.ListComp (.Subscript (.Name x p3) (.Name y p4) p5) [⟨.Name y p2, .Name x p1, [], 0⟩] scope pos) (fDbVals i) :=
  de_imp (pe_bvals hc hN ho ok hij hj hg he hk) fun B env σ H Q I hp => by
    unfold fDbVals at hp
    split at hp
    · rename_i kvs e0
      split at hp
      · rename_i hd
        obtain ⟨v0, hv, q0⟩ := I.slot i _ e0
        obtain ⟨a, vs, rfl, hO, hH, r⟩ := q0.dbR
        refine ⟨a, vs, hv, hH, by rw [r.fst]; exact hd.1, by rw [r.length]; exact hd.2, fun p hp0 => ?_⟩
        have I1 := I.ex (Ex.new (o := .lst (vs.map Prod.snd)) hp0)
        have m1 : Mv (B.O σ env) (B.O σ env) H (upd H p (.lst (vs.map Prod.snd))) := Mv.ex (Ex.new hp0)
        refine hp (.ref p) _ I1 m1 (.lst ⟨.inl (.inl upd_same), fun w => absurd w (I.nO hp0)⟩ (AtAll.mv m1 r.snd)) fun q => nomatch q
      · exact hp.elim
    · exact hp.elim
end
end DL
/-! a call without arguments; a def that calls itself -/
namespace DL
open PySem PySem.Spec PyProof.Rows L2
variable {K : PySem.W.Frag}
section
variable {X : Cx} {z : Z} {k : Nat} {f : Addr} {fd : FuncData} {ps : List Str} {x : Str} {p pos : Pos}
theorem pe_callG0 {sp : Sp} {E : Sg → XK} (F : FnG X.prog X.w X.K X.mg X.base k f fd ps sp) (hr : Room k X.A) (hgd : X.A.guards = some []) (hg : Gl X x) (hm : X.mg x = some (.ref f)) (hk : PySem.W.keepIn X.K (.ref f) = true) (hb : Binds X.K fd ps [])
    (hx : ∀ σ, PassesAt (L2.CX X.prog X.w) X σ (E σ)) (hdb : (x == ("__debug__" : Str)) = false := by decide) : PE X (.Call (.Name x p) [] [] pos) (tCallG ps.length sp E (tC X.K z cNil)) := by
  constructor
  intro pins s σ H Q I h
  obtain ⟨B, env, J, q⟩ := h
  have q := q [] H J .refl .nil
  refine wpAny_Call_Name_kw (ld_glob I hg hm ?_ hdb)
  exact PySem.W.callWith_K0 I.kIn hk (run_fnG (us := []) F hr hgd hb (hx σ) I .nil q.1 q.2)
theorem de_call0 {np' : List Nat} {fr : Bool} {F : FD} (G : FnG X.prog X.w X.K X.mg X.base k f fd ps (spD X.K z.ca np' fr F)) (hr : Room k X.A) (hgd : X.A.guards = some []) (hg : Gl X x) (hm : X.mg x = some (.ref f)) (hk : PySem.W.keepIn X.K (.ref f) = true) (hb : Binds X.K fd ps [])
    (tk : Takes X z.W) (hdb : (x == ("__debug__" : Str)) = false := by decide) : DE z X fr (.Call (.Name x p) [] [] pos) (fCallF ps.length np' F cNil) := by
  refine de_imp (pe_callG0 (z := z) G hr hgd hg hm hk hb (fun σ => passAt tk σ) hdb) fun B env σ H Q I hp => ?_
  refine ⟨B, env, I, (R.post_bind hp).imp (fun p hp vs H1 I1 m1 pa => ?_) fun _ _ q => q⟩
  obtain ⟨as, e1⟩ := p
  dsimp only at hp I1 m1 pa
  split at hp
  · rename_i es hres
    split at hp
    · rename_i hc
      obtain ⟨hlen, hnd, hnp⟩ := hc
      refine ⟨by rw [pa.length]; exact hlen, es, B.O σ e1, args_ok I1 hres hnd pa hnp, ?_⟩
      cases hF : F es with
      | stuck => rw [hF] at hp; exact hp
      | ok q =>
        obtain ⟨d, es'⟩ := q
        rw [hF] at hp
        intro v H' hcall
        obtain ⟨hk1, hk2, hk3⟩ := hcall
        obtain ⟨I2, m2, eO⟩ := I1.called hres hnd pa hk1
        refine hp v H' I2 (m1.trans m2) (At.mv (Mv.less fun a => (eO a).1) hk2) fun hf ds ed => ?_
        obtain ⟨a, xs, e2, na, nO, ha, hx, hh⟩ := hk3 hf ds ed
        obtain ⟨_, cl, _⟩ := called_slots I1 hres hnd pa (fun b w => w.elim .inl fun w => .inr (w ▸ na)) (fun b w => .inl w) hh
        have less : ∀ b, plus (B.O σ (back as es' e1)) a b → plus (B.O σ e1) a b := fun b w => w.elim (fun w => .inl ((eO b).1 w)) .inr
        refine ⟨a, xs, e2, m1.dom a na, fun w => nO ((eO a).1 w), ha, AtAll.mv (Mv.less less) hx, fun j t ht => ?_⟩
        obtain ⟨u, e3, q⟩ := cl j t ht
        exact ⟨u, e3, q.mv (Mv.less less) (fun b eb ho => .inl (.inr ⟨j, t, ht, ho, eb ▸ e3⟩)) fun _ _ _ _ z => z⟩
      | err x es' =>
        rw [hF] at hp
        intro cls dp H' hk1 hx
        obtain ⟨I2, m2, eO⟩ := I1.called hres hnd pa hk1
        exact hp cls dp H' I2 (m1.trans m2) (hx.mv fun a => (eO a).1)
    · exact hp.elim
  · exact hp.elim
theorem de_callH0 {n j : Nat} {np' : List Nat} {fr : Bool} {F : FD} (h : Has X.prog X.w X.K X.mg X.base z.ca x j ps np' fr F) (hr : Room k X.A) (hj : j ≤ k) (hgd : X.A.guards = some []) (hg : Gl X x) (hn : ps.length = n)
    (tk : Takes X z.W) (hdb : (x == ("__debug__" : Str)) = false := by decide) : DE z X fr (.Call (.Name x p) [] [] pos) (fCallF n np' F cNil) := by
  obtain ⟨f, fd, h1, h2, h3, h4, _⟩ := h
  subst hn
  exact de_call0 (h4.mono hj) hr hgd hg h1 h2 h3 tk hdb
end
section
variable {P : Program} {w : World} {mg : Str → Option Value} {base : Heap} {ca : Str → Addr}
theorem Stands.has0 {x : Str} {st : Stmt} {ps : List Str} (k : Nat) (np : List Nat) (fr : Bool) (S : Stands K mg x st ps) : Has P w K mg base ca x k ps np fr (fun _ => .stuck) := by
  obtain ⟨f, fd, h1, h2, h3⟩ := S
  refine ⟨f, fd, h1, h2.kp, h3, ⟨fun A outer s H args us vs Q E hr hg e0 hb r hl hsp => ?_⟩, lk_of h2⟩
  obtain ⟨es, O, _, q⟩ := hsp
  exact q.elim
end
/-- as deep as n calls of itself -/
def recD (f : FD → FD) : Nat → FD
  | 0 => fun _ => .stuck
  | n + 1 => f (recD f n)
end DL
/-! an error with one field: raised, its field read; a try that returns a constant -/
namespace DL
open PySem PySem.Spec PyProof.Rows L2
variable {K : PySem.W.Frag}
/-- what the written part tells of an error's class with an own __init__ -/
structure InitF (K : PySem.W.Frag) (mg : Str → Option Value) (x f : Str) (st : Stmt) (C : Addr) : Prop where
  g : mg x = some (.ref C)
  T : OexC K C
  no : PySem.W.findIn K (.ref C) f = some none
  ini : ∃ (fI : Addr) (fd : FuncData) (q : Str), PySem.W.findIn K (.ref C) "__init__" = some (some (.ref fI)) ∧ PySem.W.typeIn K (.ref fI) = some (.type "function") ∧ Fun K "__init__" q st fI fd ∧ L2.Binds K fd ["self", f] []
def spI (C : Addr) (f : Str) : Sp := fun vs H Q _ => ∃ (a : Addr) (y : V), vs = [.ref a, y] ∧ H a = some (exo a C none) ∧ ∀ dx, H dx = none → dx ≠ a → Q .non (upd (upd H dx (exd dx [(f, y)])) a (exo a C (some dx)))
section
variable {P : Program} {w : World} {mg : Str → Option Value} {base : Heap}
theorem init_ok {f q : Str} {st : Stmt} {C fI : Addr} {fd : FuncData} {p1 p2 p3 p4 : Pos} (F : Fun K "__init__" q st fI fd) (T : OexC K C) (no : PySem.W.findIn K (.ref C) f = some none) (S : FnScope ["self", f] ["self", f] (defScope st))
    (hb : defBody st = [.Assign [.Attribute (.Name "self" p1) f p2] (.Name f p3) p4]) (hs : Vis (defScope st) "self") (hf : Vis (defScope st) f) (hd : (f == ("__debug__" : Str)) = false := by decide) (hcd : (f == ("__classdict__" : Str)) = false := by decide)
    (hsw : ∀ env, swapsWith (.Name f p3) (some (.Attribute (.Name "self" p1) f p2)) p4.line env = pure false := by intro _; rfl) :
    FnOk P w K mg base CX0 1 fI fd ["self", f] (spI C f) := by
  refine F.ok S (fun vs H Q E h => ?_) fun cdv A outer s H vs Q E hr h => ?_
  · obtain ⟨a, y, rfl, _⟩ := h
    rfl
  · obtain ⟨a, y, rfl, ha, q⟩ := h
    rw [hb]
    refine ⟨_, pss_one (ps_ost (pv 0 rfl hs) (pv 1 rfl hf hd hcd) (hsw _)), ?_⟩
    exact ⟨y, rfl, .ref a, rfl, a, C, rfl, T, no, .inl ⟨ha, fun dx n ne => q dx n ne⟩⟩
end
section
variable {X : Cx} {z : Z} {fr fe : Bool} {k : Nat} {e : Expr} {g : EF} {pos : Pos}
/-- raise c(e), the error has the field f -/
def sRaiseP (c f : Str) (g : EF) : SF := fun env => (g env).bind fun p => .err ⟨c, [(f, p.1)]⟩ p.2
theorem ds_raiseP {c f : Str} {st : Stmt} {C : Addr} {p pos' : Pos} {p1 p2 p3 p4 : Pos} (hc : X.calm = true) (tk : Takes X z.W) (F : InitF X.K X.mg c f st C) (S : FnScope ["self", f] ["self", f] (defScope st))
    (hb : defBody st = [.Assign [.Attribute (.Name "self" p1) f p2] (.Name f p3) p4]) (hs : Vis (defScope st) "self") (hf : Vis (defScope st) f) (hr : Room k X.A) (hk : 2 ≤ k) (hC : z.ca = caOf X.mg) (he : DE z X fe e g) (hg : Gl X c)
    (hd : (f == ("__debug__" : Str)) = false := by decide) (hcd : (f == ("__classdict__" : Str)) = false := by decide) (hsw : ∀ env, swapsWith (.Name f p3) (some (.Attribute (.Name "self" p1) f p2)) p4.line env = pure false := by intro _; rfl)
    (hdb : (c == ("__debug__" : Str)) = false := by decide) (hst : starEach [e] X.env = (false, eval e X.env) :: starEach [] X.env := by rfl) :
    DS z X fr (.Raise (some (.Call (.Name c p) [e] [] pos)) none pos') (sRaiseP c f g) := by
  obtain ⟨gC, T, no, fI, fd, q, iC, tI, Fu, bI⟩ := F
  have Fn := init_ok (P := X.prog) (w := X.w) (mg := X.mg) (base := X.base) Fu T no S hb hs hf hd hcd hsw
  have R1 := pmk_oex (X := X) (p := p) (pos := pos) T iC tI Fn (hr.mono hk) bI (.nil : Vals [] []) pass0 hg gC (pa_cons he pa_nil hst) hdb hst rfl
  refine ds_imp (ps_raise hc tk R1) fun B env σ H Dd I pp => ?_
  unfold sRaiseP at pp
  refine ⟨B, env, I, (R.post_bind pp).imp (fun q hq v H1 I1 m1 a1 _ => ?_) fun _ _ q => q.xp⟩
  refine ⟨by simp, fun a na => ⟨a, v, rfl, upd_same, fun dx hdx da => ?_⟩⟩
  have hd1 : H1 dx = none := by rw [upd_ne da] at hdx; exact hdx
  have h2 : (upd (upd (upd H1 a (exo a C none)) dx (exd dx [(f, v)])) a (exo a C (some dx))) dx = some (exd dx [(f, v)]) := by rw [upd_ne da, upd_same]
  refine ⟨rfl, dx, [(f, v)], upd_same, h2, hd1, ?_⟩
  have e1 : upd (del (upd (upd (upd H1 a (exo a C none)) dx (exd dx [(f, v)])) a (exo a C (some dx))) a) dx (.xd [(f, v)]) = upd H1 dx (.xd [(f, v)]) := by
    funext b
    by_cases hb1 : b = dx
    · rw [hb1, upd_same, upd_same]
    · rw [upd_ne hb1, upd_ne hb1]
      by_cases hb2 : b = a
      · rw [hb2, del_same, na]
      · rw [del_ne hb2, upd_ne hb2, upd_ne hb1, upd_ne hb2]
  rw [e1]
  have I2 := I1.ex (Ex.new (o := .xd [(f, v)]) hd1)
  have m2 : Mv (B.O σ q.2) (B.O σ q.2) H1 (upd H1 dx (.xd [(f, v)])) := Mv.ex (Ex.new hd1)
  have nO : ¬ B.O σ q.2 dx := I1.nO hd1
  have ec : z.ca c = C := by rw [hC]; exact caOf_eq gC
  exact hq (.ref C) (some dx) σ _ I2 (m1.trans m2) ⟨by rw [ec], dx, [(f, v)], rfl, ⟨upd_same, nO⟩, rfl, .cons (At.mv m2 a1) .nil⟩
/-- the field of an error that is kept -/
def tXa (K : PySem.W.Frag) (f : Str) (te : TE) : TE := fun σ H Q => te σ H fun x H1 => ∃ (a C dx : Addr) (fs : List (Str × V)) (v : V), x = .ref a ∧ H1 a = some (ExB (.ref C) (some dx) a) ∧ ExcC K C ∧ PySem.W.findIn K (.ref C) f = some none ∧ H1 dx = some (.xd fs) ∧ fs.lookup f = some v ∧ Q v H1
theorem pe_xa {f : Str} {te : TE} (he : PE X e te) (hb : attributeBase e f X.env (eval e X.env) = eval e X.env := by rfl) : PE X (.Attribute e f pos) (tXa X.K f te) := by
  constructor
  intro pins s σ H Q I h
  refine attr_of hb (thn (he.run pins s σ H _ I h) fun u s1 hh => ?_)
  obtain ⟨x, H1, I1, rx, a, C, dx, fs, v, rfl, ea, T, no, ed, l, q⟩ := hh
  obtain rfl : u = Value.ref a := rx
  obtain ⟨⟨⟨oc, od', ot, osl⟩, ws, h0, ⟨h1, h2⟩, h3⟩, _⟩ := (show ObjOk X.prog X.w H1 s1.heap a (ExB (.ref C) (some dx) a) from I1.hok a _ ea)
  dsimp only at h1 h2 h3
  subst h1 h2 h3
  obtain ⟨mA, hns, hr⟩ := (show ObjOk X.prog X.w H1 s1.heap dx (.xd fs) from I1.hok dx _ ed)
  obtain ⟨o, ho, hl⟩ := lookIn_ns hns
  obtain ⟨u, hu, ru⟩ := RelO.some_of (v := v) (o := mA f) (by rw [← l]; exact hr f)
  have J : PySem.W.InstAt s1.heap a ⟨.ref C, some dx, .fields ws, osl⟩ C (some o) := ⟨h0, rfl, rfl, ho⟩
  exact HandSPX.exc_get I1.kIn J T.hg T.hk T.hs (PySem.W.findObj_own T.hd no rfl (by rw [hl, hu])) (handed_of ru) ⟨v, H1, I1.tok _, ru, q⟩
def attrD (f : Str) : D → Option D
  | .dict [(.str n, .none), (.str g, d)] => if g = f ∧ (f = "bar" ∨ f = "line") ∧ n ∈ exNames then some d else none
  | _ => none
theorem de_attr {f : Str} (F : ExA X.K X.mg) (he : DE z X fe e g) (hb : attributeBase e f X.env (eval e X.env) = eval e X.env := by rfl) : DE z X false (.Attribute e f pos) (fUn (attrD f) g) :=
  de_imp (pe_xa he hb) fun B env σ H Q I hp => by
    refine ⟨B, env, I, (R.post_bind hp).imp (fun p hp v H1 I1 m1 a1 _ => ?_) fun _ _ q => q⟩
    obtain ⟨w, ew, hw⟩ := ofO_post (R.post_bind hp)
    obtain ⟨d, e2⟩ := p
    dsimp only at ew hw a1 I1 m1
    cases a1 with
    | excP n f' h i ad =>
      simp only [attrD] at ew
      split at ew
      · rename_i hc
        cases ew
        obtain ⟨rfl, hf, hn⟩ := hc
        obtain ⟨⟨h1, _⟩, ⟨fs, h2, l⟩, _⟩ := h
        have no := F.f n hn
        refine ⟨_, caK X.K n, _, fs, _, rfl, h1, i.c, ?_, h2, l, hw _ _ I1 m1 ad fun q => nomatch q⟩
        rcases hf with rfl | rfl
        · exact no.1
        · exact no.2
      · cases ew
    | _ => cases ew
/-- try: .. except c: return v -/
def sTryR (c : Str) (v : D) (g : SF) : SF := fun env => match g env with
  | .err x e => if x.cls = c then .ok (.rt v e) else .stuck
  | r => r
theorem ds_tryR {c : Str} {b₀ : Stmt} {body : List Stmt} {v : V} {d : D} {np pos pos' : Pos} {g : SF} (F : ExA X.K X.mg) (hc : c ∈ exNames) (hd : (c == ("__debug__" : Str)) = false) (hC : z.ca = caOf X.mg) (hs : X.stack = X.env :: X.outer) (hf : X.env.frame = some X.env.locals) (tk : Takes X z.W) (hg : Gl X c)
    (hv : ∀ O H, At X.K O H v d) (hl : ∀ ds, d ≠ .list ds)
    (hsu : ∀ (a : Addr) (oe : Obj) (pn : List (Addr × Obj)), PSs (X.suite a ((a, oe) :: pn)) [b₀] (fun D σ H => D.rt v H))
    (hb : ∀ (W : WX) (pn : List (Addr × Obj)) (xe : Value → Shared → Prop), Takes (X.tr pn xe) W → PassesOwn (model X.prog X.w) X.A X.env xe → DSs { z with W := W } (X.tr pn xe) fr body g) (hrt : RtAny z := by exact fun _ _ _ _ _ => trivial) :
    DS z X fr (.Try body [.ExceptHandler (some (.Name c np)) none [b₀] pos'] [] [] pos) (sTryR c d g) := by
  have hn : Names X c (.ref (caK X.K c)) := ⟨hg, hd, .inl (F.g _ hc)⟩
  refine ps_weak (ps_try_only (tb := fun W => tS X.K { z with W := W } fr g) (ts := fun _ _ _ D σ H => D.rt v H) (Wout := z.W) hs hf hn tk hb fun a oe cls d pn _ _ => hsu a oe pn) fun Dd σ H ⟨B, env, I, p⟩ => ⟨B, env, I, ?_⟩
  unfold sTryR at p
  revert p
  cases g env with
  | stuck => exact fun p => p
  | ok o =>
    intro p
    cases o with
    | nx e => exact p
    | rt d e => exact p
    | bk e => exact p
    | ct e => exact p
  | err x e =>
    intro p
    simp only at p
    by_cases hq : x.cls = c
    · rw [if_pos hq] at p
      intro cls dp σ' H' I' m' ea
      obtain ⟨rfl, _⟩ := ea
      have ec : ({ z with W := wOnly X.K (.ref (caK X.K c)) (fun _ _ _ D σ H => D.rt v H) z.W Dd } : Z).ca x.cls = caK X.K c := by
        show z.ca x.cls = _
        rw [hC, hq]
        exact caOf_eq (F.g _ hc)
      rw [ec]
      refine ⟨true, F.m _ hc, fun _ a na => ?_, fun q => nomatch q⟩
      exact p v σ' H' I' m' ⟨hv _ _, fun _ ds e => absurd e (hl ds)⟩ (hrt _ _ _ _ _)
    · rw [if_neg hq] at p
      exact p.elim
end
end DL
/-! the class of an error with an own __init__, looked at by reckoning -/
namespace DL
open PySem PySem.Spec PyProof.Rows L2
variable {K : PySem.W.Frag}
/-- the i-th statement of a class's body -/
def clsS (s : Stmt) (i : Nat) : Stmt := match s with
  | .ClassDef _ _ _ body _ _ _ _ _ _ _ => body.getD i (.Pass ⟨0, 0, 0, 0⟩)
  | _ => .Pass ⟨0, 0, 0, 0⟩
def veB (K : PySem.W.Frag) (C : Addr) : Bool := match K.lookup C with
  | some ⟨.type "type", _, .cls cd, sl⟩ => (match cd.mro, sl.toList with
    | .ref C' :: bm, [_, _, _, _, some (.builtin n), _] => decide (C' = C) && (decide (n = "ValueError.__new__") && (!cd.hasDel && (cd.hasDict && PySem.HandSPX.refsVE bm)))
    | _, _ => false)
  | _ => false
theorem veB_ok {C : Addr} (q : veB K C = true) : ∃ nm qn N bs bm sn sub ab col dd k0 k1 k2 k3 k5, K.lookup C = some (excClassObj nm qn C N bs bm true sn sub ab col dd k0 k1 k2 k3 k5 "ValueError.__new__") ∧ PySem.HandSPX.refsVE bm = true := by
  unfold veB at q
  split at q
  · rename_i dd cd sl lk
    split at q
    · rename_i C' bm k0 k1 k2 k3 n k5 em es
      simp only [Bool.and_eq_true, decide_eq_true_eq, Bool.not_eq_true'] at q
      obtain ⟨rfl, rfl, q3, q4, q5⟩ := q
      obtain ⟨nm, bs, mro, ns, qn, hd, sn, sub, ab, col, del⟩ := cd
      dsimp only at em q3 q4
      subst em q3 q4
      obtain ⟨l⟩ := sl
      dsimp only at es
      subst es
      exact ⟨nm, qn, ns, bs, bm, sn, sub, ab, col, dd, k0, k1, k2, k3, k5, lk, q5⟩
    · cases q
  · cases q
def oexB (K : PySem.W.Frag) (C : Addr) (f : Str) : Bool := veB K C && ((PySem.W.findIn K (.ref C) "__setattr__" == some (some (.builtin "object.__setattr__"))) && ((PySem.W.subIn K (.ref C) (.type "BaseException") == some true) &&
  ((PySem.W.typeIn K (.ref C) == some (.type "type")) && (PySem.W.keepIn K (.ref C) && (PySem.W.findIn K (.ref C) f == some none)))))
theorem initf_of {h : Heap} {mg : Str → Option Value} {x f q : Str} {st : Stmt} {C fI : Addr} {od an : Option Addr} {sl : Array (Option Value)} {oc kV dc pm cd ct : Value} (KX : K.In h) (G : h.Ns mainGlobals mg)
    (a : PySem.W.nsIn K mainGlobals x = some (some (.ref C))) (t : oexB K C f = true) (i : PySem.W.findIn K (.ref C) "__init__" = some (some (.ref fI))) (ti : PySem.W.typeIn K (.ref fI) = some (.type "function"))
    (l : K.lookup fI = some ⟨oc, od, .func (PySem.W.fnOf "__init__" q (defArgs st) (defBody st) (defScope st) .none kV dc pm an cd ct), sl⟩) (c : PySem.W.codeIn K cd q = true) (k : PySem.W.keepIn K (.ref fI) = true)
    (b : ∀ (kV doc pm : Value) (an : Option Addr) (cdv ct : Value) (us : List Value), us.length = (["self", f] : List Str).length → bindArgs (PySem.W.fnOf "__init__" q (defArgs st) (defBody st) (defScope st) .none kV doc pm an cdv ct) ⟨us, []⟩ = pure ((["self", f] : List Str).zip us)) :
    InitF K mg x f st C := by
  unfold oexB at t
  simp only [Bool.and_eq_true, beq_iff_eq] at t
  obtain ⟨t1, t2, t3, t4, t5, t6⟩ := t
  refine ⟨PySem.W.mg_of KX G a, ⟨veB_ok t1, t2, t3, t4, t5⟩, t6, fI, _, q, i, ti, fun_mk l c k, (fun_mk l c k).binds b⟩
end DL
/-! list(range(n)); a dict of ints made empty, its keys listed -/
namespace DL
open PySem PySem.Spec PyProof.Rows L2
variable {K : PySem.W.Frag}
section
variable {X : Cx} {z : Z} {fr fe : Bool} {e : Expr} {g : EF} {pos : Pos} {i j : Nat}
def fListRg (g : EF) : EF := fun env => (g env).bind fun p => match p.1 with
  | .int n => if 0 ≤ n ∧ n ≤ 16777216 then .ok (.list (rangeL 0 n.toNat), p.2) else .stuck
  | _ => .stuck
theorem rg_at (O : Addr → Prop) (H : Hp) : ∀ n : Nat, AtAll K O H ((List.range n).map fun i => V.int (0 + (i : Nat))) ((List.range n).map fun i => PyData.int (0 + (i : Nat))) := by
  intro n
  generalize List.range n = is
  induction is with
  | nil => exact .nil
  | cons i is ih => exact .cons (.int _) ih
theorem de_listRg {p p2 pos2 : Pos} (hc : X.calm = true) (he : DE z X fe e g) (hg : Gl X "list") (hm : X.mg "list" = none) (hg2 : Gl X "range") (hm2 : X.mg "range" = none)
    (n1 : starEach [.Call (.Name "range" p2) [e] [] pos2] X.env = (false, eval (.Call (.Name "range" p2) [e] [] pos2) X.env) :: starEach [] X.env := by rfl) (n2 : starEach [e] X.env = (false, eval e X.env) :: starEach [] X.env := by rfl) :
    DE z X true (.Call (.Name "list" p) [.Call (.Name "range" p2) [e] [] pos2] [] pos) (fListRg g) :=
  de_imp (pe_listRg hc hg hm (prg_1 hg2 hm2 he n2) n1) fun B env σ H Q I hp => by
    unfold fListRg at hp
    refine ⟨B, env, I, (R.post_bind hp).imp (fun p hp v H1 I1 m1 a1 _ => ?_) fun _ _ q => q⟩
    obtain ⟨d, e2⟩ := p
    dsimp only at hp a1
    cases d with
    | int m0 =>
      simp only at hp
      split at hp
      · rename_i hn
        cases a1
        refine ⟨m0, rfl, RgOk.of_le (by decide) hn.2 (by decide) hn.1, fun q hq => ?_⟩
        have e1 : rgV 0 m0 = (List.range m0.toNat).map fun i => V.int (0 + (i : Nat)) := by
          unfold rgV
          rw [Int.sub_zero]
        rw [e1]
        exact EP1.give hp I1 m1 (Res.lst I1.od hq (rg_at _ _ _))
      · exact hp.elim
    | _ => exact hp.elim
theorem suite_minus1 {k : Nat} {p1 p2 pos2 : Pos} : PSs X [.Return (some (.UnaryOp .USub (.Constant (.int 1) k p1) p2)) pos2] (fun D σ H => D.rt (.int (-1)) H) :=
  pss_weak (pss_one (ps_ret (pe_un un_neg pe_int))) fun D σ H q => ⟨1, rfl, q⟩
/-- x = {} , ints and texts to be its keys -/
def sSetDk0 (j : Nat) : SF := fun env => .ok (.nx (env.set j (some (.dk []))))
theorem ds_setDk0 {x : Str} {pos' dpos : Pos} (hN : X.N.Nodup) (hn : X.N[j]? = some x) (hx : Loc X.env.scope x) (hj : j ∉ z.np)
    (hs : swapsWith (.Dict [] [] dpos) (some (.Name x pos')) pos.line X.env = pure false := by rfl) (hf : X.fn x = true ∨ X.env.scope.names.lookup x = some .local := by first | exact .inl rfl | exact .inr rfl | assumption) :
    DS z X fr (.Assign [.Name x pos'] (.Dict [] [] dpos) pos) (sSetDk0 j) :=
  ds_imp (ps_set hN hn hx pe_dnewK hs hf) fun B env σ H Dd I p => by
    unfold sSetDk0 at p
    intro q hq
    obtain ⟨I3, m3⟩ := I.setDk (i := j) (p := q) (vs := []) (kvs := []) hj hq .nil
    exact p _ _ I3 m3
/-- [x for x in d] -/
def tDKeys (i : Nat) : TE := fun σ H Q => ∃ a vs, σ[i]? = some (some (.ref a)) ∧ H a = some (.dK vs) ∧ vs.length < sizeLine ∧ ∀ p, H p = none → Q (.ref p) (upd H p (.lst (vs.map fun kv => kV kv.1)))
theorem pe_dkeys {x y : Str} {scope : Scope} {p1 p2 p4 : Pos} (hc : X.calm = true) (hN : X.N.Nodup) (ho : PE X (.Name x p1) (tVar i)) (ok : BlkOk X.N X.env.scope scope [(y, j)]) (hj : X.N[j]? = some y)
    (hg : ∀ (s : Shared) (H : Hp) (C : Addr) (cl : List (Str × Addr)) (fp : List Addr), PG (X.blk s H scope (compEnvC scope cl C X.env) fp) (.Name y p2) (gName j))
    (hk : ∀ (s : Shared) (H : Hp) (C : Addr) (cl : List (Str × Addr)) (fp : List Addr), PE (X.blk s H scope (compEnvC scope cl C X.env) fp) (.Name y p4) (tVar j)) :
    PE X (.ListComp (.Name y p4) [⟨.Name y p2, .Name x p1, [], 0⟩] scope pos) (tDKeys i) := by
  have P : PE X (.ListComp (.Name y p4) [⟨.Name y p2, .Name x p1, [], 0⟩] scope pos) _ := pe_lock (pe_lc hc hN (pi_keys ho) ok hg (fun _ _ _ _ _ => pts_nil) hk)
  refine ⟨fun pins s σ H Q I hh => P.run pins s σ H Q I ?_⟩
  obtain ⟨a, vs, hσ, hH, hl, q⟩ := hh
  have lj : j < σ.length := by
    rw [I.len]
    exact (List.getElem?_eq_some_iff.mp hj).1
  refine ⟨a, .dK vs, hH, True.intro, fun od => ?_⟩
  refine ⟨.ref a, hσ, a, od, rfl, .inl ⟨vs, upd_same, fun p hp => ?_⟩⟩
  have pa : p ≠ a := fun z => by rw [z, upd_same] at hp; cases hp
  have hp0 : H p = none := by rw [upd_ne pa] at hp; exact hp
  let ks : List V := vs.map fun kv => kV kv.1
  let G : Nat → Hp := fun n => upd (upd H a (.frz od (.dK vs))) p (.lst (ks.take n))
  have Ga : ∀ n, G n a = some (.frz od (.dK vs)) := fun n => by
    show upd (upd H a (.frz od (.dK vs))) p (.lst (ks.take n)) a = _
    rw [upd_ne (Ne.symm pa), upd_same]
  refine ⟨fun n m H' => m = vs.length - n ∧ n ≤ vs.length ∧ H' = G n, ⟨_, rfl, Nat.zero_le _, rfl⟩, ?_⟩
  rintro n m H' ⟨rfl, hn, rfl⟩
  by_cases hs : vs.length ≤ n
  · refine .inl ⟨⟨Ga n, hs⟩, Ga n, ?_⟩
    have e : upd (G n) a (.dK vs) = upd H p (.lst ks) := by
      funext b
      show upd (upd (upd H a (.frz od (.dK vs))) p (.lst (ks.take n))) a (.dK vs) b = _
      rw [List.take_of_length_le (by show (vs.map _).length ≤ n; rw [List.length_map]; exact hs)]
      by_cases b1 : b = a
      · rw [b1, upd_same, upd_ne (Ne.symm pa), hH]
      · rw [upd_ne b1]
        by_cases b2 : b = p
        · rw [b2, upd_same, upd_same]
        · rw [upd_ne b2, upd_ne b1, upd_ne b2]
    rw [e]
    exact q p hp0
  · refine .inr ⟨⟨Ga n, by omega⟩, fun H' => H' = G (n + 1), fun H' e => ⟨vs.length - (n + 1), by omega, rfl, by omega, e⟩, ?_⟩
    rintro x H' ⟨rfl, k, v, hkv, rfl⟩
    refine ⟨(wipe_set (show j ∈ List.map (fun q : Str × Nat => q.2) [(y, j)] from List.mem_cons_self ..)).trans (wipe_wipe σ _), ?_⟩
    have w1 : wipe σ (List.map (·.2) [(y, j)]) = σ.set j none := rfl
    rw [w1]
    have s2 : ((σ.set j none).set j (some (kV k)))[j]? = some (some (kV k)) := by
      rw [List.getElem?_set_self (by rw [List.length_set]; exact lj)]
    refine ⟨_, s2, ks.take n, upd_same, ?_, ?_⟩
    · rw [List.length_take]
      show min n (vs.map _).length < _
      rw [List.length_map]
      omega
    · show upd (upd (upd H a (.frz od (.dK vs))) p _) p _ = upd _ p _
      rw [upd_upd]
      congr 2
      have hn2 : n < ks.length := by
        show n < (vs.map _).length
        rw [List.length_map]; omega
      rw [List.take_succ_eq_append_getElem hn2]
      obtain ⟨h1, h2⟩ := List.getElem?_eq_some_iff.mp hkv
      congr 2
      show kV k = (vs.map fun kv => kV kv.1)[n]
      rw [List.getElem_map, h2]
def keyD : Key → D
  | .inl i => .int i
  | .inr x => .str x
def fDKeys (i : Nat) : EF := fun env => match env[i]? with
  | some (some (.dk kvs)) => if kvs.length < sizeLine then .ok (.list (kvs.map fun kv => keyD kv.1), env) else .stuck
  | _ => .stuck
theorem keys_at (O : Addr → Prop) (H : Hp) : ∀ {vs : List (Key × V)} {kvs : List (Key × D)}, vs.map Prod.fst = kvs.map Prod.fst → AtAll K O H (vs.map fun kv => kV kv.1) (kvs.map fun kv => keyD kv.1)
  | [], [], _ => .nil
  | [], _ :: _, e => by simp at e
  | _ :: _, [], e => by simp at e
  | (k, v) :: vs, (k', d) :: kvs, e => by
    simp only [List.map_cons, List.cons.injEq] at e
    obtain ⟨rfl, e⟩ := e
    refine .cons ?_ (keys_at O H e)
    cases k with
    | inl i => exact .int i
    | inr x => exact .str x
theorem de_dkeys {x y : Str} {scope : Scope} {p1 p2 p4 : Pos} (hc : X.calm = true) (hN : X.N.Nodup) (ho : PE X (.Name x p1) (tVar i)) (ok : BlkOk X.N X.env.scope scope [(y, j)]) (hj : X.N[j]? = some y)
    (hg : ∀ (s : Shared) (H : Hp) (C : Addr) (cl : List (Str × Addr)) (fp : List Addr), PG (X.blk s H scope (compEnvC scope cl C X.env) fp) (.Name y p2) (gName j))
    (hk : ∀ (s : Shared) (H : Hp) (C : Addr) (cl : List (Str × Addr)) (fp : List Addr), PE (X.blk s H scope (compEnvC scope cl C X.env) fp) (.Name y p4) (tVar j)) :
    DE z X true (.ListComp (.Name y p4) [⟨.Name y p2, .Name x p1, [], 0⟩] scope pos) (fDKeys i) :=
  de_imp (pe_dkeys hc hN ho ok hj hg hk) fun B env σ H Q I hp => by
    unfold fDKeys at hp
    split at hp
    · rename_i kvs e0
      split at hp
      · rename_i hl
        obtain ⟨v0, hv, q0⟩ := I.slot i _ e0
        obtain ⟨a, vs, rfl, hO, hH, r⟩ := q0.dkR
        refine ⟨a, vs, hv, hH, by rw [r.length]; exact hl, fun p hp0 => ?_⟩
        exact EP1.give hp I .refl (Res.lst I.od hp0 (keys_at _ _ r.fst))
      · exact hp.elim
    · exact hp.elim
end
end DL
namespace DL
open PySem PySem.Spec PyProof.Rows L2
section
variable {K : PySem.W.Frag} {z : Z} {X : Cx}
/-! ### zip of two lists, or of two tuples -/
def zip2D : List D → Option (List D)
  | [.list ds, .list es] => some (zipL ds es)
  | [.tuple ds, .tuple es] => some (zipL ds es)
  | _ => none
theorem itr_zipT {O : Addr → Prop} {H : Hp} {a b : Addr} {xs ys : List V} {ds es : List D} (l : LT K O H a xs) (r : AtAll K O H xs ds) (l' : LT K O H b ys) (r' : AtAll K O H ys es) : ItR K O H (RZ.ItzT K a b) (zipL ds es) := fun O' H1 m od => by
  have l1 := (LT.mv m l).1
  have r1 := AtAll.mv m r
  have l2 := (LT.mv m l').1
  have r2 := AtAll.mv m r'
  rw [zipL_length]
  refine ⟨fun i hi => ?_, ⟨xs, ys, l1, l2, by rw [r.length, r'.length]; omega⟩, fun i x H2 d hd y => ?_⟩
  · obtain ⟨v, h1, _⟩ := r1.get (List.getElem?_eq_getElem (show i < ds.length by omega))
    obtain ⟨u, h2, _⟩ := r2.get (List.getElem?_eq_getElem (show i < es.length by omega))
    exact ⟨xs, ys, v, u, l1, l2, h1, h2⟩
  · obtain ⟨T, y, y', rfl, hT, rfl, y1, y2⟩ := y
    obtain ⟨e, e', he, he', rfl⟩ := zipL_get hd
    obtain ⟨v, h1, h2⟩ := r1.get he
    obtain ⟨u, h3, h4⟩ := r2.get he'
    rw [y1 xs l1] at h1
    cases h1
    rw [y2 ys l2] at h3
    cases h3
    have rr := Res.tup (K := K) (fr := false) od hT (.cons h2 (.cons h4 .nil))
    exact ⟨rr.1, rr.2.1⟩
theorem di_zip2 {a b : Expr} {g : En → R En (List D × En)} {p pos tpos : Pos} {elts : List Expr} {kk : Nat} (hg : Gl X "zip") (hm : X.mg "zip" = none) (ha : DA z X [a, b] g)
    (hs : starEach [a, b] X.env = (false, eval a X.env) :: starEach [b] X.env := by rfl) (hpl : (backTo pos (starEach [b] X.env)).any (·.1) = false := by rfl) :
    DI z X (.Tuple elts kk tpos) (.Call (.Name "zip" p) [a, b] [] pos) (fWalk zip2D g) :=
  pi_weak (RZ.pi_zipA hg hm ha hs hpl) fun σ H Rr ⟨B, env, I, hp⟩ => ⟨B, env, I, (R.post_bind hp).imp (fun p hp vs H1 I1 m1 a1 => by
    obtain ⟨ds, ed, hd⟩ := ofO_post (R.post_bind hp)
    obtain ⟨l, e'⟩ := p
    replace a1 : AtAll X.K (B.O σ e') H1 vs l := a1
    dsimp only at ed
    unfold zip2D at ed
    split at ed
    · cases ed
      obtain ⟨v, u, rfl, a, b⟩ := a1.two
      obtain ⟨p, ys, rfl, l, r⟩ := a.list_inv
      obtain ⟨p', ys', rfl, l', r'⟩ := b.list_inv
      exact ⟨p, p', ys, ys', rfl, .inl ⟨l.1, l'.1, hd _ H1 I1 m1 (itr_zip l r l' r')⟩⟩
    · cases ed
      obtain ⟨v, u, rfl, a, b⟩ := a1.two
      obtain ⟨p, ys, rfl, l, r⟩ := a.tuple_inv
      obtain ⟨p', ys', rfl, l', r'⟩ := b.tuple_inv
      exact ⟨p, p', ys, ys', rfl, .inr ⟨l.1, l'.1, hd _ H1 I1 m1 (itr_zipT l r l' r')⟩⟩
    · cases ed) fun _ _ q => q⟩
end
end DL
/-! two own lists made by one assignment; an own list that goes from name to name -/
namespace DL
open PySem PySem.Spec PyProof.Rows L2
variable {K : PySem.W.Frag}
/-- .. where α holds o for the time being: it is nobody's data, and it stays -/
def Bs.hold (B : Bs) (α : Addr) (o : HO) : Bs := ⟨plus B.O0 α, B.H0, B.ps, fun a => if a = α then some o else B.kp a, B.fx⟩
section
variable {np : List Nat} {B : Bs} {σ : Sg} {H H1 H2 : Hp} {env e1 e2 : En} {α : Addr} {o : HO}
theorem Bs.hold_O (a : Addr) : (B.hold α o).O σ env a ↔ plus (B.O σ env) α a := by
  constructor
  · rintro ((h | h) | h)
    · exact .inl (.inl h)
    · exact .inr h
    · exact .inl (.inr h)
  · rintro ((h | h) | h)
    · exact .inl (.inl h)
    · exact .inr h
    · exact .inl (.inr h)
theorem SR.hold_in (I : SR K np B σ H env) (ha : H α = some o) (h0 : B.H0 α = none) (nO : ¬ B.O σ env α) (c : Clean K (plus (B.O σ env) α) σ H env) : SR K np (B.hold α o) σ H env where
  len := I.len
  slot := fun i s h => by
    obtain ⟨v, e, q⟩ := c i s h
    exact ⟨v, e, q.mv (Mv.less fun a z => (Bs.hold_O a).1 z) (fun a ea ho => .inr ⟨i, s, h, ho, ea ▸ e⟩) fun _ _ _ _ z => z⟩
  dist := I.dist
  keep := I.keep
  dom := I.dom
  new := I.new
  o0 := fun a h => h.elim (I.o0 a) fun e => by
    subst e
    refine ⟨fun z => (by rw [ha] at z; cases z), fun p hp e => ?_⟩
    have := (I.par p hp).2.1
    rw [e] at this
    exact this h0
  kept := fun a u h => by
    show H a = some u
    have h : (if a = α then some o else B.kp a) = some u := h
    split at h
    · rename_i e
      rw [e, ha]; exact h
    · exact I.kept a u h
  kpo := fun i a h => by
    show (if a = α then some o else B.kp a) = none
    rw [if_neg (fun e : a = α => nO (.inr ⟨i, by rw [← e]; exact h⟩))]
    exact I.kpo i a h
  own0 := fun i a h z => z.elim (I.own0 i a h) fun e : a = α => nO (.inr ⟨i, by rw [← e]; exact h⟩)
  par := I.par
  fix := I.fix
theorem SR.hold_out (I : SR K np (B.hold α o) σ H env) (hk : B.kp α = none) : SR K np B σ H env where
  len := I.len
  slot := fun i s h => by
    obtain ⟨v, e, q⟩ := I.slot i s h
    exact ⟨v, e, q.mv (Mv.less fun a z => (Bs.hold_O a).2 (.inl z)) (fun a ea ho => .inr ⟨i, s, h, ho, ea ▸ e⟩) fun _ _ _ _ z => z⟩
  dist := I.dist
  keep := I.keep
  dom := I.dom
  new := I.new
  o0 := fun a h => I.o0 a (.inl h)
  kept := fun a u h => I.kept a u (by
    show (if a = α then some o else B.kp a) = some u
    rw [if_neg fun e => by rw [e, hk] at h; cases h]
    exact h)
  kpo := fun i a h => by
    have k : (if a = α then some o else B.kp a) = none := I.kpo i a h
    split at k
    · cases k
    · exact k
  own0 := fun i a h z => I.own0 i a h (.inl z)
  par := I.par
  fix := I.fix
theorem SR.hold_clean (I : SR K np (B.hold α o) σ H env) : Clean K (plus (B.O σ env) α) σ H env := fun i s h => by
  obtain ⟨v, e, q⟩ := I.slot i s h
  exact ⟨v, e, q.mv (Mv.less fun a z => (Bs.hold_O a).2 z) (fun a ea ho => .inl (.inr ⟨i, s, h, ho, ea ▸ e⟩)) fun _ _ _ _ z => z⟩
theorem SR.hold_at (I : SR K np (B.hold α o) σ H env) : H α = some o := I.kept α o (by show (if α = α then some o else B.kp α) = some o; rw [if_pos rfl])
theorem SR.hold_nO (I : SR K np (B.hold α o) σ H env) (h : ¬ B.O0 α) : ¬ B.O σ env α := fun z => z.elim h fun ⟨i, q⟩ => I.own0 i α q (.inr rfl)
/-- what is moved under a hold is moved without it, from before α -/
theorem Mv.hold (m1 : Mv (B.O σ env) (B.O σ e1) H H1) (m : Mv ((B.hold α o).O σ e1) ((B.hold α o).O σ e2) H1 H2) (na : H α = none) : Mv (B.O σ env) (B.O σ e2) H H2 := by
  refine ⟨fun a u e n => ?_, fun a z => ?_, fun a z => m1.dom a (m.dom a z)⟩
  · refine m.keep a u (m1.keep a u e n) fun q => ?_
    rcases (Bs.hold_O a).1 q with q | q
    · exact (m1.own a q).elim n fun z => by rw [z] at e; cases e
    · rw [q, na] at e; cases e
  · rcases m.own a ((Bs.hold_O a).2 (.inl z)) with q | q
    · rcases (Bs.hold_O a).1 q with q | q
      · exact m1.own a q
      · exact .inr (q ▸ na)
    · exact .inr (m1.dom a q)
end
section
variable {X : Cx} {z : Z} {fr : Bool}
/-- a, b = f, g: both new lists, each its name's own -/
def sParO (i j : Nat) (f g : EF) : SF := fun env => (f env).bind fun p => (g p.2).bind fun q => match p.1, q.1 with
  | .list ds, .list es => .ok (.nx ((q.2.set i (some (.ow ds))).set j (some (.ow es))))
  | _, _ => .stuck
theorem ds_parO {i j : Nat} {x y : Str} {a b : Expr} {f g : EF} {px py pt pos : Pos} {kt k2 pt2} (hc : X.calm = true) (hN : X.N.Nodup) (hi : X.N[i]? = some x) (hj : X.N[j]? = some y) (hij : i ≠ j)
    (hx : X.env.scope.names.lookup x = some .local) (hy : X.env.scope.names.lookup y = some .local) (ha : DE z X true a f) (hb : DE z X true b g) (hin : i ∉ z.np) (hjn : j ∉ z.np)
    (na : starEach [a, b] X.env = (false, eval a X.env) :: starEach [b] X.env := by rfl) (nb : starEach [b] X.env = (false, eval b X.env) :: starEach [] X.env := by rfl)
    (hw : swappedStores [.Tuple [.Name x px, .Name y py] kt pt] (.Tuple [a, b] k2 pt2) X.env = pure (some [x, y]) := by rfl)
    (hs : swapsWithSole [.Tuple [.Name x px, .Name y py] kt pt] (.Tuple [a, b] k2 pt2) pos.line X.env = pure false := by rfl) :
    DS z X fr (.Assign [.Tuple [.Name x px, .Name y py] kt pt] (.Tuple [a, b] k2 pt2) pos) (sParO i j f g) := by
  refine ds_imp (ps_par hc hN hi hj hij hx hy (pa_cons ha (pa_cons hb pa_nil nb) na) hw hs) fun B env σ H Dd I p => ?_
  refine ⟨B, env, I, (R.post_bind p).imp (fun p hp v H1 I1 m1 a1 f1 => ?_) fun _ _ q => q.xp⟩
  have hp := R.post_bind hp
  obtain ⟨d, e1⟩ := p
  dsimp only at hp I1 m1 a1 f1
  by_cases hd : ∃ ds, d = .list ds
  · obtain ⟨ds, rfl⟩ := hd
    obtain ⟨α, xs, rfl, nα, nO, hα, ax, cl⟩ := f1 rfl ds rfl
    have h0 : B.H0 α = none := I.dom α nα
    have hk : B.kp α = none := by
      cases q : B.kp α with
      | none => rfl
      | some u => rw [I.kept α u q] at nα; cases nα
    have n00 : ¬ B.O0 α := fun q => (I.o0 α q).1 nα
    refine ⟨B.hold α (.lst xs), e1, I1.hold_in hα h0 nO cl, R.post.imp hp (fun q hq w H2 I2 m2 a2 f2 => ?_) fun xe e hx cls dp H' I' m' ea => ?_⟩
    · obtain ⟨d2, e2⟩ := q
      dsimp only at hq I2 m2 a2 f2
      cases d2 with
      | list es =>
        obtain ⟨β, ys, rfl, nβ, nOβ, hβ, ay, clβ⟩ := f2 rfl es rfl
        refine ⟨_, _, rfl, ?_⟩
        have I3 := I2.hold_out hk
        have m3 : Mv (B.O σ env) (B.O σ e2) H H2 := Mv.hold m1 m2 nα
        have mx : Mv (plus (B.O σ e1) α) (plus (B.O σ e2) α) H1 H2 := ⟨fun a u e n => m2.keep a u e fun q => n ((Bs.hold_O a).1 q), fun a q => (m2.own a ((Bs.hold_O a).2 q)).elim (fun q => .inl ((Bs.hold_O a).1 q)) .inr, m2.dom⟩
        have FA : FRes X.K (B.O σ e2) σ e2 H H2 (.ref α) (.list ds) := fun ds' e => by
          cases e
          exact ⟨α, xs, rfl, nα, I2.hold_nO n00, I2.hold_at, AtAll.mv mx ax, I2.hold_clean⟩
        obtain ⟨I4, α', eα, _, sub⟩ := I3.setOw (Hs := H) hin I.dom (fun a h => by
          cases q : B.kp a with
          | none => rfl
          | some u => rw [I.kept a u q] at h; cases h) FA
        cases eα
        have less : ∀ a, plus (B.O (σ.set i (some (.ref α))) (e2.set i (some (.ow ds)))) β a → plus ((B.hold α (.lst xs)).O σ e2) β a := fun a q => q.elim (fun q => .inl ((Bs.hold_O a).2 (sub a q))) .inr
        have FB : FRes X.K (B.O (σ.set i (some (.ref α))) (e2.set i (some (.ow ds)))) (σ.set i (some (.ref α))) (e2.set i (some (.ow ds))) H1 H2 (.ref β) (.list es) := fun es' e => by
          cases e
          refine ⟨β, ys, rfl, nβ, fun q => nOβ ((Bs.hold_O β).2 (sub β q)), hβ, AtAll.mv (Mv.less less) ay, fun k s hk' => ?_⟩
          rcases getElem?_set_some hk' with ⟨ek, es'⟩ | ⟨ek, h2⟩
          · cases es'
            subst ek
            obtain ⟨v, hv, a, xs', rfl, hO, _, _⟩ := I4.slot k (.ow ds) hk'
            obtain ⟨_, ev⟩ | ⟨ne, _⟩ := getElem?_set_some hv
            · cases ev
              refine ⟨.ref α, hv, α, xs, rfl, .inl hO, I2.hold_at, AtAll.mv ⟨fun a u e n => m2.keep a u e fun q => n ((Bs.hold_O a).1 q), fun a q => ?_, m2.dom⟩ ax⟩
              rcases q with q | q
              · exact (m2.own a ((Bs.hold_O a).2 (sub a q))).elim (fun q => .inl ((Bs.hold_O a).1 q)) .inr
              · exact .inr (q ▸ nβ)
            · exact absurd rfl ne
          · obtain ⟨v, e, q⟩ := clβ k s h2
            have e' : (σ.set i (some (V.ref α)))[k]? = some (some v) := by rw [List.getElem?_set_ne (Ne.symm ek)]; exact e
            exact ⟨v, e', q.mv (Mv.less less) (fun a ea ho => .inl (.inr ⟨k, s, hk', ho, ea ▸ e'⟩)) fun _ _ _ _ z => z⟩
        obtain ⟨I5, β', eβ, _, sub2⟩ := I4.setOw (Hs := H1) hjn I1.dom (fun a h => by
          cases q : B.kp a with
          | none => rfl
          | some u => rw [I1.kept a u q] at h; cases h) FB
        cases eβ
        exact hq _ H2 I5 ⟨m3.keep, fun a q => (sub2 a q).elim (fun q => (sub a q).elim (m3.own a) fun q => .inr (q ▸ nα)) fun q => .inr (q ▸ m1.dom β nβ), m3.dom⟩
      | _ => exact hq.elim
    · refine hx cls dp σ H' (I'.hold_out hk) (Mv.hold m1 m' nα) ⟨ea.1, ?_⟩
      have h2 := ea.2
      revert h2
      cases xe.dat with
      | nil => exact fun h => h
      | cons f fs =>
        rintro ⟨dd, vs, e, ⟨hd, nO'⟩, q, r⟩
        exact ⟨dd, vs, e, ⟨hd, fun z => nO' ((Bs.hold_O dd).2 (.inl z))⟩, q, AtAll.mv (Mv.less fun a z => (Bs.hold_O a).2 (.inl z)) r⟩
  · refine ⟨B, e1, I1, R.post.imp hp (fun q hq => ?_) fun x e hx => hx.xp.step m1⟩
    exfalso
    revert hq
    cases d with
    | list ds => exact absurd ⟨ds, rfl⟩ hd
    | _ => exact fun hq => hq.elim
/-- j's own list is i's from now on -/
def sMove (i j : Nat) : SF := fun env => match env[j]? with
  | some (some (.ow ds)) => .ok (.nx ((env.set i (some (.ow ds))).set j none))
  | _ => .stuck
/-- an own list is looked at no more -/
def sDrop (i : Nat) (h : SF) : SF := fun env => h (env.set i none)
theorem SR.dropE {np : List Nat} {B : Bs} {σ : Sg} {H : Hp} {env : En} (I : SR K np B σ H env) {i : Nat} (hi : i ∉ np) : SR K np B σ H (env.set i none) ∧ Mv (B.O σ env) (B.O σ (env.set i none)) H H := by
  have ow : ∀ j a, ownedAt σ (env.set i none) j a → j ≠ i ∧ ownedAt σ env j a := fun j a ⟨s, h1, h2, h3⟩ => by
    rcases getElem?_set_some h1 with ⟨e, e2⟩ | ⟨e, h1⟩
    · cases e2
    · exact ⟨e, s, h1, h2, h3⟩
  have wo : ∀ j a, j ≠ i → ownedAt σ env j a → ownedAt σ (env.set i none) j a := fun j a n ⟨s, h1, h2, h3⟩ =>
    ⟨s, by rw [List.getElem?_set_ne (Ne.symm n)]; exact h1, h2, h3⟩
  have m : Mv (B.O σ env) (B.O σ (env.set i none)) H H := Mv.less fun a z => z.elim .inl fun ⟨j, q⟩ => .inr ⟨j, (ow j a q).2⟩
  refine ⟨⟨by simpa using I.len, fun j s hs => ?_, fun j k a h1 h2 => I.dist j k a (ow j a h1).2 (ow k a h2).2, I.keep, I.dom, fun j a h => I.new j a (ow j a h).2, I.o0, I.kept, fun j a h => I.kpo j a (ow j a h).2, fun j a h => I.own0 j a (ow j a h).2, fun p hp => ?_, I.fix⟩, m⟩
  · rcases getElem?_set_some hs with ⟨_, e2⟩ | ⟨e, h1⟩
    · cases e2
    · obtain ⟨u, e1, q⟩ := I.slot j s h1
      exact ⟨u, e1, q.mv m (fun a ea ho => .inr ⟨j, wo j a e ⟨s, h1, ho, ea ▸ e1⟩⟩) fun _ _ _ _ z => z⟩
  · obtain ⟨h1, h2, h3⟩ := I.par p hp
    exact ⟨wo _ _ (fun z => hi (z ▸ h3)) h1, h2, h3⟩
theorem dss_drop {i : Nat} {h : SF} {sts : List Stmt} (hh : DSs z X fr sts h) (hi : i ∉ z.np) : DSs z X fr sts (sDrop i h) := pss_weak hh fun Dd σ H ⟨B, env, I, p⟩ => by
  obtain ⟨I', m⟩ := I.dropE hi
  exact ⟨B, _, I', R.post.imp p (fun o q => q.step m) fun x e q => q.step m⟩
theorem ds_move {i j : Nat} {x : Str} {e : Expr} {pos pos' : Pos} (hN : X.N.Nodup) (hn : X.N[i]? = some x) (hx : Loc X.env.scope x) (he : PE X e (tVar j)) (hi : i ∉ z.np) (hj : j ∉ z.np) (hij : i ≠ j) (hs : swapsWith e (some (.Name x pos')) pos.line X.env = pure false := by rfl)
    (hf : X.fn x = true ∨ X.env.scope.names.lookup x = some .local := by first | exact .inl rfl | exact .inr rfl | assumption) : DS z X fr (.Assign [.Name x pos'] e pos) (sMove i j) := by
  refine ds_imp (ps_set hN hn hx he hs hf) fun B env σ H Dd I p => ?_
  unfold sMove at p
  split at p
  · rename_i ds hd
    obtain ⟨α, xs, e1, hO, hH, hat⟩ := I.ow hd
    refine ⟨.ref α, e1, ?_⟩
    have oj : ownedAt σ env j α := ⟨_, hd, rfl, e1⟩
    have ow : ∀ k a, ownedAt (σ.set i (some (.ref α))) ((env.set i (some (.ow ds))).set j none) k a → (k = i ∧ a = α) ∨ (k ≠ i ∧ k ≠ j ∧ ownedAt σ env k a) := fun k a ⟨s, h1, h2, h3⟩ => by
      rcases getElem?_set_some h1 with ⟨_, e2⟩ | ⟨nj, h1⟩
      · cases e2
      · rcases getElem?_set_some h1 with ⟨e, e2⟩ | ⟨ni, h1⟩
        · rcases getElem?_set_some h3 with ⟨_, e3⟩ | ⟨e3, _⟩
          · cases e3; exact .inl ⟨e, rfl⟩
          · exact absurd e e3
        · rcases getElem?_set_some h3 with ⟨e3, _⟩ | ⟨_, h3⟩
          · exact absurd e3 ni
          · exact .inr ⟨ni, nj, s, h1, h2, h3⟩
    have wo : ∀ k a, k ≠ i → k ≠ j → ownedAt σ env k a → ownedAt (σ.set i (some (.ref α))) ((env.set i (some (.ow ds))).set j none) k a := fun k a n n2 ⟨s, h1, h2, h3⟩ =>
      ⟨s, by rw [List.getElem?_set_ne (Ne.symm n2), List.getElem?_set_ne (Ne.symm n)]; exact h1, h2, by rw [List.getElem?_set_ne (Ne.symm n)]; exact h3⟩
    have m : Mv (B.O σ env) (B.O (σ.set i (some (.ref α))) ((env.set i (some (.ow ds))).set j none)) H H := Mv.less fun a q => q.elim .inl fun ⟨k, q⟩ => (ow k a q).elim (fun q => .inr ⟨j, q.2 ▸ oj⟩) fun q => .inr ⟨k, q.2.2⟩
    refine p _ _ ⟨by simpa using I.len, fun k s hk => ?_, fun k l a h1 h2 => ?_, I.keep, I.dom, fun k a h => ?_, I.o0, I.kept, fun k a h => ?_, fun k a h => ?_, fun q hq => ?_, I.fixSet hi⟩ m
    · rcases getElem?_set_some hk with ⟨_, e2⟩ | ⟨nj, hk1⟩
      · cases e2
      · rcases getElem?_set_some hk1 with ⟨e, e2⟩ | ⟨ni, hk2⟩
        · cases e2
          subst e
          have hl : k < env.length := by
            have := (List.getElem?_eq_some_iff.mp hk1).1
            simpa using this
          have hl' : k < σ.length := by rw [I.len]; exact hl
          have eσ : (σ.set k (some (V.ref α)))[k]? = some (some (.ref α)) := by rw [List.getElem?_set_self hl']
          exact ⟨.ref α, eσ, α, xs, rfl, .inr ⟨k, .ow ds, hk, rfl, eσ⟩, hH, AtAll.mv m hat⟩
        · obtain ⟨u, e1', q⟩ := I.slot k s hk2
          exact ⟨u, by rw [List.getElem?_set_ne (Ne.symm ni)]; exact e1', q.mv m (fun a ea ho => .inr ⟨k, wo k a ni nj ⟨s, hk2, ho, ea ▸ e1'⟩⟩) fun _ _ _ _ z => z⟩
    · rcases ow k a h1 with ⟨e, ea⟩ | ⟨n1, n2, q1⟩
      · rcases ow l a h2 with ⟨e', _⟩ | ⟨n3, n4, q2⟩
        · rw [e, e']
        · rw [ea] at q2
          exact absurd (I.dist l j α q2 oj) n4
      · rcases ow l a h2 with ⟨e', ea⟩ | ⟨n3, n4, q2⟩
        · rw [ea] at q1
          exact absurd (I.dist k j α q1 oj) n2
        · exact I.dist k l a q1 q2
    · rcases ow k a h with ⟨_, ea⟩ | ⟨_, _, q⟩
      · rcases I.new j α oj with q | q
        · have := (I.par _ q).2.2
          exact absurd this hj
        · exact .inr (ea ▸ q)
      · exact I.new k a q
    · rcases ow k a h with ⟨_, ea⟩ | ⟨_, _, q⟩
      · exact ea ▸ I.kpo j α oj
      · exact I.kpo k a q
    · rcases ow k a h with ⟨_, ea⟩ | ⟨_, _, q⟩
      · exact ea ▸ I.own0 j α oj
      · exact I.own0 k a q
    · obtain ⟨h1, h2, h3⟩ := I.par q hq
      exact ⟨wo _ _ (fun z => hi (z ▸ h3)) (fun z => hj (z ▸ h3)) h1, h2, h3⟩
  · exact p.elim
end
end DL
/-! own lists lent to a list of plain things -/
namespace DL
open PySem PySem.Spec PyProof.Rows L2
variable {K : PySem.W.Frag}
def flatL : D → Bool
  | .list ds => ds.all flatD
  | _ => false
def fLendL (f : EF) : EF := fun env => if noDk env = true then (match f (lentE env) with
  | .ok p => if flatL p.1 = true then .ok (p.1, env) else .stuck
  | _ => .stuck) else .stuck
theorem AtAll.flatD {O O' : Addr → Prop} {H : Hp} : ∀ {vs : List V} {ds : List D}, AtAll K O H vs ds → ds.all flatD = true → AtAll K O' H vs ds
  | _, _, .nil, _ => .nil
  | _, _, .cons a r, h => by
    rw [List.all_cons, Bool.and_eq_true] at h
    exact .cons (At.flatD a h.1) (AtAll.flatD r h.2)
section
variable {X : Cx} {e : Expr} {z : Z}
theorem fLendL_dk {f : EF} {env : En} {p : D × En → Prop} {q : Exn → En → Prop} (h : (fLendL f env).post p q) : noDk env = true := by
  unfold fLendL at h
  by_cases hd : noDk env = true
  · exact hd
  · rw [if_neg hd] at h; exact h.elim
theorem sem_lendL {f : EF} {B : Bs} {env : En} {σ : Sg} {H : Hp} {Q : VK} (I : SR K z.np B σ H env) (hd : noDk env = true) (hp : (fLendL f env).post (EP1 K z true B σ H env Q) (XP K z B σ H env)) :
    (f (lentE env)).post (EP1 K z true ⟨B.O0, H, [], H, B.fx⟩ σ H (lentE env) Q) (XP K z ⟨B.O0, H, [], H, B.fx⟩ σ H (lentE env)) := by
  unfold fLendL at hp
  rw [if_pos hd] at hp
  revert hp
  cases f (lentE env) with
  | stuck => exact fun q => q
  | err x s => exact fun q => q.elim
  | ok p =>
    intro q
    simp only at q
    by_cases hf : flatL p.1 = true
    · rw [if_pos hf] at q
      obtain ⟨d, e2⟩ := p
      cases d with
      | list ds =>
        have hf : ds.all flatD = true := hf
        intro v H' I' m a fr
        obtain ⟨α, xs, rfl, nα, nO, hα, ax, _⟩ := fr rfl ds rfl
        have ex : Ex H H' := fun a o h => I'.kept a o h
        have nO' : ¬ B.O σ env α := I.nO nα
        refine q (.ref α) H' (I.ex ex) (Mv.ex ex) (.lst ⟨.inl (.inl hα), fun w => absurd w nO'⟩ (ax.flatD hf)) fun _ ds' e => ?_
        cases e
        exact ⟨α, xs, rfl, nα, nO', hα, ax.flatD hf, Clean.of I ex nα⟩
      | _ => cases hf
    · rw [if_neg hf] at q
      exact q.elim
theorem de_lendL {f : EF} (h : DE z X true e f) : DE z X true e (fLendL f) := de_imp h fun B env σ H Q I hp => ⟨_, _, I.lend (fLendL_dk hp), sem_lendL I (fLendL_dk hp) hp⟩
section
variable {y : Str} {i : Nat} {fr fe : Bool} {elt tg iter : Expr} {ifs : List Expr} {scope : Scope} {own : List (Str × Nat)} {pos py spos : Pos} {gw : En → R En (List D × En)} {ws : List Nat} {T : TF} {t : En → R En (Bool × En)} {f : EF}
theorem ds_setLcOL (hc : X.calm = true) (hN : X.N.Nodup) (hy : X.N[i]? = some y) (hyl : X.env.scope.names.lookup y = some .local)
    (hsw : swapsWith (.ListComp elt [⟨tg, iter, ifs, 0⟩] scope pos) (some (.Name y py)) spos.line X.env = pure true) (hi : DI z X tg iter gw) (ok : BlkOk X.N X.env.scope scope own)
    (hg : ∀ (s : Shared) (H : Hp) (C : Addr) (cl : List (Str × Addr)) (fp : List Addr), PG (X.blk s H scope (compEnvC scope cl C X.env) fp) tg (tG X.K z.quiet ws T)) (ht : ∀ (s : Shared) (H : Hp) (C : Addr) (cl : List (Str × Addr)) (fp : List Addr), PTs (X.blk s H scope (compEnvC scope cl C X.env) fp) ifs (tT X.K z.quiet t))
    (he : ∀ (s : Shared) (H : Hp) (C : Addr) (cl : List (Str × Addr)) (fp : List Addr), PE (X.blk s H scope (compEnvC scope cl C X.env) fp) elt (tE X.K z.quiet fe f)) (hw : ∀ w ∈ ws, w ∈ own.map (·.2)) (hin : i ∉ z.np) (hs : ∀ x, foldedSetIterable iter X.env x = pure x := by intro _; rfl) (hvn : npFree z.np (own.map (·.2)) = true := by rfl) :
    DS z X fr (.Assign [.Name y py] (.ListComp elt [⟨tg, iter, ifs, 0⟩] scope pos) spos) (sSetO i (fLendL (fLc gw T t f (own.map (·.2))))) :=
  ds_imp (ps_setLc hc hN hy hyl hsw hi ok hg ht he hs) fun B env σ H Dd I p =>
    have q := sem_setO I hin p
    sem_lc hw (npFree_not hvn) (I.lend (fLendL_dk q)) (sem_lendL I (fLendL_dk q) q)
end
end
end DL
/-! texts: split, join, slices, int of a text -/
namespace DL
open PySem PySem.Spec PyProof.Rows L2
section
variable {X : Cx} {z : Z} {K : PySem.W.Frag}
def strsD : List D → Option (List Str)
  | [] => some []
  | .str a :: r => (strsD r).map (a :: ·)
  | _ :: _ => none
theorem strsD_inv : ∀ {ds : List D} {ys : List Str}, strsD ds = some ys → ds = ys.map PyData.str
  | [], ys, h => by cases h; rfl
  | d :: r, ys, h => by
    cases d with
    | str a =>
      simp only [strsD, Option.map_eq_some_iff] at h
      obtain ⟨ms, h1, rfl⟩ := h
      rw [strsD_inv h1]
      rfl
    | _ => cases h
theorem strsD_map : ∀ ys : List Str, strsD (ys.map PyData.str) = some ys
  | [] => rfl
  | a :: r => by simp only [List.map_cons, strsD, strsD_map r, Option.map_some]
theorem AtAll.strs {O : Addr → Prop} {H : Hp} : ∀ ys : List Str, AtAll K O H (ys.map V.str) (ys.map PyData.str)
  | [] => .nil
  | a :: r => .cons (.str a) (AtAll.strs r)
theorem AtAll.strs_inv {O : Addr → Prop} {H : Hp} : ∀ {ys : List Str} {vs : List V}, AtAll K O H vs (ys.map PyData.str) → vs = ys.map V.str
  | [], _, .nil => rfl
  | a :: r, _, .cons h t => by
    cases h
    rw [AtAll.strs_inv t]
    rfl
def fM1 (h : Str → D → Option D) (f g : EF) : EF := fun env => (f env).bind fun p => match p.1 with
  | .str a => (g p.2).bind fun q => (ofO (h a q.1)).bind fun r => .ok (r, q.2)
  | _ => .stuck
theorem de_m1 {id : String} {name : Str} {r : V → List V → Hp → VK → Prop} {h : Str → D → Option D} {fo fe : Bool} {f g : EF} {o e : Expr} {apos pos : Pos} (slot : Slot "str" name id) (ty : typeOf (.builtin id) = pure (.type "method_descriptor")) (rule : MtR X id r)
    (sem : ∀ (O : Addr → Prop) (H : Hp) (a : Str) (y : V) (d w : D) (Q : VK), Od O H → At X.K O H y d → h a d = some w → (∀ v H', Res X.K true O H H' v w → Q v H') → r (.str a) [y] H Q)
    (ho : DE z X fo o f) (he : DE z X fe e g)
    (hs : starEach [e] X.env = [(false, eval e X.env)] := by rfl) (hbase : attributeBase o name X.env (eval o X.env) = eval o X.env := by rfl) (hline : (apos.endLine == pos.line) = true := by rfl) :
    DE z X true (.Call (.Attribute o name apos) [e] [] pos) (fM1 h f g) :=
  de_imp (pe_m1 slot ty rule ho he hs hbase hline) fun B env σ H Q I hp => ⟨B, env, I, (R.post_bind hp).imp (fun p hp x H1 I1 m1 a1 _ => by
    obtain ⟨d, e1⟩ := p
    cases d with
    | str a =>
      cases a1
      refine ⟨⟨a, rfl⟩, B, e1, I1, (R.post_bind hp).imp (fun q hq u H2 I2 m2 a2 _ => ?_) fun _ _ q => q.step m1⟩
      obtain ⟨w, ew, hw⟩ := ofO_post (R.post_bind hq)
      exact sem _ H2 a u q.1 w Q I2.od a2 ew fun v' H' rr => EP1.give hw I2 (m1.trans m2) rr
    | _ => exact hp.elim) fun _ _ q => q⟩
def splitD (a : Str) : D → Option D
  | .str b => if (b.length == 0) = false ∧ a.length + 2 ≤ sizeLine then some (.list ((Txt.split a b).map .str)) else none
  | _ => none
theorem de_split {fo fe : Bool} {f g : EF} {o e : Expr} {apos pos : Pos} (ho : DE z X fo o f) (he : DE z X fe e g)
    (hs : starEach [e] X.env = [(false, eval e X.env)] := by rfl) (hbase : attributeBase o "split" X.env (eval o X.env) = eval o X.env := by rfl) (hline : (apos.endLine == pos.line) = true := by rfl) :
    DE z X true (.Call (.Attribute o "split" apos) [e] [] pos) (fM1 splitD f g) :=
  de_m1 F.slot_str_split F.type_str_split mt_split (fun O H a y d w Q od hy hw q => by
    cases d with
    | str b =>
      cases hy
      simp only [splitD] at hw
      split at hw
      · rename_i hl
        cases hw
        exact ⟨a, b, rfl, rfl, hl.1, hl.2, fun p hp => q _ _ (.lst od hp (AtAll.strs _))⟩
      · cases hw
    | _ => cases hw) ho he hs hbase hline
def joinD (a : Str) : D → Option D
  | .list ds => (strsD ds).bind fun ys => if (ys.map (·.length)).sum + ys.length * a.length ≤ 16777216 then some (.str (Txt.join a ys)) else none
  | .tuple ds => (strsD ds).bind fun ys => if (ys.map (·.length)).sum + ys.length * a.length ≤ 16777216 then some (.str (Txt.join a ys)) else none
  | _ => none
theorem de_join {fo fe : Bool} {f g : EF} {o e : Expr} {apos pos : Pos} (ho : DE z X fo o f) (he : DE z X fe e g)
    (hs : starEach [e] X.env = [(false, eval e X.env)] := by rfl) (hbase : attributeBase o "join" X.env (eval o X.env) = eval o X.env := by rfl) (hline : (apos.endLine == pos.line) = true := by rfl) :
    DE z X true (.Call (.Attribute o "join" apos) [e] [] pos) (fM1 joinD f g) :=
  de_m1 F.slot_str_join F.type_str_join mt_join (fun O H a y d w Q od hy hw q => by
    cases d with
    | list ds =>
      simp only [joinD, Option.bind_eq_some_iff] at hw
      obtain ⟨ys, hy', hw⟩ := hw
      split at hw
      · rename_i hl
        cases hw
        obtain ⟨p, xs, rfl, l, r⟩ := hy.list_inv
        rw [strsD_inv hy'] at r
        rw [AtAll.strs_inv r] at l
        exact ⟨a, p, ys, rfl, rfl, .inl l.1, hl, q _ _ (.flat (.str _) fun _ z => nomatch z)⟩
      · cases hw
    | tuple ds =>
      simp only [joinD, Option.bind_eq_some_iff] at hw
      obtain ⟨ys, hy', hw⟩ := hw
      split at hw
      · rename_i hl
        cases hw
        obtain ⟨p, xs, rfl, l, r⟩ := hy.tuple_inv
        rw [strsD_inv hy'] at r
        rw [AtAll.strs_inv r] at l
        exact ⟨a, p, ys, rfl, rfl, .inr l.1, hl, q _ _ (.flat (.str _) fun _ z => nomatch z)⟩
      · cases hw
    | _ => cases hw) ho he hs hbase hline
/-- xs[lo:hi] of a text too -/
def slTD (d : D) (lo hi : Option Int) : Option D := match d with
  | .str a => if a.length ≤ sizeLine then some (.str (Txt.slice a lo hi)) else none
  | _ => none
theorem sd_slT : SlD X true slTD := by
  refine ⟨_, C8.sl_txt, fun O H x d w lo hi Q od hx hw q => ?_⟩
  cases d with
  | str a =>
    cases hx
    simp only [slTD] at hw
    split at hw
    · rename_i hl
      cases hw
      exact ⟨a, rfl, hl, q _ _ (.flat (.str _) fun _ z => nomatch z)⟩
    · cases hw
  | _ => cases hw
/-- int of a text -/
def intTD : List D → Option D
  | [.str a] => if a.length ≤ 640 then (PySem.intText? a).map .int else none
  | _ => none
theorem intTD_inv {ds : List D} {w : D} (h : intTD ds = some w) : ∃ a n, ds = [.str a] ∧ PySem.intText? a = some n ∧ a.length ≤ 640 ∧ w = .int n := by
  unfold intTD at h
  split at h
  · split at h
    · rename_i a hl
      obtain ⟨n, hn, rfl⟩ := Option.map_eq_some_iff.mp h
      exact ⟨a, n, rfl, hn, hl, rfl⟩
    · cases h
  · cases h
theorem cd_intT : CallD X (.type "int") true intTD := by
  refine ⟨_, call_int_str, fun O H vs ds w Q od ha hw q => ?_⟩
  obtain ⟨a, n, rfl, hn, hl, rfl⟩ := intTD_inv hw
  obtain ⟨v, rfl, h⟩ := ha.one
  cases h
  exact ⟨a, n, rfl, hn, hl, q _ _ (.flat (.int _) fun _ z => nomatch z)⟩
end
end DL
namespace DL
open PySem PySem.Spec PyProof.Rows L2
section
variable {X : Cx} {z : Z} {K : PySem.W.Frag}
/-! the signs of a text, walked -/
def charL (x : Str) : List D := x.cps.toList.map fun c => .str ⟨#[c]⟩
def charsD : D → Option (List D)
  | .str x => some (charL x)
  | _ => none
def fChars (f : EF) : En → R En (List D × En) := fun env => (f env).bind fun p => (ofO (charsD p.1)).bind fun ds => .ok (ds, p.2)
theorem itr_str {O : Addr → Prop} {H : Hp} (x : Str) : ItR K O H (Its x) (charL x) := fun O' H1 m od => by
  have hl : (charL x).length = x.cps.size := by simp [charL]
  refine ⟨fun i hi => by rw [hl] at hi; exact hi, by rw [hl]; exact Nat.le_refl _, fun i v H2 d hd y => ?_⟩
  obtain ⟨rfl, c, hc, rfl⟩ := y
  have : d = .str ⟨#[c]⟩ := by
    have hc' : x.cps.toList[i]? = some c := by rw [Array.getElem?_toList]; exact hc
    simp only [charL, List.getElem?_map, hc', Option.map_some] at hd
    exact (Option.some.inj hd).symm
  subst this
  exact ⟨fun _ _ q => q, .str _⟩
theorem di_chars {tg e : Expr} {fr : Bool} {f : EF} (h : DE z X fr e f) : DI z X tg e (fChars f) := pi_weak (pi_str h) fun σ H Rr ⟨B, env, I, hp⟩ =>
  ⟨B, env, I, (R.post_bind hp).imp (fun p hp v H1 I1 m1 a1 _ => by
    obtain ⟨ds, ed, hd⟩ := ofO_post (R.post_bind hp)
    obtain ⟨d, e'⟩ := p
    cases d with
    | str x =>
      cases ed
      cases a1
      exact ⟨x, rfl, hd _ H1 I1 m1 (itr_str x)⟩
    | _ => cases ed) fun _ _ q => q⟩
end
end DL
/-! enumerate(xs, k) of a list -/
namespace DL
open PySem PySem.Spec PyProof.Rows L2
section
def IteK (K : PySem.W.Frag) (k : Int) (a : Addr) : It :=
  ⟨fun i H => ∃ (xs : List V) (x : V), SqL K H a xs ∧ xs[i]? = some x, fun i H v H' => ∃ T x, v = .ref T ∧ H T = none ∧ H' = upd H T (.tup [.int (k + (i : Nat)), x]) ∧ ∀ xs, SqL K H a xs → xs[i]? = some x, fun i H => ∃ xs : List V, SqL K H a xs ∧ xs.length = i⟩
theorem turn_enumK {P : Program} {w : World} {K : PySem.W.Frag} {elts : List Expr} {kk : Nat} {tpos : Pos} (k : Int) (a e it : Addr) :
    Turn P w K (.Tuple elts kk tpos) (IteK K k a) [e, it] e (fun i h => (∃ old, IsEnum h e it (k + ((i : Nat) : Int)) old) ∧ h.IsListIter it a i ∧ e ≠ it) where
  mem := by simp
  obj := fun i h st b hb => by
    obtain ⟨⟨old, he⟩, ⟨o, ho, hc, hd⟩, _⟩ := st
    have e' : b = e ∨ b = it := by simpa using hb
    rcases e' with z | z
    · rw [z]; exact ⟨_, he, fun v q => nomatch q⟩
    · rw [z]; exact ⟨o, ho, fun v q => by rw [hd] at q; cases q⟩
  keep := fun i h h' st k => let ⟨⟨old, he⟩, hi, hne⟩ := st; ⟨⟨old, k e (by simp) _ he⟩, hi.at fun o q => k it (by simp) o q, hne⟩
  item := by
    intro X hP hw hK hc i pins s σ H E I hf st hg
    subst hP hw hK
    obtain ⟨⟨old, he⟩, hit, hne⟩ := st
    obtain ⟨xs, x, hq, hx⟩ := hg
    obtain ⟨its, rv, p, hz⟩ := I.list hq
    obtain ⟨u, hu, ru⟩ := rv.get hx
    have hel : e < s.heap.objs.size := Heap.lt_size he
    have hil : it < s.heap.objs.size := by obtain ⟨_, q, _⟩ := hit; exact Heap.lt_size q
    have pl : s.heap.IsList a its.toArray := p.isList
    have hai : a ≠ it := fun z => by
      obtain ⟨o, h1, h2, _⟩ := id pl
      obtain ⟨o', h3, h4, _⟩ := id hit
      rw [z, h3] at h1; cases h1; rw [h4] at h2; exact absurd (Value.type.inj h2) (by decide)
    have hae : a ≠ e := fun z => by
      obtain ⟨o, h1, h2, _⟩ := id pl
      have h3 : s.heap.get? e = some _ := he
      rw [z, h3] at h1; cases h1; exact absurd (Value.type.inj h2) (by decide)
    have hlt : i < its.toArray.size := by
      rw [List.size_toArray]
      exact (List.getElem?_eq_some_iff.mp hu).1
    have hef : e ∉ [it, a] := by simp [hne, Ne.symm hae]
    refine wpAny_pyNext_enum_itemC (Draws.list (A := X.A.in1) (I.ok.hd hc) it a hai its.toArray) he ⟨hit, pl⟩ hlt hne hef fun x' h' tk hP ho hst hT hsz hk => ?_
    have ex : x' = u := by
      have : its.toArray[i]? = some u := by simpa using hu
      exact Option.some.inj (hP.symm.trans this)
    subst ex
    refine ⟨_, rfl, wpAny_letOwnedTupleGo_enum (s := { s with heap := h', toks := tk + 1 }) ho fun h'' he' sb => ?_⟩
    have hT2 : h''.get? s.heap.objs.size = some { cls := .type "tuple", data := .seq #[.int (k + (i : Nat)) tk, x'] } := (sb.2 _ (Nat.ne_of_gt hel)).trans hT
    have new : ObjOk X.prog X.w (upd H s.heap.objs.size (.tup [.int (k + (i : Nat)), x])) h'' s.heap.objs.size (.tup [.int (k + (i : Nat)), x]) :=
      ⟨by show 2 ≤ sizeLine; decide, [.int (k + (i : Nat)) tk, x'], .cons ⟨_, rfl⟩ (.cons ru .nil), ⟨_, hT2, rfl, _, rfl⟩⟩
    have I1 : Inv X pins σ (upd H s.heap.objs.size (.tup [.int (k + (i : Nat)), x])) { s with heap := h'', toks := tk + 1 } :=
      I.turnedNew (ch := [e, it]) (fun b ob hb q => (sb.2 b (fun z => hb (by simp [z]))).trans (hk b ob (fun z => hb (by simp [z])) (fun z => hb (by simp [z])) q)) hf (Nat.le_refl _) new
    refine ⟨.ref s.heap.objs.size, _, I1, rfl, ⟨_, x, rfl, I.hok.fresh (Nat.le_refl _), rfl, fun ys hy => by rw [I.list_inj hy hq]; exact hx⟩, ⟨⟨x', ?_⟩, hst.1.at fun o q => (sb.2 it (Ne.symm hne)).trans q, hne⟩, fun b hb => ?_⟩
    · have e1 : k + ((i + 1 : Nat) : Int) = k + (i : Int) + 1 := by omega
      rw [e1]; exact he'
    · have hb' : b < s.heap.objs.size := by
        have e' : b = e ∨ b = it := by simpa using hb
        rcases e' with z | z
        · rw [z]; exact hel
        · rw [z]; exact hil
      rw [upd_ne (Nat.ne_of_lt hb')]
      exact (hf b hb).1
  done := by
    intro X hP hw hK hc i pins s σ H E I hf st hg
    subst hP hw hK
    obtain ⟨⟨old, he⟩, hit, hne⟩ := st
    obtain ⟨xs, hq, hx⟩ := hg
    obtain ⟨its, rv, p, hz⟩ := I.list hq
    obtain ⟨f0, f1, f2, f3, f4, f5⟩ := hf it (by simp)
    have hl := rv.length
    have pl : s.heap.IsList a its.toArray := p.isList
    have hai : a ≠ it := fun z => by
      obtain ⟨o, h1, h2, _⟩ := id pl
      obtain ⟨o', h3, h4, _⟩ := id hit
      rw [z, h3] at h1; cases h1; rw [h4] at h2; exact absurd (Value.type.inj h2) (by decide)
    have hsz : its.toArray.size = i := by rw [List.size_toArray, ← hl, hx]
    exact wpAny_pyNext_enum_endD (Draws.list (A := X.A.in1) (I.ok.hd hc) it a hai its.toArray) he ⟨by rw [hsz]; exact hit, pl⟩ fun h' eb => ⟨rfl, I.turned (t' := s.toks) (fun b o hb q => eb b o hb q) f0 f1 f3 f4 f5⟩
  self := fun A i s Q E st h => let ⟨⟨_, he⟩, _⟩ := st; wpAny_pyIter_enum he h
def iEnumK (K : PySem.W.Frag) (ta : TA) : TI := fun σ H R => ta σ H fun vs H1 => ∃ a xs k, vs = [.ref a, .int k] ∧ -(2 ^ 63) ≤ k ∧ k < 2 ^ 63 ∧ SqL K H1 a xs ∧ R (IteK K k a) H1
theorem pi_enumK {X : Cx} {e e2 : Expr} {ta : TA} {p pos tpos : Pos} {elts : List Expr} {kk : Nat} (hg : Gl X "enumerate") (hm : X.mg "enumerate" = none) (ha : PA X [e, e2] ta)
    (hs : starEach [e, e2] X.env = (false, eval e X.env) :: starEach [e2] X.env := by rfl) (hpl : (backTo pos (starEach [e2] X.env)).any (·.1) = false := by rfl) :
    PI X (.Tuple elts kk tpos) (.Call (.Name "enumerate" p) [e, e2] [] pos) (iEnumK X.K ta) := by
  refine ⟨fun pins s σ H R I h => ?_⟩
  refine Call_ (ld_blt I hg hm boot_enumerate (PyProof.Rows.callWith_type1 (thn (ha.run pos pins s σ H _ I h) fun us s1 ⟨vs, H1, I1, r1, q1⟩ => ?_) hs hpl))
  obtain ⟨a, xs, k, ex, hk0, hk1, hq, q⟩ := q1
  subst ex
  cases r1 with
  | cons r rr =>
    cases rr with
    | cons r' rr =>
      cases rr
      cases r
      obtain ⟨t, rfl⟩ := r'
      obtain ⟨its, rv, p', hz⟩ := I1.list hq
      refine enum_begins (begins_list a its.toArray) p'.isList hk0 hk1 fun h' he hit hsz hk => wpAny_pyIter_enum he ?_
      have I2 : Inv X pins σ H1 { s1 with heap := h' } := I1.kept (t' := s1.toks) hk
      refine ⟨s1.heap.objs.size + 1, [s1.heap.objs.size + 1, s1.heap.objs.size], _, _, H1, rfl, I2, turn_enumK k a (s1.heap.objs.size + 1) s1.heap.objs.size, ⟨⟨.none, by rw [show k + ((0 : Nat) : Int) = k by omega]; exact he⟩, ⟨_, hit, rfl, rfl⟩, Nat.succ_ne_self _⟩, fun b hb => ?_, q⟩
      have e' : b = s1.heap.objs.size + 1 ∨ b = s1.heap.objs.size := by simpa using hb
      have hle : s1.heap.objs.size ≤ b := by
        rcases e' with z | z
        · rw [z]; exact Nat.le_add_right _ _
        · rw [z]; exact Nat.le_refl _
      exact I1.fpOk hle (I1.hok.fresh hle)
variable {X : Cx} {z : Z} {K : PySem.W.Frag}
def enumKL (k : Int) (ds : List D) : List D := ds.zipIdx.map fun p => .tuple [.int (k + (p.2 : Nat)), p.1]
def enumKD : List D → Option (List D)
  | [.list ds, .int k] => if -(2 ^ 63) ≤ k ∧ k < 2 ^ 63 then some (enumKL k ds) else none
  | _ => none
theorem enumKL_get {k : Int} {ds : List D} {i : Nat} {d : D} (h : (enumKL k ds)[i]? = some d) : ∃ e, ds[i]? = some e ∧ d = .tuple [.int (k + (i : Nat)), e] := by
  simp only [enumKL, List.getElem?_map, List.getElem?_zipIdx, Option.map_map, Option.map_eq_some_iff] at h
  obtain ⟨e, h1, h2⟩ := h
  refine ⟨e, h1, ?_⟩
  rw [← h2]
  simp
theorem enumKL_length (k : Int) (ds : List D) : (enumKL k ds).length = ds.length := by simp [enumKL]
theorem itr_enumK {k : Int} {O : Addr → Prop} {H : Hp} {a : Addr} {xs : List V} {ds : List D} (l : LL K O H a xs) (r : AtAll K O H xs ds) : ItR K O H (IteK K k a) (enumKL k ds) := fun O' H1 m od => by
  have l1 := (LL.mv m l).1
  have r1 := AtAll.mv m r
  rw [enumKL_length]
  refine ⟨fun i hi => ?_, ⟨xs, l1, r.length⟩, fun i x H2 d hd y => ?_⟩
  · obtain ⟨v, h1, _⟩ := r1.get (List.getElem?_eq_getElem hi)
    exact ⟨xs, v, l1, h1⟩
  · obtain ⟨T, y, rfl, hT, rfl, y1⟩ := y
    obtain ⟨e, he, rfl⟩ := enumKL_get hd
    obtain ⟨v, h1, h2⟩ := r1.get he
    rw [y1 xs l1] at h1
    cases h1
    have rr := Res.tup (K := K) (fr := false) od hT (.cons (.int (k + (i : Nat))) (.cons h2 .nil))
    exact ⟨rr.1, rr.2.1⟩
theorem di_enumK {a b : Expr} {g : En → R En (List D × En)} {p pos tpos : Pos} {elts : List Expr} {kk : Nat} (hg : Gl X "enumerate") (hm : X.mg "enumerate" = none) (ha : DA z X [a, b] g)
    (hs : starEach [a, b] X.env = (false, eval a X.env) :: starEach [b] X.env := by rfl) (hpl : (backTo pos (starEach [b] X.env)).any (·.1) = false := by rfl) :
    DI z X (.Tuple elts kk tpos) (.Call (.Name "enumerate" p) [a, b] [] pos) (fWalk enumKD g) :=
  pi_weak (pi_enumK hg hm ha hs hpl) fun σ H Rr ⟨B, env, I, hp⟩ => ⟨B, env, I, (R.post_bind hp).imp (fun p hp vs H1 I1 m1 a1 => by
    obtain ⟨ds, ed, hd⟩ := ofO_post (R.post_bind hp)
    obtain ⟨l, e'⟩ := p
    replace a1 : AtAll X.K (B.O σ e') H1 vs l := a1
    dsimp only at ed
    unfold enumKD at ed
    split at ed
    · split at ed
      · rename_i hc
        cases ed
        obtain ⟨v, u, rfl, a, b⟩ := a1.two
        obtain ⟨p, ys, rfl, l, r⟩ := a.list_inv
        cases b
        exact ⟨p, ys, _, rfl, hc.1, hc.2, l.1, hd _ H1 I1 m1 (itr_enumK l r)⟩
      · cases ed
    · cases ed) fun _ _ q => q⟩
end
end DL
/-! one sign * an int -/
namespace DL
open PySem PySem.Spec PyProof.Rows L2
section
variable {X : Cx} {z : Z} {K : PySem.W.Frag}
theorem mulOk_one {x : Str} {n : Int} (h1 : x.length = 1) (h2 : 2 ≤ n) (h3 : n ≤ 1000) : MulOk x n := by
  refine ⟨?_, fun _ _ hh => ?_, fun _ _ => ?_⟩
  · rw [decide_eq_false (show ¬ n < -(2 ^ 63) by omega), decide_eq_false (show ¬ n ≥ 2 ^ 63 by omega)]
    rfl
  · have : (1 : Int) ≤ (2 ^ 63 - 1) / n := Int.le_ediv_of_mul_le (by omega) (by omega)
    omega
  · rw [h1]
    refine decide_eq_false ?_
    have := sizeLine_eq
    omega
theorem op_smul : OpR X (binaryOp .Mult) (fun x y H Q => ∃ i n, x = .str i ∧ y = .int n ∧ MulOk i n ∧ Q (.str (Txt.mul i n)) H) := by
  intro pins s σ H x y v u Q I rx ry h
  obtain ⟨i, n, rfl, rfl, hz, q⟩ := h
  obtain ⟨t, rfl⟩ := rx
  obtain ⟨t', rfl⟩ := ry
  exact SB.mul hz (fun t' k => ⟨.str (Txt.mul i n), H, I.tok _, ⟨_, rfl⟩, q⟩)
def smulD : D → D → Option D
  | .str x, .int n => if x.length = 1 ∧ 2 ≤ n ∧ n ≤ 1000 then some (.str (Txt.mul x n)) else none
  | _, _ => none
theorem od_smul : OpD X (binaryOp .Mult) true smulD := by
  refine ⟨_, op_smul, fun O H x y d e w Q od hx hy hw q => ?_⟩
  cases hx with
  | str a =>
    cases hy with
    | int n =>
      simp only [smulD] at hw
      split at hw
      · rename_i hl
        cases hw
        exact ⟨a, n, rfl, rfl, mulOk_one hl.1 hl.2.1 hl.2.2, q _ _ (.flat (.str _) fun _ z => nomatch z)⟩
      · cases hw
    | _ => cases hw
  | _ => cases hw
theorem call_str_none : CallR X (.type "str") (fun xs H Q => xs = [.non] ∧ Q (.str "None") H) := by
  intro pins s σ H xs us Q I r h
  obtain ⟨rfl, q⟩ := h
  obtain ⟨u, rfl, r1⟩ := vals1 r
  cases r1
  exact PySem.P.str_of_none ⟨.str _, H, I.tok _, ⟨_, rfl⟩, q⟩
/-- str() of a number, or of none -/
def strND : List D → Option D
  | [.none] => some (.str "None")
  | ds => strD ds
theorem strND_inv {ds : List D} {w : D} (h : strND ds = some w) : (ds = [.none] ∧ w = .str "None") ∨ ∃ i, ds = [.int i] ∧ i.natAbs.log2 < 1920 ∧ w = .str (toString i) := by
  unfold strND at h
  split at h
  · cases h
    exact .inl ⟨rfl, rfl⟩
  · exact .inr (strD_inv h)
theorem cd_strN : CallD X (.type "str") true strND := by
  refine ⟨_, CallR.or call_str_int call_str_none, fun O H vs ds w Q od ha hw q => ?_⟩
  rcases strND_inv hw with ⟨rfl, rfl⟩ | ⟨i, rfl, hl, rfl⟩
  · obtain ⟨v, rfl, a⟩ := ha.one
    cases a
    exact .inr ⟨rfl, q _ _ (.flat (.str _) fun _ z => nomatch z)⟩
  · obtain ⟨v, rfl, a⟩ := ha.one
    cases a
    exact .inl ⟨i, rfl, hl, q _ _ (.flat (.str _) fun _ z => nomatch z)⟩
end
end DL
/-! list(zip(xs, ys)) of two lists: each pair is a tuple of its own -/
namespace DL
open PySem PySem.Spec PyProof.Rows L2
/-- a zip of two lists that has given out i pairs, all of which are still there -/
def ZSt (h : Heap) (z TI TO i1 i2 l1 l2 S : Addr) (xs ys : Array Value) (i : Nat) : Prop :=
  IsPair h TI (.ref i1) (.ref i2) ∧ h.IsListIter i1 l1 i ∧ h.IsListIter i2 l2 i ∧ h.IsList l1 xs ∧ h.IsList l2 ys ∧
    ((IsZip h z TI TO .none ∧ ∃ a b, IsPair h TO a b) ∨ ∃ T f oT, IsZipHeld h z TI TO T f ∧ h.get? T = some oT ∧ T ≠ z ∧ T ≠ i1 ∧ T ≠ i2 ∧ T ≠ S)
/-- the zip's own objects, and the lists it walks, lie ahead of the list that is made -/
structure ZLow (z TI TO i1 i2 l1 l2 S : Addr) : Prop where
  D : ZipApart z TI TO i1 i2 l1 l2
  z : z < S
  TI : TI < S
  TO : TO < S
  i1 : i1 < S
  i2 : i2 < S
  l1 : l1 < S
  l2 : l2 < S
theorem ZSt.keep {h h' : Heap} {z TI TO i1 i2 l1 l2 S : Addr} {xs ys : Array Value} {i : Nat} (L : ZLow z TI TO i1 i2 l1 l2 S) (x : ZSt h z TI TO i1 i2 l1 l2 S xs ys i) (hk : ∀ b o, b ≠ S → h.get? b = some o → h'.get? b = some o) : ZSt h' z TI TO i1 i2 l1 l2 S xs ys i := by
  obtain ⟨hTI, h1, h2, hl1, hl2, hz⟩ := x
  refine ⟨hk _ _ (Nat.ne_of_lt L.TI) hTI, h1.at fun o e => hk _ o (Nat.ne_of_lt L.i1) e, h2.at fun o e => hk _ o (Nat.ne_of_lt L.i2) e, hl1.at fun o e => hk _ o (Nat.ne_of_lt L.l1) e, hl2.at fun o e => hk _ o (Nat.ne_of_lt L.l2) e, ?_⟩
  rcases hz with ⟨hz, a, b, hTO⟩ | ⟨T, f, oT, hz, hT, r1, r2, r3, r4⟩
  · exact .inl ⟨hk _ _ (Nat.ne_of_lt L.z) hz, a, b, hk _ _ (Nat.ne_of_lt L.TO) hTO⟩
  · exact .inr ⟨T, f, oT, hk _ _ (Nat.ne_of_lt L.z) hz, hk _ _ r4 hT, r1, r2, r3, r4⟩
section
variable {prog : Program} {w : World} {A : Around} {E : Value → Shared → Prop} {s : Shared} {z TI TO i1 i2 l1 l2 S : Addr} {xs ys : Array Value} {i : Nat}
theorem zl_item {x y : Value} {Q : Option Value → Shared → Prop} (L : ZLow z TI TO i1 i2 l1 l2 S) (st : ZSt s.heap z TI TO i1 i2 l1 l2 S xs ys i) (hS : S < s.heap.objs.size) (ex : xs[i]? = some x) (ey : ys[i]? = some y)
    (hQ : ∀ h', ZSt h' z TI TO i1 i2 l1 l2 S xs ys (i + 1) → IsPair h' s.heap.objs.size x y → h'.objs.size = s.heap.objs.size + 1 →
      (∀ c o, c ≠ z → c ≠ TO → c ≠ i1 → c ≠ i2 → s.heap.get? c = some o → h'.get? c = some o) → Q (some (.ref s.heap.objs.size)) { s with heap := h' }) :
    wpAny (model prog w) A (pyNext (.ref z)) Q E s := by
  obtain ⟨hTI, h1, h2, hl1, hl2, hz⟩ := st
  have D := L.D
  have lt : ∀ {c o}, s.heap.get? c = some o → s.heap.objs.size ≠ c := fun e => Nat.ne_of_gt (Heap.lt_size e)
  have n1 : s.heap.objs.size ≠ i1 := let ⟨_, e, _⟩ := h1; lt e
  have n2 : s.heap.objs.size ≠ i2 := let ⟨_, e, _⟩ := h2; lt e
  rcases hz with ⟨hz, a, b, hTO⟩ | ⟨T, f, oT, hz, hT, r1, r2, r3, r4⟩
  · refine wpAny_pyNext_zip_item D hz hTI hTO h1 h2 hl1 hl2 ex ey fun h' a1 a2 a3 a4 a5 a6 hk => ?_
    exact hQ h' ⟨hk _ _ D.TIz D.TITO D.TIi1 D.TIi2 hTI, a3, a4, hl1.at fun o e => hk _ o D.l1z D.l1TO D.l1i1 D.l1i2 e, hl2.at fun o e => hk _ o D.l2z D.l2TO D.l2i1 D.l2i2 e,
      .inr ⟨s.heap.objs.size, false, _, a1, a5, lt hz, n1, n2, Nat.ne_of_gt hS⟩⟩ a5 a6 hk
  · refine wpAny_pyNext_zip_item_held D hz hT hTI h1 h2 hl1 hl2 ex ey fun h' a1 a3 a4 a5 a6 hk => ?_
    exact hQ h' ⟨hk _ _ D.TIz D.TIi1 D.TIi2 hTI, a3, a4, hl1.at fun o e => hk _ o D.l1z D.l1i1 D.l1i2 e, hl2.at fun o e => hk _ o D.l2z D.l2i1 D.l2i2 e,
      .inr ⟨T, true, oT, a1, hk _ _ r1 r2 r3 hT, r1, r2, r3, r4⟩⟩ a5 a6 fun c o c1 _ c3 c4 e => hk c o c1 c3 c4 e
theorem zl_done {Q : Option Value → Shared → Prop} (hh : A.handled = none) (L : ZLow z TI TO i1 i2 l1 l2 S) (st : ZSt s.heap z TI TO i1 i2 l1 l2 S xs ys i) (hend : xs[i]? = none ∨ ys[i]? = none)
    (hQ : ∀ h', (∀ c o, c ≠ z → c ≠ TO → c ≠ i1 → c ≠ i2 → s.heap.get? c = some o → h'.get? c = some o) → Q none { s with heap := h' }) : wpAny (model prog w) A (pyNext (.ref z)) Q E s := by
  obtain ⟨hTI, h1, h2, hl1, hl2, hz⟩ := st
  rcases hz with ⟨hz, a, b, hTO⟩ | ⟨T, f, oT, hz, hT, r1, r2, r3, r4⟩
  · exact wpAny_pyNext_zip_end hh L.D hz hTI hTO h1 h2 hl1 hl2 hend hQ
  · exact wpAny_pyNext_zip_end_held hh L.D hz hT hTI h1 h2 hl1 hl2 hend fun h' hk => hQ h' fun c o c1 _ c3 c4 e => hk c o c1 c3 c4 e
/-- the tuples told so far -/
structure ZG (xs ys : Array Value) (lo : Addr) (h : Heap) (as : List Addr) : Prop where
  rise : as.Pairwise (· < ·)
  above : ∀ a ∈ as, lo < a
  pairs : ∀ (j : Nat) (a : Addr), as[j]? = some a → ∃ x y, xs[j]? = some x ∧ ys[j]? = some y ∧ IsPair h a x y
theorem ZG.there {lo : Addr} {h : Heap} {as : List Addr} (g : ZG xs ys lo h as) {a : Addr} (ha : a ∈ as) : a < h.objs.size := by
  obtain ⟨j, hj⟩ := List.mem_iff_getElem?.mp ha
  obtain ⟨_, _, _, _, e⟩ := g.pairs j a hj
  exact Heap.lt_size e
end
section
variable {prog : Program} {w : World} {A : Around} {E : Value → Shared → Prop} {s : Shared} {R : Result → Shared → Prop} {z TI TO i1 i2 l1 l2 S : Addr} {xs ys : Array Value} {n : Nat}
theorem zl_loop (hh : A.handled = none) (L : ZLow z TI TO i1 i2 l1 l2 S) (hnx : xs.size = n ∨ ys.size = n) (hx : n ≤ xs.size) (hy : n ≤ ys.size) (hn : n ≤ sizeLine) (res : Value) {h₁ : Heap}
    (hR : ∀ h' tk acc c as, (∀ b o, b ≠ S → b ≠ z → b ≠ TO → b ≠ i1 → b ≠ i2 → h₁.get? b = some o → h'.get? b = some o) → h'.get? S = some { cls := .type "list", dict := none, data := .seq acc c, slots := #[] } → as.length = n → ZG xs ys S h' as →
      acc.toList = as.map Value.ref → R (.ok (.ret res)) { s with heap := h', toks := tk }) :
    ∀ (k i : Nat) (h : Heap) (tk c : Nat) (acc : Array Value) (as : List Addr), n - i = k → i ≤ n → ZSt h z TI TO i1 i2 l1 l2 S xs ys i → (∀ b o, b ≠ S → b ≠ z → b ≠ TO → b ≠ i1 → b ≠ i2 → h₁.get? b = some o → h.get? b = some o) →
      h.get? S = some { cls := .type "list", dict := none, data := .seq acc c, slots := #[] } → acc.toList = as.map Value.ref → as.length = i → ZG xs ys S h as →
      codeAny (model prog w) A (.builtin "list.extend.loop" ⟨[.ref S, .ref z, res], []⟩) R { s with heap := h, toks := tk } := by
  have off : ∀ a, S < a → a ≠ z ∧ a ≠ TO ∧ a ≠ i1 ∧ a ≠ i2 := fun a ha => ⟨Nat.ne_of_gt (Nat.lt_trans L.z ha), Nat.ne_of_gt (Nat.lt_trans L.TO ha), Nat.ne_of_gt (Nat.lt_trans L.i1 ha), Nat.ne_of_gt (Nat.lt_trans L.i2 ha)⟩
  intro k
  induction k with
  | zero =>
    intro i h tk c acc as hk hi hst hkeep hS hacc hal hG
    have hin : i = n := by omega
    refine codeAny_builtin PySem.F.entry_extend_loop ?_
    rw [Around.under_plainId PySem.F.plain_extend_loop _]
    show wpAny _ A.in1 (pyNext (.ref z) >>= _) _ _ _
    refine wpAny_bind (zl_done (s := { s with heap := h, toks := tk }) (A := A.in1) hh L hst ?_ fun h' he => ?_)
    · rcases hnx with q | q
      · exact .inl (Array.getElem?_eq_none (by omega))
      · exact .inr (Array.getElem?_eq_none (by omega))
    refine wpAny_pure (hR h' tk acc c as (fun b o h0 h1 h2 h3 h4 e => he b o h1 h2 h3 h4 (hkeep b o h0 h1 h2 h3 h4 e)) (he S _ (Nat.ne_of_gt L.z) (Nat.ne_of_gt L.TO) (Nat.ne_of_gt L.i1) (Nat.ne_of_gt L.i2) hS) (by omega) ⟨hG.rise, hG.above, fun j a hj => ?_⟩ hacc)
    obtain ⟨x, y, e1, e2, e3⟩ := hG.pairs j a hj
    obtain ⟨a1, a2, a3, a4⟩ := off a (hG.above a (List.mem_of_getElem? hj))
    exact ⟨x, y, e1, e2, he a _ a1 a2 a3 a4 e3⟩
  | succ k ih =>
    intro i h tk c acc as hk hi hst hkeep hS hacc hal hG
    have hlt : i < n := by omega
    have ex := Array.getElem?_eq_getElem (show i < xs.size by omega)
    have ey := Array.getElem?_eq_getElem (show i < ys.size by omega)
    have hsz : acc.size = i := by rw [← Array.length_toList, hacc, List.length_map, hal]
    refine codeAny_builtin PySem.F.entry_extend_loop ?_
    rw [Around.under_plainId PySem.F.plain_extend_loop _]
    show wpAny _ A.in1 (pyNext (.ref z) >>= _) _ _ _
    refine wpAny_bind (zl_item (s := { s with heap := h, toks := tk }) L hst (Heap.lt_size hS) ex ey fun h' hst' ht hz hkp => ?_)
    dsimp only at ht hz hkp ⊢
    have hS' := hkp S _ (Nat.ne_of_gt L.z) (Nat.ne_of_gt L.TO) (Nat.ne_of_gt L.i1) (Nat.ne_of_gt L.i2) hS
    have up : ∀ b o, b ≠ S → h'.get? b = some o → (h'.update S (Obj.mapSeq (·.push (Value.ref h.objs.size)))).get? b = some o := fun b o hb e => (Heap.get?_update_other _ _ (Ne.symm hb)).trans e
    have hSl : S < h.objs.size := Heap.lt_size hS
    show wpAny _ A.in1 (updateSeq S (·.push (Value.ref h.objs.size)) >>= _) _ _ _
    refine wpAny_bind ?_
    refine wpAny_updateSeq hS' rfl (wpAny_pure ⟨plainId_quiet PySem.F.plain_extend_loop _, ih (i + 1) _ tk _ (acc.push (Value.ref h.objs.size)) (as ++ [h.objs.size]) (by omega) hlt (hst'.keep L up)
      (fun b o h0 h1 h2 h3 h4 e => up b o h0 (hkp b o h1 h2 h3 h4 (hkeep b o h0 h1 h2 h3 h4 e))) (Heap.get?_update_self _ hS' rfl) (by rw [Array.toList_push, hacc, List.map_append]; rfl) (by rw [List.length_append, hal]; rfl) ⟨?_, ?_, ?_⟩⟩) (by rw [hsz]; omega) (by show (acc.push (Value.ref h.objs.size)).size ≤ sizeLine + 1; rw [Array.size_push, hsz]; omega)
    · refine List.pairwise_append.mpr ⟨hG.rise, List.pairwise_singleton _ _, fun a ha b hb => ?_⟩
      rw [List.mem_singleton.mp hb]
      exact hG.there ha
    · intro a ha
      rcases List.mem_append.mp ha with ha | ha
      · exact hG.above a ha
      · rw [List.mem_singleton.mp ha]; exact hSl
    · intro j b hj
      rcases Nat.lt_trichotomy j as.length with h1 | h1 | h1
      · rw [List.getElem?_append_left h1] at hj
        obtain ⟨x', y', e1, e2, e3⟩ := hG.pairs j b hj
        have hb := hG.above b (List.mem_of_getElem? hj)
        obtain ⟨a1, a2, a3, a4⟩ := off b hb
        exact ⟨x', y', e1, e2, up b _ (Nat.ne_of_gt hb) (hkp b _ a1 a2 a3 a4 e3)⟩
      · subst h1
        have hb : h.objs.size = b := by simpa using hj
        subst hb
        exact ⟨_, _, by rw [hal]; exact ex, by rw [hal]; exact ey, up _ _ (Nat.ne_of_gt hSl) ht⟩
      · have hnone : (as ++ [h.objs.size])[j]? = none := List.getElem?_eq_none (by rw [List.length_append, List.length_singleton]; omega)
        rw [hnone] at hj; cases hj
end
theorem zip_no_len : typeLookup (.type "zip") "__len__" = pure none := by rw [typeLookup_type, builtinLookup_eq_fast]; kernel_rfl
theorem zip_no_hint : typeLookup (.type "zip") "__length_hint__" = pure none := by rw [typeLookup_type, builtinLookup_eq_fast]; kernel_rfl
section
variable {prog : Program} {w : World} {A : Around} {E : Value → Shared → Prop} {s : Shared} {R : Result → Shared → Prop} {z TI TO i1 i2 l1 l2 : Addr} {xs ys : Array Value} {n : Nat}
theorem ZSt.typeIs {S : Addr} {i : Nat} (x : ZSt s.heap z TI TO i1 i2 l1 l2 S xs ys i) : s.TypeIs (.ref z) "zip" := by
  obtain ⟨_, _, _, _, _, hz⟩ := x
  rcases hz with ⟨hz, _⟩ | ⟨_, _, _, hz, _⟩
  · exact ⟨_, hz, rfl⟩
  · exact ⟨_, hz, rfl⟩
theorem zl_extend {S : Addr} (hh : A.handled = none) (hz0 : IsZip s.heap z TI TO .none) (L : ZLow z TI TO i1 i2 l1 l2 S) (st : ZSt s.heap z TI TO i1 i2 l1 l2 S xs ys 0) (hnx : xs.size = n ∨ ys.size = n) (hx : n ≤ xs.size) (hy : n ≤ ys.size) (res : Value) (c₀ : Nat) (hS : s.heap.get? S = some { cls := .type "list", data := .seq #[] c₀ })
    (hR : ∀ h' tk acc c as, (∀ b o, b ≠ S → b ≠ z → b ≠ TO → b ≠ i1 → b ≠ i2 → s.heap.get? b = some o → h'.get? b = some o) → h'.get? S = some { cls := .type "list", dict := none, data := .seq acc c, slots := #[] } → as.length = n → ZG xs ys S h' as →
      acc.toList = as.map Value.ref → R (.ok (.ret res)) { s with heap := h', toks := tk }) (hn : n ≤ sizeLine) :
    wpAny (model prog w) A.in1 (Builtin.List.listExtendWith (.ref S) (.ref z) res)
      (fun fin s' => match fin with | .done f => R (.ok f) s' | .again c' => c'.quiet = true ∧ codeAny (model prog w) A c' R s') (fun e s' => R (.error e) s') s := by
  have hSz : S ≠ z := Nat.ne_of_gt L.z
  have key : ∀ (h : Heap) (c₁ tk : Nat), (∀ b o, b ≠ S → s.heap.get? b = some o → h.get? b = some o) →
      h.get? S = some { cls := .type "list", data := .seq #[] c₁ } → codeAny (model prog w) A (.builtin "list.extend.loop" ⟨[.ref S, .ref z, res], []⟩) R { s with heap := h, toks := tk } := by
    intro h c₁ tk hk hS₁
    exact zl_loop (s := s) (h₁ := s.heap) hh L hnx hx hy hn res hR n 0 h tk c₁ #[] [] (Nat.sub_zero _) (Nat.zero_le _) (st.keep L hk) (fun b o h0 _ _ _ _ e => hk b o h0 e) hS₁ rfl rfl
      ⟨List.Pairwise.nil, (fun _ ha => nomatch ha), (fun j a hj => by simp at hj)⟩
  unfold Builtin.List.listExtendWith
  refine wpAny_bind (wpAny_typeOf (T := "zip") st.typeIs ?_)
  have h1 : Builtin.List.listSameRef (.ref S) (.ref z) = false := by simp [Builtin.List.listSameRef, hSz]
  have h2 : (Value.type "zip" == Value.type "list") = false := by decide
  have h3 : (Value.type "zip" == Value.type "tuple") = false := by decide
  simp only [h1, h2, h3, Bool.or_false, Bool.false_eq_true, if_false]
  refine wpAny_bind (wpAny_pyIter_zip hz0 ?_)
  refine wpAny_bind (wpAny_holding ?_)
  unfold Builtin.List.listLengthHint
  refine wpAny_bind (wpAny_specialOf st.typeIs zip_no_len ?_)
  show wpAny _ A.in1 (specialOf (Value.ref z) (Str.ofString "__length_hint__") >>= _) _ _ _
  refine wpAny_bind (wpAny_specialOf st.typeIs zip_no_hint ?_)
  refine wpAny_pure ?_
  show wpAny _ A.in1 (rule "list.extend.makes-room" >>= fun _ => Builtin.List.listTouch (.ref S) >>= fun _ =>
    again (.builtin "list.extend.loop" ⟨[.ref S, .ref z, res], []⟩)) _ _ _
  refine wpAny_bind (wpAny_rule ?_)
  refine wpAny_bind ?_
  show wpAny _ A.in1 (updateSeq S (·.push .none) >>= fun _ => updateSeq S (·.pop)) _ _ _
  refine wpAny_bind (wpAny_updateSeq hS rfl ?_)
  have hS₂ := Heap.get?_update_self (Obj.mapSeq (·.push Value.none)) hS rfl
  refine wpAny_updateSeq (hz := by seq_fits) hS₂ rfl ?_
  have hS₃ := Heap.get?_update_self (Obj.mapSeq (·.pop)) hS₂ rfl
  refine wpAny_pure ⟨plainId_quiet PySem.F.plain_extend_loop _, key _ _ _ (fun b o hb e => ?_) hS₃⟩
  exact (Heap.get?_update_other _ _ (Ne.symm hb)).trans ((Heap.get?_update_other _ _ (Ne.symm hb)).trans e)
theorem zl_call {Q : Value → Shared → Prop} (hh : A.handled = none) (hz0 : IsZip s.heap z TI TO .none) (L : ZLow z TI TO i1 i2 l1 l2 s.heap.objs.size) (st : ZSt s.heap z TI TO i1 i2 l1 l2 s.heap.objs.size xs ys 0) (hnx : xs.size = n ∨ ys.size = n) (hx : n ≤ xs.size) (hy : n ≤ ys.size) (hn : n ≤ sizeLine)
    (hQ : ∀ h' tk acc c as, (∀ b o, b ≠ z → b ≠ TO → b ≠ i1 → b ≠ i2 → s.heap.get? b = some o → h'.get? b = some o) → h'.get? s.heap.objs.size = some { cls := .type "list", dict := none, data := .seq acc c, slots := #[] } → as.length = n → ZG xs ys s.heap.objs.size h' as →
      acc.toList = as.map Value.ref → Q (.ref s.heap.objs.size) { s with heap := h', toks := tk }) :
    wpAny (model prog w) A (call (.type "list") [.ref z]) Q E s := by
  refine callType_codes (Q₁ := fun obj s₁ => obj = .ref s.heap.objs.size ∧ s₁ = { s with heap := s.heap.push { cls := .type "list", data := .seq #[] } }) PySem.F.called_list (PySem.F.typeCall_list_1 _) PySem.F.entry_list_init
    (code_list_new _ ⟨rfl, rfl⟩) fun obj s₁ h₁ => ?_
  obtain ⟨rfl, rfl⟩ := h₁
  have hS : (s.heap.push { cls := .type "list", data := .seq #[] }).get? s.heap.objs.size = some { cls := .type "list", data := .seq #[] } := Heap.get?_push_size _ rfl
  refine ⟨⟨_, hS, rfl⟩, PySem.F.args_list_init_2 _ _, ?_⟩
  show wpAny _ A.in1.in1 (do let old ← Builtin.List.listItems (.ref s.heap.objs.size); Builtin.List.listUpdate (.ref s.heap.objs.size) (fun _ => #[]); letGo old.toList.reverse; Builtin.List.listExtendWith (.ref s.heap.objs.size) (.ref z) .none) _ _ _
  refine wpAny_bind ?_
  unfold Builtin.List.listItems
  refine wpAny_bind (wpAny_seqItems hS rfl (wpAny_pure ?_))
  show wpAny _ A.in1.in1 (updateSeq s.heap.objs.size (fun _ => #[]) >>= fun _ => letGo (#[] : Array Value).toList.reverse >>= fun _ => Builtin.List.listExtendWith (.ref s.heap.objs.size) (.ref z) .none) _ _ _
  refine wpAny_bind (wpAny_updateSeq hS rfl ?_)
  have hS₂ := Heap.get?_update_self (Obj.mapSeq (fun _ => (#[] : Array Value))) hS rfl
  have oth : ∀ b o, b ≠ s.heap.objs.size → s.heap.get? b = some o → ((s.heap.push { cls := .type "list", data := .seq #[] }).update s.heap.objs.size (Obj.mapSeq (fun _ => (#[] : Array Value)))).get? b = some o :=
    fun b o hb e => (Heap.get?_update_other _ _ (Ne.symm hb)).trans (Heap.get?_push_of_some _ e)
  refine wpAny_bind (wpAny_letGo ?_)
  refine zl_extend (A := A.in1) hh (oth z _ (Nat.ne_of_lt L.z) hz0) L (st.keep L oth) hnx hx hy .none _ hS₂ (fun h' tk acc c as hk hS' hl hG hacc => ?_) hn
  exact ⟨rfl, hQ h' tk acc c as (fun b o c1 c2 c3 c4 e => hk b o (Nat.ne_of_lt (Heap.lt_size e)) c1 c2 c3 c4 (oth b o (Nat.ne_of_lt (Heap.lt_size e)) e)) hS' hl hG hacc⟩
end
def putP : Hp → List Addr → List (V × V) → Hp
  | H, a :: as, p :: ps => putP (upd H a (.tup [p.1, p.2])) as ps
  | H, _, _ => H
theorem putP_off {b : Addr} : ∀ (as : List Addr) (ps : List (V × V)) (H : Hp), b ∉ as → putP H as ps b = H b
  | [], _, _, _ => rfl
  | _ :: _, [], _, _ => rfl
  | a :: as, p :: ps, H, h => by
    show putP (upd H a (.tup [p.1, p.2])) as ps b = H b
    rw [putP_off as ps _ (fun z => h (List.mem_cons_of_mem _ z)), upd_ne (fun z => h (by rw [z]; exact List.mem_cons_self))]
theorem putP_at : ∀ (as : List Addr) (ps : List (V × V)) (H : Hp), as.length = ps.length → as.Nodup → Paired (fun (t : Addr) (p : V × V) => putP H as ps t = some (.tup [p.1, p.2])) as ps
  | [], [], _, _, _ => .nil
  | [], _ :: _, _, h, _ => by cases h
  | _ :: _, [], _, h, _ => by cases h
  | a :: as, p :: ps, H, h, hn => by
    have hn' := List.nodup_cons.mp hn
    have ih := putP_at as ps (upd H a (.tup [p.1, p.2])) (Nat.succ.inj h) hn'.2
    refine .cons ?_ ih
    show putP (upd H a (.tup [p.1, p.2])) as ps a = some (.tup [p.1, p.2])
    rw [putP_off as ps _ hn'.1, upd_same]
theorem zip_laid {X : Cx} {pins : List (Addr × Obj)} {σ : L2.St} {H : Hp} {s : Shared} {h' : Heap} {tk n : Nat} {xsV ysV : List V} {xs ys : List Value} {S : Addr} {acc : Array Value} {c : Nat} {as : List Addr} (I : Inv X pins σ H s) (vx : Vals xsV xs) (vy : Vals ysV ys) (hn : n = min xsV.length ysV.length) (hz : n ≤ sizeLine)
    (hSs : s.heap.objs.size ≤ S) (hk : ∀ b o, s.heap.get? b = some o → h'.get? b = some o) (hS : h'.get? S = some { cls := .type "list", dict := none, data := .seq acc c, slots := #[] }) (hl : as.length = n) (hG : ZG xs.toArray ys.toArray S h' as) (hacc : acc.toList = as.map Value.ref) :
    ∃ H' : Hp, (∀ b o, H b = some o → H' b = some o) ∧ H S = none ∧ (∀ t ∈ as, H t = none) ∧ S ∉ as ∧ H' S = some (.lst (as.map V.ref)) ∧ Paired (fun (t : Addr) (q : V × V) => H' t = some (.tup [q.1, q.2])) as (xsV.zip ysV) ∧ Inv X pins σ H' { s with heap := h', toks := tk } := by
  have hSn : S ∉ as := fun z => Nat.lt_irrefl _ (hG.above _ z)
  have nd : as.Nodup := List.Pairwise.imp (fun {a b} (h : a < b) => Nat.ne_of_lt h) hG.rise
  have new : ∀ t ∈ as, H t = none := fun t ht => I.hok.fresh (Nat.le_of_lt (Nat.lt_of_le_of_lt hSs (hG.above t ht)))
  have newS : H S = none := I.hok.fresh hSs
  have atP := putP_at as (xsV.zip ysV) (upd H S (.lst (as.map V.ref))) (by rw [List.length_zip]; omega) nd
  have off : ∀ b, b ∉ as → b ≠ S → putP (upd H S (.lst (as.map V.ref))) as (xsV.zip ysV) b = H b := fun b h1 h2 => by rw [putP_off as _ _ h1, upd_ne h2]
  have low : ∀ b o, s.heap.get? b = some o → b ∉ as ∧ b ≠ S := fun b o e => ⟨fun z => absurd (Heap.lt_size e) (Nat.not_lt.mpr (Nat.le_of_lt (Nat.lt_of_le_of_lt hSs (hG.above b z)))), Nat.ne_of_lt (Nat.lt_of_lt_of_le (Heap.lt_size e) hSs)⟩
  have kp : ∀ b u, H b = some u → (putP (upd H S (.lst (as.map V.ref))) as (xsV.zip ysV)) b = some u := fun b u e => by
    rw [off b (fun z => by rw [new b z] at e; cases e) (fun z => by rw [z, newS] at e; cases e)]
    exact e
  have eS : putP (upd H S (.lst (as.map V.ref))) as (xsV.zip ysV) S = some (.lst (as.map V.ref)) := by rw [putP_off as _ _ hSn, upd_same]
  refine ⟨putP (upd H S (.lst (as.map V.ref))) as (xsV.zip ysV), kp, newS, new, hSn, eS, atP, ?_⟩
  refine I.call' (ch := []) rfl ⟨fun b o q _ _ _ => hk b o q, fun b o q _ _ _ => ⟨o.slots, hk b o q⟩, fun b o q n _ => ?_, fun b o q _ => ⟨o, hk b o q⟩, fun b xs q => kp b _ q, fun b o u q => kp b _ q, fun b ps q => ⟨#[], by rw [kp b _ q]; simp⟩⟩ (fun b u q => ?_) I.bare fun b z => by simp at z
  · obtain ⟨z1, z2⟩ := low b o q
    rw [off b z1 z2]
    exact n
  · by_cases hb : b ∈ as
    · obtain ⟨j, pk, e1, e2, e3⟩ := LiI.paired_ix atP hb
      rw [e3] at q
      cases q
      obtain ⟨x, y, f1, f2, f3⟩ := hG.pairs j b e1
      rw [List.getElem?_toArray] at f1 f2
      have ez : xsV[j]? = some pk.1 ∧ ysV[j]? = some pk.2 := by
        rw [List.getElem?_zip_eq_some] at e2
        exact e2
      obtain ⟨x', g1, g2⟩ := LiI.paired_get vx ez.1
      obtain ⟨y', g3, g4⟩ := LiI.paired_get vy ez.2
      rw [f1] at g1
      cases g1
      rw [f2] at g3
      cases g3
      exact ⟨by show 2 ≤ sizeLine; decide, [x, y], .cons g2 (.cons g4 .nil), ⟨_, f3, rfl, _, rfl⟩⟩
    · by_cases hb2 : b = S
      · rw [hb2] at q ⊢
        rw [eS] at q
        cases q
        refine ⟨by rw [List.length_map]; omega, acc.toList, c, by rw [hacc]; exact LiI.vals_refs as, ?_⟩
        rw [Array.toArray_toList]
        exact hS
      · rw [off b hb hb2] at q
        exact (I.hok b u q).stay (fun d v _ y => hk d v y) (fun d y => kp d _ y) fun d xs y => kp d _ y
/-- list(zip(xs, ys)) -/
def tListZip (X : Cx) (ta : TA) : TE := fun σ H Q => ta σ H fun vs H1 => ∃ (a b : Addr) (xs ys : List V), vs = [.ref a, .ref b] ∧ SqL X.K H1 a xs ∧ SqL X.K H1 b ys ∧ min xs.length ys.length ≤ sizeLine ∧
  ∀ (H' : Hp) (p : Addr) (ts : List Addr), (∀ b o, H1 b = some o → H' b = some o) → H1 p = none → (∀ t ∈ ts, H1 t = none) → p ∉ ts → H' p = some (.lst (ts.map V.ref)) → Paired (fun (t : Addr) (q : V × V) => H' t = some (.tup [q.1, q.2])) ts (xs.zip ys) → Q (.ref p) H'
theorem pe_listZip {X : Cx} {e e2 : Expr} {ta : TA} {p p2 pos pos2 : Pos} (hc : X.calm = true) (ha : PA X [e, e2] ta) (hg : Gl X "list") (hm : X.mg "list" = none) (hv : bootBuiltins "list" = some (.type "list")) (hg2 : Gl X "zip") (hm2 : X.mg "zip" = none)
    (hs : starEach [.Call (.Name "zip" p2) [e, e2] [] pos2] X.env = (false, eval (.Call (.Name "zip" p2) [e, e2] [] pos2) X.env) :: starEach [] X.env := by rfl)
    (hs2 : starEach [e, e2] X.env = (false, eval e X.env) :: starEach [e2] X.env := by rfl) (hpl : (backTo pos2 (starEach [e2] X.env)).any (·.1) = false := by rfl) :
    PE X (.Call (.Name "list" p) [.Call (.Name "zip" p2) [e, e2] [] pos2] [] pos) (tListZip X ta) := by
  refine ⟨fun pins s σ H Q I hq => ?_⟩
  refine wpAny_Call_Name_kw (ld_blt I hg hm hv ?_)
  refine PyProof.Rows.callWith_type1 ?_ hs rfl
  rw [hs]
  show wpAny _ _ (spliced ((false, eval (.Call (.Name "zip" p2) [e, e2] [] pos2) X.env) :: backTo pos (starEach [] X.env))) _ _ s
  refine Calls.spliced_cons ?_
  refine Call_ (ld_blt I hg2 hm2 PyProof.Rows.boot_zip (PyProof.Rows.callWith_type1 (thn (ha.run pos2 pins s σ H _ I hq) fun us s1 ⟨vs, H1, I1, r1, q1⟩ => ?_) hs2 hpl))
  obtain ⟨a, b, xs, ys, ex, hqx, hqy, hz, q⟩ := q1
  subst ex
  cases r1 with
  | cons r rr =>
    cases rr with
    | cons r' rr =>
      cases rr
      cases r
      cases r'
      obtain ⟨its, rv, p1, _⟩ := I1.list hqx
      obtain ⟨its2, rv2, p2, _⟩ := I1.list hqy
      have la : a < s1.heap.objs.size := p1.lt
      have lb : b < s1.heap.objs.size := p2.lt
      refine call_zip_2 p1.isList p2.isList fun h' hz0 hTI hTO h1 h2 hsz hk => ?_
      have lv : xs.length = its.length := Paired.length rv
      have lv2 : ys.length = its2.length := Paired.length rv2
      have hD : ZipApart (s1.heap.objs.size + 4) (s1.heap.objs.size + 2) (s1.heap.objs.size + 3) s1.heap.objs.size (s1.heap.objs.size + 1) a b := PySem.W.ktu_apart s1.heap.objs.size a b la lb
      refine Calls.spliced_nil ?_
      have L : ZLow (s1.heap.objs.size + 4) (s1.heap.objs.size + 2) (s1.heap.objs.size + 3) s1.heap.objs.size (s1.heap.objs.size + 1) a b h'.objs.size :=
        ⟨hD, by rw [hsz]; exact Nat.lt_succ_self _, by rw [hsz]; exact Nat.add_lt_add_left (by decide) _, by rw [hsz]; exact Nat.add_lt_add_left (by decide) _, by rw [hsz]; exact Nat.lt_add_of_pos_right (by decide), by rw [hsz]; exact Nat.add_lt_add_left (by decide) _, by rw [hsz]; exact Nat.lt_of_lt_of_le la (Nat.le_add_right _ _), by rw [hsz]; exact Nat.lt_of_lt_of_le lb (Nat.le_add_right _ _)⟩
      refine zl_call (s := { s1 with heap := h' }) (xs := its.toArray) (ys := its2.toArray) (n := min xs.length ys.length) (I1.ok.hd hc) hz0 L ⟨hTI, h1, h2, p1.isList.at fun o e => hk _ o e, p2.isList.at fun o e => hk _ o e, .inl ⟨hz0, _, _, hTO⟩⟩
        (by simp only [List.size_toArray]; omega) (by simp only [List.size_toArray]; omega) (by simp only [List.size_toArray]; omega) hz fun h'' tk acc c as hk2 hS hl hG hacc => ?_
      have hk3 : ∀ b o, s1.heap.get? b = some o → h''.get? b = some o := fun b o e => by
        have hb := Heap.lt_size e
        exact hk2 b o (Nat.ne_of_lt (Nat.lt_of_lt_of_le hb (Nat.le_add_right _ _))) (Nat.ne_of_lt (Nat.lt_of_lt_of_le hb (Nat.le_add_right _ _))) (Nat.ne_of_lt hb) (Nat.ne_of_lt (Nat.lt_of_lt_of_le hb (Nat.le_add_right _ _))) (hk b o e)
      obtain ⟨H', k1, k2, k3, k4, k5, k6, J⟩ := zip_laid (tk := tk) I1 rv rv2 rfl hz (by show s1.heap.objs.size ≤ h'.objs.size; rw [hsz]; omega) hk3 hS hl hG hacc
      exact ⟨.ref _, H', J, rfl, q H' _ as k1 k2 k3 k4 k5 k6⟩
theorem atz {K : PySem.W.Frag} {O : Addr → Prop} {H : Hp} : ∀ {ts : List Addr} {xs ys : List V} {ds es : List D}, AtAll K O H xs ds → AtAll K O H ys es → Paired (fun (t : Addr) (q : V × V) => H t = some (.tup [q.1, q.2])) ts (xs.zip ys) → (∀ t ∈ ts, ¬ O t) → AtAll K O H (ts.map V.ref) (zipL ds es)
  | [], _, _, _, _, .nil, _, _, _ => .nil
  | _ :: _, [], _, _, _, .nil, _, pd, _ => by cases pd
  | [], _ :: _, [], _ :: _, _, .cons _ _, .nil, _, _ => .nil
  | _ :: _, _ :: _, [], _ :: _, _, .cons _ _, .nil, pd, _ => by cases pd
  | [], _ :: _, _ :: _, _ :: _, _, .cons _ _, .cons _ _, pd, _ => by cases pd
  | t :: ts, _ :: _, _ :: _, _ :: _, _ :: _, .cons a r, .cons b r', pd, hO => by
    cases pd with
    | cons h pd => exact .cons (.tup ⟨.inl (.inl h), fun z => absurd z (hO t (List.mem_cons_self ..))⟩ (.cons a (.cons b .nil))) (atz r r' pd fun u hu => hO u (List.mem_cons_of_mem _ hu))
/-- list(zip(xs, ys)), as data -/
def lzD : List D → Option D
  | [.list ds, .list es] => if min ds.length es.length ≤ sizeLine then some (.list (zipL ds es)) else none
  | _ => none
section
variable {X : Cx} {z : Z}
theorem de_listZip {a b : Expr} {g : En → R En (List D × En)} {p p2 pos pos2 : Pos} (hc : X.calm = true) (ha : DA z X [a, b] g) (hg : Gl X "list") (hm : X.mg "list" = none) (hv : bootBuiltins "list" = some (.type "list")) (hg2 : Gl X "zip") (hm2 : X.mg "zip" = none)
    (hs : starEach [.Call (.Name "zip" p2) [a, b] [] pos2] X.env = (false, eval (.Call (.Name "zip" p2) [a, b] [] pos2) X.env) :: starEach [] X.env := by rfl)
    (hs2 : starEach [a, b] X.env = (false, eval a X.env) :: starEach [b] X.env := by rfl) (hpl : (backTo pos2 (starEach [b] X.env)).any (·.1) = false := by rfl) :
    DE z X true (.Call (.Name "list" p) [.Call (.Name "zip" p2) [a, b] [] pos2] [] pos) (fCall lzD g) :=
  de_imp (pe_listZip hc ha hg hm hv hg2 hm2 hs hs2 hpl) fun B env σ H Q I hp => ⟨B, env, I, (R.post_bind hp).imp (fun p hp vs H1 I1 m1 a1 => by
    obtain ⟨w, ew, hw⟩ := ofO_post (R.post_bind hp)
    obtain ⟨l, e'⟩ := p
    replace a1 : AtAll X.K (B.O σ e') H1 vs l := a1
    dsimp only at ew
    unfold lzD at ew
    split at ew
    · split at ew
      · rename_i hl
        cases ew
        obtain ⟨v, u, rfl, a, b⟩ := a1.two
        obtain ⟨p, xs, rfl, l, r⟩ := a.list_inv
        obtain ⟨q, ys, rfl, l', r'⟩ := b.list_inv
        have od := I1.od
        refine ⟨p, q, xs, ys, rfl, l.1, l'.1, by rw [r.length, r'.length]; exact hl, fun H' pp ts k1 k2 k3 k4 k5 k6 => ?_⟩
        have hO : ∀ t ∈ ts, ¬ B.O σ e' t := fun t ht => od t (k3 t ht)
        have mx : Mv (B.O σ e') (B.O σ e') H1 H' := Mv.ex k1
        have mp : Mv (B.O σ e') (plus (B.O σ e') pp) H1 H' := ⟨fun a o x _ => k1 a o x, fun a z => z.elim .inl fun w => .inr (w ▸ k2), Ex.dom k1⟩
        refine EP1.give hw I1 m1 ⟨k1, .lst ⟨.inl (.inl k5), fun z => absurd z (od pp k2)⟩ (atz (AtAll.mv mx r) (AtAll.mv mx r') k6 hO), fun _ ds' e => ?_⟩
        cases e
        exact ⟨pp, ts.map V.ref, rfl, k2, k5, atz (AtAll.mv mp r) (AtAll.mv mp r') k6 fun t ht z => z.elim (hO t ht) fun w => k4 (w ▸ ht)⟩
      · cases ew
    · cases ew) fun _ _ q => q⟩
end
end DL
/-! values whose lists are all new and no two of them one -/
namespace DL
open PySem PySem.Spec PyProof.Rows L2
mutual
/-- v stands for d; as: the lists in it, in order; none of them may be changed by others -/
inductive Tr (K : PySem.W.Frag) (O : Addr → Prop) (H : Hp) : V → D → List Addr → Prop
  | non : Tr K O H .non .none []
  | bl (b : Bool) : Tr K O H (.bl b) (.bool b) []
  | int (i : Int) : Tr K O H (.int i) (.int i) []
  | str (x : Str) : Tr K O H (.str x) (.str x) []
  | lst {a : Addr} {xs : List V} {ds : List D} {as : List Addr} : H a = some (.lst xs) → ¬ O a → TrAll K O H xs ds as → Tr K O H (.ref a) (.list ds) (a :: as)
  | tup {a : Addr} {xs : List V} {ds : List D} {as : List Addr} : LT K O H a xs → TrAll K O H xs ds as → Tr K O H (.ref a) (.tuple ds) as
inductive TrAll (K : PySem.W.Frag) (O : Addr → Prop) (H : Hp) : List V → List D → List Addr → Prop
  | nil : TrAll K O H [] [] []
  | cons {v : V} {vs : List V} {d : D} {ds : List D} {as bs : List Addr} : Tr K O H v d as → TrAll K O H vs ds bs → TrAll K O H (v :: vs) (d :: ds) (as ++ bs)
end
section
variable {K : PySem.W.Frag} {O O' : Addr → Prop} {H H' : Hp}
mutual
theorem Tr.mv (m : Mv O O' H H') : ∀ {v : V} {d : D} {as : List Addr}, Tr K O H v d as → Tr K O' H' v d as
  | _, _, _, .non => .non
  | _, _, _, .bl b => .bl b
  | _, _, _, .int i => .int i
  | _, _, _, .str x => .str x
  | _, _, _, .lst h n r => .lst (m.keep _ _ h n) (fun w => (m.own _ w).elim n fun q => by rw [q] at h; cases h) (TrAll.mv m r)
  | _, _, _, .tup l r => .tup (l.mv m) (TrAll.mv m r)
theorem TrAll.mv (m : Mv O O' H H') : ∀ {vs : List V} {ds : List D} {as : List Addr}, TrAll K O H vs ds as → TrAll K O' H' vs ds as
  | _, _, _, .nil => .nil
  | _, _, _, .cons h r => .cons (Tr.mv m h) (TrAll.mv m r)
end
mutual
/-- data without a list in it -/
def noLst : D → Bool
  | .list _ => false
  | .dict _ => false
  | .tuple ds => noLstAll ds
  | _ => true
def noLstAll : List D → Bool
  | [] => true
  | d :: ds => noLst d && noLstAll ds
end
mutual
theorem At.tr : ∀ {v : V} {d : D}, At K O H v d → noLst d = true → Tr K O H v d []
  | _, _, .non, _ => .non
  | _, _, .bl b, _ => .bl b
  | _, _, .int i, _ => .int i
  | _, _, .str x, _ => .str x
  | _, _, .tup l r, h => .tup l (AtAll.tr r (by simpa only [noLst] using h))
  | _, _, .lst _ _, h => by simp only [noLst] at h; cases h
  | _, _, .exc _ _ _, h => by simp only [noLst] at h; cases h
  | _, _, .excP _ _ _ _ _, h => by simp only [noLst] at h; cases h
theorem AtAll.tr : ∀ {vs : List V} {ds : List D}, AtAll K O H vs ds → noLstAll ds = true → TrAll K O H vs ds []
  | _, _, .nil, _ => .nil
  | _, _, .cons a r, h => by
    simp only [noLstAll, Bool.and_eq_true] at h
    exact .cons (At.tr a h.1) (AtAll.tr r h.2)
end
mutual
theorem Tr.there : ∀ {v : V} {d : D} {as : List Addr}, Tr K O H v d as → ∀ a ∈ as, (∃ xs, H a = some (.lst xs)) ∧ ¬ O a
  | _, _, _, .non, a, h => by cases h
  | _, _, _, .bl _, a, h => by cases h
  | _, _, _, .int _, a, h => by cases h
  | _, _, _, .str _, a, h => by cases h
  | _, _, _, .lst e n r, a, h => by
    rcases List.mem_cons.mp h with rfl | h
    · exact ⟨⟨_, e⟩, n⟩
    · exact TrAll.there r a h
  | _, _, _, .tup _ r, a, h => TrAll.there r a h
theorem TrAll.there : ∀ {vs : List V} {ds : List D} {as : List Addr}, TrAll K O H vs ds as → ∀ a ∈ as, (∃ xs, H a = some (.lst xs)) ∧ ¬ O a
  | _, _, _, .nil, a, h => by cases h
  | _, _, _, .cons x r, a, h => by
    rcases List.mem_append.mp h with h | h
    · exact Tr.there x a h
    · exact TrAll.there r a h
end
end
/-! how deep, how great data is -/
mutual
def dep : D → Nat
  | .list ds => depAll ds + 1
  | .tuple ds => depAll ds + 1
  | _ => 0
def depAll : List D → Nat
  | [] => 0
  | d :: ds => max (dep d) (depAll ds)
end
mutual
def wt : D → Nat
  | .list ds => wtAll ds + 1
  | .tuple ds => wtAll ds + 1
  | _ => 0
def wtAll : List D → Nat
  | [] => 0
  | d :: ds => wt d + wtAll ds + 1
end
/-- all lists in v are new since H0, no two are one; its depth, its size -/
def TreeT (K : PySem.W.Frag) (n m : Nat) : Hp → (Addr → Prop) → V → Hp → D → Prop := fun H0 O v H _ => ∃ d as, Tr K O H v d as ∧ as.Nodup ∧ (∀ a ∈ as, H0 a = none) ∧ dep d ≤ n ∧ wt d ≤ m
theorem TreeT.le {K : PySem.W.Frag} {n m n' m' : Nat} {H0 : Hp} {O : Addr → Prop} {v : V} {H : Hp} {d d2 : D} (h : TreeT K n m H0 O v H d) (hn : n ≤ n') (hm : m ≤ m') : TreeT K n' m' H0 O v H d2 := by
  obtain ⟨d, as, h1, h2, h3, h4, h5⟩ := h
  exact ⟨d, as, h1, h2, h3, Nat.le_trans h4 hn, Nat.le_trans h5 hm⟩
/-- a def that hands back such a value -/
def HasT (P : Program) (w : World) (K : PySem.W.Frag) (mg : Str → Option Value) (base : Heap) (ca : Str → Addr) (x : Str) (k : Nat) (ps : List Str) (np : List Nat) (fr : Bool) (F : FD) (a b : Nat) : Prop :=
  ∃ (f : Addr) (fd : FuncData), mg x = some (.ref f) ∧ PySem.W.keepIn K (.ref f) = true ∧ L2.Binds K fd ps [] ∧ FnG P w K mg base k f fd ps (spDT K ca np fr (TreeT K a b) F) ∧ Lk K f fd
theorem HasT.has {P : Program} {w : World} {K : PySem.W.Frag} {mg : Str → Option Value} {base : Heap} {ca : Str → Addr} {x : Str} {k : Nat} {ps : List Str} {np : List Nat} {fr : Bool} {F : FD} {a b : Nat} (h : HasT P w K mg base ca x k ps np fr F a b) : Has P w K mg base ca x k ps np fr F := by
  obtain ⟨f, fd, h1, h2, h3, h4, h5⟩ := h
  exact ⟨f, fd, h1, h2, h3, h4.weak fun _ _ _ _ q => spDT_of q, h5⟩
theorem Stands.hasT {P : Program} {w : World} {K : PySem.W.Frag} {mg : Str → Option Value} {base : Heap} {ca : Str → Addr} {x : Str} {st : Stmt} {N ps : List Str} {k : Nat} {np : List Nat} {fr : Bool} {g : SF} {n a b : Nat} (S : Stands K mg x st ps) (sc : FnScope N ps (defScope st)) (hps : ps.length ≤ N.length) (hn : N.length = n)
    (hbody : ∀ (f : Addr) (cdv : Value) (A : Around) (outer : List Env) (s : Shared) (H : Hp) (E : XK), Room k (A.deeper (envOfC x (defScope st) s.heap.objs.size f cdv)) → A.guards = some [] →
      DSs ⟨ca, np, fun c d _ H => E c d H, TreeT K a b⟩ (cxOf (L2.CX P w) P w K mg base N x (defScope st) f cdv A outer s H E) fr (defBody st) g) :
    HasT P w K mg base ca x (k + 1) ps np fr (runD n g) a b := by
  obtain ⟨f, fd, h1, h2, h3⟩ := S
  subst hn
  exact ⟨f, fd, h1, h2.kp, h3, fun_okT (T := TreeT K a b) h2 sc hps (fun _ _ _ => ⟨.none, [], .non, List.nodup_nil, (fun _ h => by cases h), Nat.zero_le _, Nat.zero_le _⟩) fun cdv A outer s H E => hbody f cdv A outer s H E, lk_of h2⟩
end DL
/-! expressions and returns whose lists are all new -/
namespace DL
open PySem PySem.Spec PyProof.Rows L2
section
variable {K : PySem.W.Frag} {O O' : Addr → Prop} {H H' : Hp}
mutual
theorem Tr.at : ∀ {v : V} {d : D} {as : List Addr}, Tr K O H v d as → At K O H v d
  | _, _, _, .non => .non
  | _, _, _, .bl b => .bl b
  | _, _, _, .int i => .int i
  | _, _, _, .str x => .str x
  | _, _, _, .lst e n r => .lst ⟨.inl (.inl e), fun w => absurd w n⟩ (TrAll.at r)
  | _, _, _, .tup l r => .tup l (TrAll.at r)
theorem TrAll.at : ∀ {vs : List V} {ds : List D} {as : List Addr}, TrAll K O H vs ds as → AtAll K O H vs ds
  | _, _, _, .nil => .nil
  | _, _, _, .cons h r => .cons (Tr.at h) (TrAll.at r)
end
end
def tET (K : PySem.W.Frag) (z : Z) (n m : Nat) (f : EF) : TE := fun σ H Q => ∃ (B : Bs) (env : En), SR K z.np B σ H env ∧
  (f env).post (fun p => ∀ v H', SR K z.np B σ H' p.2 → Mv (B.O σ env) (B.O σ p.2) H H' → At K (B.O σ p.2) H' v p.1 → TreeT K n m H (B.O σ p.2) v H' p.1 → Q v H') (XP K z B σ H env)
def tAT (K : PySem.W.Frag) (z : Z) (n m : Nat) (f : En → R En (List D × En)) : TA := fun σ H Q => ∃ (B : Bs) (env : En), SR K z.np B σ H env ∧
  (f env).post (fun p => ∀ vs H', SR K z.np B σ H' p.2 → Mv (B.O σ env) (B.O σ p.2) H H' → AtAll K (B.O σ p.2) H' vs p.1 → (∃ ds as, TrAll K (B.O σ p.2) H' vs ds as ∧ as.Nodup ∧ (∀ a ∈ as, H a = none) ∧ depAll ds ≤ n ∧ wtAll ds ≤ m) → Q vs H') (XP K z B σ H env)
abbrev DET (n m : Nat) (z : Z) (X : Cx) (e : Expr) (f : EF) : Prop := PE X e (tET X.K z n m f)
abbrev DAT (n m : Nat) (z : Z) (X : Cx) (es : List Expr) (f : En → R En (List D × En)) : Prop := PA X es (tAT X.K z n m f)
section
variable {X : Cx} {z : Z} {e : Expr} {es : List Expr} {n m n' m' : Nat}
theorem det_imp {f : EF} {t : TE} (h : PE X e t) (i : ∀ (B : Bs) (env : En) (σ : Sg) (H : Hp) (Q : VK), SR X.K z.np B σ H env →
    (f env).post (fun p => ∀ v H', SR X.K z.np B σ H' p.2 → Mv (B.O σ env) (B.O σ p.2) H H' → At X.K (B.O σ p.2) H' v p.1 → TreeT X.K n m H (B.O σ p.2) v H' p.1 → Q v H') (XP X.K z B σ H env) → t σ H Q) : DET n m z X e f :=
  pe_weak h fun σ H Q ⟨B, env, I, p⟩ => i B env σ H Q I p
theorem det_le {f : EF} (h : DET n' m' z X e f) (hn : n' ≤ n := by decide) (hm : m' ≤ m := by decide) : DET n m z X e f :=
  det_imp h fun B env σ H Q I p => ⟨B, env, I, p.imp (fun _ q v H' I' mm a t => q v H' I' mm a (t.le hn hm)) fun _ _ q => q⟩
/-- data without lists -/
def flatOk (d : D) : Bool := noLst d && decide (dep d ≤ 3) && decide (wt d ≤ 1048576)
def fFlat (f : EF) : EF := fun env => (f env).bind fun p => if flatOk p.1 = true then .ok p else .stuck
theorem det_flat {fr : Bool} {f : EF} (h : DE z X fr e f) (hn : 3 ≤ n := by decide) (hm : 1048576 ≤ m := by decide) : DET n m z X e (fFlat f) := det_imp h fun B env σ H Q I hp => ⟨B, env, I, (R.post_bind hp).imp (fun p hp v H1 I1 m1 a1 _ => by
    split at hp
    · rename_i hk
      simp only [flatOk, Bool.and_eq_true, decide_eq_true_eq] at hk
      exact hp v H1 I1 m1 a1 ⟨p.1, [], a1.tr hk.1.1, List.nodup_nil, (fun _ h => by cases h), Nat.le_trans hk.1.2 hn, Nat.le_trans hk.2 hm⟩
    · exact hp.elim) fun _ _ q => q⟩
theorem TreeT.newer {K : PySem.W.Frag} {O O1 : Addr → Prop} {H H1 H' : Hp} {v : V} {d : D} {O2 O3 : Addr → Prop} (m1 : Mv O2 O3 H H1) (h : TreeT K n m H1 O v H' d) : TreeT K n m H O v H' d := by
  obtain ⟨d, as, h1, h2, h3, h4⟩ := h
  exact ⟨d, as, h1, h2, fun a q => m1.dom a (h3 a q), h4⟩
theorem det_if {c : Expr} {pos : Pos} {t : En → R En (Bool × En)} {f g : EF} {a b : Expr} (hc : DT z X c t) (ha : DET n m z X a f) (hb : DET n m z X b g) : DET n m z X (.IfExp c a b pos) (fIf t f g) := by
  refine det_imp (pe_ifExp hc ha hb) fun B env σ H Q I hp => ⟨B, env, I, (R.post_bind hp).imp (fun p hp H1 I1 m1 => ?_) fun _ _ q => q⟩
  obtain ⟨k, e⟩ := p
  cases k with
  | true => exact ⟨B, e, I1, R.post.imp hp (fun q hq v H' I' m' a' t' => hq v H' I' (m1.trans m') a' (t'.newer (O1 := fun _ => False) m1)) fun _ _ q => q.step m1⟩
  | false => exact ⟨B, e, I1, R.post.imp hp (fun q hq v H' I' m' a' t' => hq v H' I' (m1.trans m') a' (t'.newer (O1 := fun _ => False) m1)) fun _ _ q => q.step m1⟩
theorem dat_nil : DAT n m z X [] (fun env => .ok ([], env)) := ⟨fun pos pins s σ H Q I ⟨B, env, J, p⟩ => pa_nil.run pos pins s σ H Q I (p [] H J .refl .nil ⟨[], [], .nil, List.nodup_nil, (fun _ h => by cases h), Nat.zero_le _, Nat.zero_le _⟩)⟩
theorem dat_cons {f : EF} {g : En → R En (List D × En)} {k : Nat} (ha : DET n m z X e f) (hr : DAT n m' z X es g) (hk : m + m' + 1 ≤ k := by decide) (hs : starEach (e :: es) X.env = (false, eval e X.env) :: starEach es X.env := by rfl) : DAT n k z X (e :: es) (fCons f g) :=
  pa_weak (pa_cons ha hr hs) fun σ H Q ⟨B, env, I, hp⟩ => ⟨B, env, I, (R.post_bind hp).imp (fun p hp v H1 I1 m1 a1 ⟨d, as, t1, n1, w1, d1, s1⟩ =>
    ⟨B, p.2, I1, (R.post_bind hp).imp (fun q hq vs H2 I2 m2 a2 ⟨ds, bs, t2, n2, w2, d2, s2⟩ => hq (v :: vs) H2 I2 (m1.trans m2) (.cons (a1.mv m2) a2) ⟨d :: ds, as ++ bs, .cons (t1.mv m2) t2, List.nodup_append.mpr ⟨n1, n2, fun a ha b hb q => by
        subst q
        obtain ⟨⟨xs, h⟩, _⟩ := t1.there a ha
        rw [w2 a hb] at h
        cases h⟩, (fun a ha => (List.mem_append.mp ha).elim (w1 a) fun hb => m1.dom a (w2 a hb)), by simp only [depAll]; omega, by simp only [wtAll]; omega⟩) fun _ _ q => q.step m1⟩) fun _ _ q => q⟩
theorem det_tup {x1 : _} {pos : Pos} {g : En → R En (List D × En)} (h : DAT n m z X es g) (hn : n + 1 ≤ n' := by decide) (hm : m + 1 ≤ m' := by decide) : DET n' m' z X (.Tuple es x1 pos) (fTup g) :=
  det_imp (pe_tup h) fun B env σ H Q I hp => ⟨B, env, I, (R.post_bind hp).imp (fun p hp vs H1 I1 m1 a1 ⟨ds, as, t1, n1, w1, d1, s1⟩ => by
    split at hp
    · rename_i hl
      refine ⟨by rw [a1.length]; exact hl, fun q hq => ?_⟩
      have ex : Ex H1 (upd H1 q (.tup vs)) := Ex.new hq
      have nO : ¬ B.O σ p.2 q := I1.od q hq
      exact hp (.ref q) _ (I1.ex ex) (m1.trans (Mv.ex ex)) (.tup ⟨.inl (.inl upd_same), fun w => absurd w nO⟩ (a1.mv (Mv.ex ex))) ⟨.tuple ds, as, .tup ⟨.inl (.inl upd_same), fun w => absurd w nO⟩ (t1.mv (Mv.ex ex)), n1, w1, by simp only [dep]; omega, by simp only [wt]; omega⟩
    · exact hp.elim) fun _ _ q => q⟩
/-- what is handed back is no list, and its lists are new -/
def sRetT (f : EF) : SF := fun env => (f env).bind fun p => match p.1 with
  | .list _ => .stuck
  | d => .ok (.rt d p.2)
theorem ds_retT {fr : Bool} {f : EF} {pos : Pos} (hz : z.rt = TreeT X.K n m) (he : DET n m z X e f) : DS z X fr (.Return (some e) pos) (sRetT f) :=
  ds_imp (ps_ret he) fun B env σ H Dd I p => ⟨B, env, I, (R.post_bind p).imp (fun p hp v H1 I1 m1 a1 ⟨d2, as, t, nd, w, h4⟩ => by
    obtain ⟨d, e1⟩ := p
    have rt : z.rt B.H0 B.Op v H1 d := by
      rw [hz]
      exact ⟨d2, as, t.mv (Mv.less I1.op), nd, fun a ha => I.dom a (w a ha), h4⟩
    have at1 := a1.mv (Mv.less I1.op)
    cases d with
    | list ds => exact hp.elim
    | _ => exact hp v σ H1 I1 m1 ⟨at1, fun _ ds e => nomatch e⟩ rt) fun _ _ q => q.xp⟩
theorem det_callH {N j k : Nat} {ps : List Str} {x : Str} {p pos : Pos} {np' : List Nat} {fr : Bool} {F : FD} {g : En → R En (List PArg × En)} (h : HasT X.prog X.w X.K X.mg X.base z.ca x j ps np' fr F n m) (hr : Room k X.A) (hj : j ≤ k) (hgd : X.A.guards = some []) (hg : Gl X x) (hn : ps.length = N)
    (tk : Takes X z.W) (ha : DC z X (e :: es) g) (hdb : (x == ("__debug__" : Str)) = false := by decide) (he : starEach (e :: es) X.env = (false, eval e X.env) :: starEach es X.env := by rfl) (hpl : (backTo pos (starEach es X.env)).any (·.1) = false := by rfl) :
    DET n m z X (.Call (.Name x p) (e :: es) [] pos) (fCallF N np' F g) := by
  obtain ⟨f, fd, h1, h2, h3, h4, _⟩ := h
  subst hn
  refine det_imp (pe_callG (h4.mono hj) hr hgd hg h1 h2 h3 (fun σ => passAt tk σ) ha hdb he hpl) fun B env σ H Q I hp => ?_
  refine ⟨B, env, I, (R.post_bind hp).imp (fun p hp vs H1 I1 m1 pa => ?_) fun _ _ q => q⟩
  obtain ⟨as, e1⟩ := p
  dsimp only at hp I1 m1 pa
  split at hp
  · rename_i es hres
    split at hp
    · rename_i hc
      obtain ⟨hlen, hnd, hnp⟩ := hc
      refine ⟨by rw [pa.length]; exact hlen, es, B.O σ e1, args_ok I1 hres hnd pa hnp, ?_⟩
      cases hF : F es with
      | stuck => rw [hF] at hp; exact hp
      | ok q =>
        obtain ⟨d, es'⟩ := q
        rw [hF] at hp
        intro v H' hcall ⟨d2, ls, t, nd, nw, h4⟩
        obtain ⟨hk1, hk2, hk3⟩ := hcall
        obtain ⟨I2, m2, eO⟩ := I1.called hres hnd pa hk1
        exact hp v H' I2 (m1.trans m2) (hk2.mv (Mv.less fun a => (eO a).1)) ⟨d2, ls, t.mv (Mv.less fun a => (eO a).1), nd, (fun a ha => m1.dom a (nw a ha)), h4⟩
      | err x es' =>
        rw [hF] at hp
        intro cls dp H' hk1 hx
        obtain ⟨I2, m2, eO⟩ := I1.called hres hnd pa hk1
        exact hp cls dp H' I2 (m1.trans m2) (hx.mv fun a => (eO a).1)
    · exact hp.elim
  · exact hp.elim
/-- two own lists and a plain part are handed back in a tuple -/
def sRetOO (i j : Nat) (f : EF) : SF := fun env => match env[i]?, env[j]? with
  | some (some (.ow _)), some (some (.ow _)) => (f env).bind fun p => match p.2[i]?, p.2[j]? with
    | some (some (.ow ds)), some (some (.ow es)) => if (noLstAll ds && noLstAll es && noLst p.1 && decide (dep (.tuple [.list ds, .list es, p.1]) ≤ 3) && decide (wt (.tuple [.list ds, .list es, p.1]) ≤ 1048576)) = true then .ok (.rt (.tuple [.list ds, .list es, p.1]) p.2) else .stuck
    | _, _ => .stuck
  | _, _ => .stuck
theorem ds_retOO {fr fa : Bool} {f : EF} {i j : Nat} {a b c : Expr} {x1 : _} {tpos pos : Pos} (hz : z.rt = TreeT X.K n m) (ha : PE X a (tVar i)) (hb : PE X b (tVar j)) (hc : DE z X fa c f) (hij : i ≠ j) (hi : i ∉ z.np) (hj : j ∉ z.np) (hn : 3 ≤ n := by decide) (hm : 1048576 ≤ m := by decide)
    (hs1 : starEach [a, b, c] X.env = (false, eval a X.env) :: starEach [b, c] X.env := by rfl) (hs2 : starEach [b, c] X.env = (false, eval b X.env) :: starEach [c] X.env := by rfl) (hs3 : starEach [c] X.env = (false, eval c X.env) :: starEach [] X.env := by rfl) :
    DS z X fr (.Return (some (.Tuple [a, b, c] x1 tpos)) pos) (sRetOO i j f) := by
  refine ds_imp (ps_ret (pe_tup (pa_cons ha (pa_cons hb (pa_cons hc pa_nil hs3) hs2) hs1))) fun B env σ H Dd I p => ?_
  unfold sRetOO at p
  split at p
  · rename_i ds0 es0 he1 he2
    obtain ⟨a1, xs1, e1, _⟩ := I.ow he1
    obtain ⟨a2, xs2, e2, _⟩ := I.ow he2
    refine ⟨_, e1, _, e2, B, env, I, (R.post_bind p).imp (fun q hq v H1 I1 m1 av _ => ?_) fun _ _ q => q.xp⟩
    obtain ⟨d, e'⟩ := q
    dsimp only at hq I1 m1 av
    split at hq
    · rename_i ds es he3 he4
      split at hq
      · rename_i hk
        simp only [Bool.and_eq_true, decide_eq_true_eq] at hk
        obtain ⟨⟨⟨⟨k1, k2⟩, k3⟩, k4⟩, k5⟩ := hk
        obtain ⟨b1, ys1, e3, hO1, hH1, r1⟩ := I1.ow he3
        obtain ⟨b2, ys2, e4, hO2, hH2, r2⟩ := I1.ow he4
        rw [e1] at e3; cases e3
        rw [e2] at e4; cases e4
        have o1 : ownedAt σ e' i a1 := ⟨_, he3, rfl, e1⟩
        have o2 : ownedAt σ e' j a2 := ⟨_, he4, rfl, e2⟩
        have nps : ∀ {k a}, k ∉ z.np → ownedAt σ e' k a → ∀ p ∈ B.ps, p.2 ≠ a := fun {k a} hk o p hp q => by
          obtain ⟨h1, _, h3⟩ := I1.par p hp
          rw [q] at h1
          exact hk (I1.dist _ _ a h1 o ▸ h3)
        have nOp : ∀ {k a}, k ∉ z.np → ownedAt σ e' k a → ¬ B.Op a := fun {k a} hk o w => w.elim (I1.own0 k a o) fun ⟨p, hp, q⟩ => nps hk o p hp q
        have new0 : ∀ {k a}, k ∉ z.np → ownedAt σ e' k a → B.H0 a = none := fun {k a} hk o => by
          rcases I1.new k a o with q | q
          · exact absurd rfl (nps hk o _ q)
          · exact q
        refine ⟨show 3 ≤ sizeLine by decide, fun q hq0 => ?_⟩
        have ex : Ex H1 (upd H1 q (.tup [.ref a1, .ref a2, v])) := Ex.new hq0
        have nOq : ¬ B.Op q := fun w => I1.od q hq0 (I1.op q w)
        have mv : Mv (B.O σ e') B.Op H1 (upd H1 q (.tup [.ref a1, .ref a2, v])) := (Mv.less I1.op).trans (Mv.ex ex)
        have l1 : (upd H1 q (.tup [.ref a1, .ref a2, v])) a1 = some (.lst ys1) := ex _ _ hH1
        have l2 : (upd H1 q (.tup [.ref a1, .ref a2, v])) a2 = some (.lst ys2) := ex _ _ hH2
        have tr : Tr X.K B.Op (upd H1 q (.tup [.ref a1, .ref a2, v])) (.ref q) (.tuple [.list ds, .list es, d]) ((a1 :: []) ++ ((a2 :: []) ++ ([] ++ []))) :=
          .tup ⟨.inl (.inl upd_same), fun w => absurd w nOq⟩ (.cons (.lst l1 (nOp hi o1) ((r1.mv mv).tr k1)) (.cons (.lst l2 (nOp hj o2) ((r2.mv mv).tr k2)) (.cons ((av.mv mv).tr k3) .nil)))
        refine hq (.ref q) σ _ (I1.ex ex) (m1.trans (Mv.ex ex)) ⟨tr.at, fun _ ds e => nomatch e⟩ ?_
        rw [hz]
        refine ⟨_, _, tr, ?_, ?_, Nat.le_trans k4 hn, Nat.le_trans k5 hm⟩
        · simp only [List.cons_append, List.nil_append, List.append_nil, List.nodup_cons, List.mem_singleton, List.not_mem_nil, not_false_iff, List.nodup_nil, and_true]
          exact fun w => hij (I1.dist i j a1 o1 (w ▸ o2))
        · intro a ha
          simp only [List.cons_append, List.nil_append, List.append_nil, List.mem_cons, List.not_mem_nil, or_false] at ha
          rcases ha with rfl | rfl
          · exact new0 hi o1
          · exact new0 hj o2
      · exact hq.elim
    · exact hq.elim
  · exact p.elim
end
end DL
/-! a name that holds a value whose lists are all new -/
namespace DL
open PySem PySem.Spec PyProof.Rows L2
def Bs.fixv (B : Bs) (j : Nat) (v : V) : Bs := ⟨B.O0, B.H0, B.ps, B.kp, (j, v) :: B.fx⟩
section
variable {K : PySem.W.Frag} {np : List Nat} {B : Bs} {σ : Sg} {H : Hp} {env : En}
theorem SR.fixv (I : SR K np B σ H env) {j : Nat} {v : V} (hv : σ[j]? = some (some v)) : SR K (j :: np) (B.fixv j v) σ H env where
  len := I.len
  slot := I.slot
  dist := I.dist
  keep := I.keep
  dom := I.dom
  new := I.new
  o0 := I.o0
  kept := I.kept
  kpo := I.kpo
  own0 := I.own0
  par := fun p hp => let ⟨h1, h2, h3⟩ := I.par p hp; ⟨h1, h2, List.mem_cons_of_mem _ h3⟩
  fix := fun p hp => by
    rcases List.mem_cons.mp hp with rfl | hp
    · exact ⟨hv, List.mem_cons_self ..⟩
    · obtain ⟨h1, h2⟩ := I.fix p hp
      exact ⟨h1, List.mem_cons_of_mem _ h2⟩
theorem SR.unfixv {j : Nat} {v : V} (hp : ∀ p ∈ B.ps, p.1 ∈ np) (hf : ∀ p ∈ B.fx, p.1 ∈ np) (I : SR K (j :: np) (B.fixv j v) σ H env) : SR K np B σ H env where
  len := I.len
  slot := I.slot
  dist := I.dist
  keep := I.keep
  dom := I.dom
  new := I.new
  o0 := I.o0
  kept := I.kept
  kpo := I.kpo
  own0 := I.own0
  par := fun p q => let ⟨h1, h2, _⟩ := I.par p q; ⟨h1, h2, hp p q⟩
  fix := fun p q => ⟨(I.fix p (List.mem_cons_of_mem _ q)).1, hf p q⟩
end
def Z.at (z : Z) (j : Nat) : Z := ⟨z.ca, j :: z.np, z.W, z.rt⟩
/-- what is known of the name's value, since the state before -/
structure MOk (K : PySem.W.Frag) (n m : Nat) (z : Z) (B : Bs) (σ0 : Sg) (H0 : Hp) (env0 : En) (σ : Sg) (H : Hp) (env : En) (v : V) (d : D) (as : List Addr) : Prop where
  tr : Tr K (B.O σ env) H v d as
  nd : as.Nodup
  dp : dep d ≤ n
  sz : wt d ≤ m
  nw : ∀ a ∈ as, H0 a = none
  nb : ∀ a ∈ as, B.H0 a = none
  nk : ∀ a ∈ as, B.kp a = none
  mv : Mv (B.O σ0 env0) (B.O σ env) H0 H
  ps : ∀ p ∈ B.ps, p.1 ∈ z.np
  fx : ∀ p ∈ B.fx, p.1 ∈ z.np
theorem MOk.step {K : PySem.W.Frag} {n m : Nat} {z : Z} {B : Bs} {σ0 σ σ' : Sg} {H0 H H' : Hp} {env0 env env' : En} {v : V} {d : D} {as : List Addr} (h : MOk K n m z B σ0 H0 env0 σ H env v d as) (mm : Mv (B.O σ env) (B.O σ' env') H H') : MOk K n m z B σ0 H0 env0 σ' H' env' v d as :=
  ⟨h.tr.mv mm, h.nd, h.dp, h.sz, h.nw, h.nb, h.nk, h.mv.trans mm, h.ps, h.fx⟩
def tM (K : PySem.W.Frag) (n m : Nat) (z : Z) (fr : Bool) (j : Nat) (h : SF) : TS := fun Dd σ H => ∃ (B : Bs) (env : En) (σ0 : Sg) (H0 : Hp) (env0 : En) (v : V) (d : D) (as : List Addr),
  SR K (j :: z.np) (B.fixv j v) σ H env ∧ MOk K n m z B σ0 H0 env0 σ H env v d as ∧ (h env).post (SOk K z fr B σ0 H0 env0 Dd) (XS K z B σ0 H0 env0)
abbrev DSM (n m : Nat) (z : Z) (X : Cx) (fr : Bool) (j : Nat) (sts : List Stmt) (h : SF) : Prop := PSs X sts (tM X.K n m z fr j h)
section
variable {X : Cx} {z : Z} {fr : Bool} {st : Stmt} {sts : List Stmt} {e : Expr} {j n m n' m' : Nat}
theorem dss_found {x : Str} {f : EF} {g : SF} {pos pos' : Pos} (hN : X.N.Nodup) (hn : X.N[j]? = some x) (hx : Loc X.env.scope x) (he : DET n m z X e f) (hi : j ∉ z.np) (hr : DSM n m z X fr j sts g) (hs : swapsWith e (some (.Name x pos')) pos.line X.env = pure false := by rfl)
    (hf : X.fn x = true ∨ X.env.scope.names.lookup x = some .local := by first | exact .inl rfl | exact .inr rfl | assumption) : DSs z X fr (.Assign [.Name x pos'] e pos :: sts) (sSeq (sSet j f) g) := by
  refine ⟨fun pins s σ H Dd Iv ⟨B, env, I, p⟩ => (pss_cons (ps_set hN hn hx he hs hf) hr).run pins s σ H Dd Iv ?_⟩
  have hj : j < σ.length := by
    rw [Iv.len]
    exact (List.getElem?_eq_some_iff.mp hn).1
  refine ⟨B, env, I, (R.post_bind (R.post_bind p)).imp (fun p hp v H1 I1 m1 a1 ⟨d, as, t, nd, nw, hd, hw⟩ => ?_) fun _ _ q => q.xp⟩
  obtain ⟨I', m'⟩ := I1.setIm hi a1
  have kp : ∀ a ∈ as, B.kp a = none := fun a ha => by
    cases q : B.kp a with
    | none => rfl
    | some o =>
      have := I.kept a o q
      rw [nw a ha] at this
      cases this
  exact ⟨B, _, σ, H, env, v, d, as, I'.fixv (List.getElem?_set_self hj), ⟨t.mv m', nd, hd, hw, nw, fun a ha => I.dom a (nw a ha), kp, m1.trans m', fun p q => (I.par p q).2.2, fun p q => (I.fix p q).2⟩, hp⟩
theorem dsm_cons {g h : SF} (h1 : DS (z.at j) X fr st g) (h2 : DSM n m z X fr j sts h) : DSM n m z X fr j (st :: sts) (sSeq g h) := pss_weak (pss_cons h1 h2) fun Dd σ H ⟨B, env, σ0, H0, env0, v, d, as, I, M, p⟩ =>
  ⟨B.fixv j v, env, I, (R.post_bind p).imp (fun o ho => by
    cases o with
    | nx e => exact fun σ' H' I' m' => ⟨B, e, σ0, H0, env0, v, d, as, I', M.step m', ho⟩
    | bk e => exact fun σ' H' I' m' => ho σ' H' (I'.unfixv M.ps M.fx) (M.mv.trans m')
    | ct e => exact fun σ' H' I' m' => ho σ' H' (I'.unfixv M.ps M.fx) (M.mv.trans m')
    | rt d e => exact fun v σ' H' I' m' r t => ho v σ' H' (I'.unfixv M.ps M.fx) (M.mv.trans m') r t) fun x e q cls dp σ' H' I' m' a => q cls dp σ' H' (I'.unfixv M.ps M.fx) (M.mv.trans m') a⟩
/-- its value need not be told of any more -/
theorem dsm_leave {h : SF} (h1 : DSs z X fr sts h) : DSM n m z X fr j sts h := pss_weak h1 fun Dd σ H ⟨B, env, σ0, H0, env0, v, d, as, I, M, p⟩ =>
  ⟨B, env, I.unfixv M.ps M.fx, p.imp (fun o q => q.step M.mv) fun x e q => q.step M.mv⟩
/-- a suite that is left by a return alone -/
def NoNx (g : SF) : Prop := ∀ env o, g env = .ok o → ∃ d e, o = .rt d e
theorem nonx_retT (f : EF) : NoNx (sRetT f) := fun env o h => by
  unfold sRetT at h
  cases q : f env with
  | stuck => rw [q] at h; cases h
  | err x e => rw [q] at h; cases h
  | ok p =>
    rw [q] at h
    obtain ⟨d, e⟩ := p
    cases d <;> first | (cases h; exact ⟨_, _, rfl⟩) | cases h
theorem dsm_ifc {c : Expr} {a : List Stmt} {pos : Pos} {t : En → R En (Bool × En)} {g h : SF} (hc : DT (z.at j) X c t) (ha : DSM n m z X fr j a g) (hg : NoNx g) (hr : DSM n m z X fr j sts h) : DSM n m z X fr j (.If c a [] pos :: sts) (sSeq (sIf t g sNil) h) := pss_weak (pss_cons (ps_if hc ha pss_nil) hr) fun Dd σ H ⟨B, env, σ0, H0, env0, v, d, as, I, M, p⟩ =>
  ⟨B.fixv j v, env, I, (R.post_bind (R.post_bind p)).imp (fun b hp H1 I1 m1 => by
    obtain ⟨b, e⟩ := b
    cases b with
    | true =>
      refine ⟨B, e, σ0, H0, env0, v, d, as, I1, M.step m1, ?_⟩
      have hp : (g e).post (fun o => R.post (SOk X.K z fr B σ0 H0 env0 Dd) (XS X.K z B σ0 H0 env0) (match o with
        | .nx e => h e
        | o => .ok o)) (XS X.K z B σ0 H0 env0) := hp
      cases q : g e with
      | stuck => rw [q] at hp; exact hp
      | err x e' => rw [q] at hp; exact hp
      | ok o =>
        obtain ⟨d', e', rfl⟩ := hg e o q
        rw [q] at hp
        exact hp
    | false => exact ⟨B, e, σ0, H0, env0, v, d, as, I1, M.step m1, hp⟩) fun x e q cls dp H' I' m' a => q cls dp σ H' (I'.unfixv M.ps M.fx) (M.mv.trans m') a⟩
/-- return (.., name) -/
theorem dsm_ret2 {f : EF} {a b : Expr} {x1 : _} {pos tpos : Pos} {fa : Bool} (hz : z.rt = TreeT X.K n' m') (ha : DE (z.at j) X fa a f) (hb : PE X b (tVar j)) (hn : max 3 n + 1 ≤ n' := by decide) (hm : 1048576 + m + 3 ≤ m' := by decide)
    (hs1 : starEach [a, b] X.env = (false, eval a X.env) :: starEach [b] X.env := by rfl) (hs2 : starEach [b] X.env = (false, eval b X.env) :: starEach [] X.env := by rfl) :
    DSM n m z X fr j [.Return (some (.Tuple [a, b] x1 tpos)) pos] (sRetT (fTup (fCons (fFlat f) (fCons (fVar j) fun env => .ok ([], env))))) := by
  refine pss_weak (pss_one (ps_ret (pe_tup (pa_cons ha (pa_cons hb pa_nil hs2) hs1)))) fun Dd σ H ⟨B, env, σ0, H0, env0, v, d, as, I, M, p⟩ => ?_
  refine ⟨B.fixv j v, env, I, (R.post_bind (R.post_bind (R.post_bind (R.post_bind p)))).imp (fun q hp w H1 I1 m1 a1 _ => ?_) fun x e q cls dp H' I' m' a => q cls dp σ H' (I'.unfixv M.ps M.fx) (M.mv.trans m') a⟩
  obtain ⟨dw, e1⟩ := q
  dsimp only at hp I1 m1 a1
  split at hp
  · rename_i hn'
    simp only [flatOk, Bool.and_eq_true, decide_eq_true_eq] at hn'
    obtain ⟨⟨k1, k2⟩, k3⟩ := hn'
    have M1 := M.step m1
    have hv : σ[j]? = some (some v) := (I1.fix (j, v) (List.mem_cons_self ..)).1
    refine ⟨v, hv, show 2 ≤ sizeLine by decide, fun q hq0 => ?_⟩
    have I2 := I1.unfixv M.ps M.fx
    have hp := R.post_bind (R.post_bind hp)
    unfold fVar at hp
    split at hp
    · rename_i d2 he
      obtain ⟨u, e2, a2⟩ := I2.im he
      rw [hv] at e2
      cases e2
      have hp : SOk X.K z fr B σ0 H0 env0 Dd (.rt (.tuple [dw, d2]) e1) := hp
      have ex : Ex H1 (upd H1 q (.tup [w, v])) := Ex.new hq0
      have nOq : ¬ B.Op q := fun z => I2.od q hq0 (I2.op q z)
      have mv : Mv (B.O σ e1) B.Op H1 (upd H1 q (.tup [w, v])) := (Mv.less I2.op).trans (Mv.ex ex)
      have lt : LT X.K B.Op (upd H1 q (.tup [w, v])) q [w, v] := ⟨.inl (.inl upd_same), fun w => absurd w nOq⟩
      refine hp (.ref q) σ _ (I2.ex ex) (M1.mv.trans (Mv.ex ex)) ⟨.tup lt (.cons (At.mv mv a1) (.cons (a2.mv mv) .nil)), fun _ ds e => nomatch e⟩ ?_
      rw [hz]
      refine ⟨.tuple [dw, d], [] ++ (as ++ []), .tup lt (.cons (At.tr (At.mv mv a1) k1) (.cons (M1.tr.mv mv) .nil)), ?_, fun a ha => ?_, ?_, ?_⟩
      · simpa using M.nd
      · exact M.nb a (by simpa using ha)
      · have := M.dp
        simp only [dep, depAll]
        omega
      · have := M.sz
        simp only [wt, wtAll]
        omega
    · exact hp.elim
  · exact hp.elim
end
end DL
/-! defs by promises of their own: the lists in a value -/
namespace DL
open PySem PySem.Spec PyProof.Rows L2
/-- a def by a promise of its own -/
def HasV (P : Program) (w : World) (K : PySem.W.Frag) (mg : Str → Option Value) (base : Heap) (x : Str) (k : Nat) (ps : List Str) (sp : Sp) : Prop :=
  ∃ (f : Addr) (fd : FuncData), mg x = some (.ref f) ∧ PySem.W.keepIn K (.ref f) = true ∧ L2.Binds K fd ps [] ∧ FnG P w K mg base k f fd ps sp
section
variable {P : Program} {w : World} {K : PySem.W.Frag} {mg : Str → Option Value} {base : Heap}
theorem fun_okV {sp : Sp} {x qual : Str} {st : Stmt} {f : Addr} {fd : FuncData} {N ps : List Str} {k : Nat} (F : Fun K x qual st f fd) (S : FnScope N ps (defScope st)) (hps : ps.length ≤ N.length)
    (hbody : ∀ (cdv : Value) (A : Around) (outer : List Env) (s : Shared) (H : Hp) (E : XK) (Q : VK) (vs : List V), Room k (A.deeper (envOfC qual (defScope st) s.heap.objs.size f cdv)) → A.guards = some [] → vs.length = ps.length → sp vs H Q E →
      ∃ t, PSs (cxOf (L2.CX P w) P w K mg base N qual (defScope st) f cdv A outer s H E) (defBody st) t ∧ t { nx := fun _ H' => Q .non H', rt := Q } (start N vs) H) :
    FnG P w K mg base (k + 1) f fd ps sp := by
  obtain ⟨oc, od, kV, doc, pm, an, cdv, ct, osl, rfl, lk, hcd⟩ := F.ex
  refine ⟨fun A outer s H args us vs Q E hr hgd e0 hb r hl hsp => ?_⟩
  have KX : K.In s.heap := e0.mod.kin.keeps fun b o e => (e0.bs b o e).1
  have lim : s.heap.NoLimit := e0.mod.nolimit.keeps fun b o e => (e0.bs b o e).1
  have hkind : ∀ y ∈ ps.zip us, (defScope st).names.lookup y.1 = some .local ∨ ((defScope st).names.lookup y.1 = some .cell ∧ ((cellsFrom (s.heap.objs.size + 1) (defScope st).names []).lookup y.1).isSome = true) := fun ⟨n, v⟩ hy => by
    rcases S.par n (List.of_mem_zip hy).1 with q | q
    · exact .inl q
    · exact .inr ⟨q, PySem.W.cellsFrom_some _ _ _ (.inl q)⟩
  refine codeAny_call_function hr.depth (KX _ _ lk) rfl S.co S.gen rfl (PySem.W.codeRec_of KX hcd) (hb _ _ _ _ ?_)
  refine wpAny_newFunctionEnv_cells S.kind hkind fun env he s1 x => ?_
  subst he
  refine ⟨lim.keeps x.toInCall.keep, codeAny_func ?_⟩
  obtain ⟨t, ht, hq⟩ := hbody cdv A outer s H E Q vs (hr.deeper _) hgd hl hsp
  have I : Inv (cxOf (L2.CX P w) P w K mg base N qual (defScope st) f cdv A outer s H E) [] (start N vs) H s1 := inv_start S hr.hd e0 hl r x
  refine wpAny_mono (ht.run [] s1 (start N vs) H _ I hq) (fun fl s' hs => ?_) fun e s' hs => hs
  have fin : ∀ {σ' : Sg} {H' : Hp} {v : V} {u : Value}, Inv (cxOf (L2.CX P w) P w K mg base N qual (defScope st) f cdv A outer s H E) [] σ' H' s' → RelV v u → Q v H' → CE outer P w H s Q u s' :=
    fun {σ' H' v u} J rv q => ⟨v, H', J.os, J.bare, J.base, J.hok, rv, q⟩
  cases fl with
  | ret u =>
    obtain ⟨v, σ', H', J, rv, q⟩ := hs
    exact fin J rv q
  | next =>
    obtain ⟨σ', H', J, q⟩ := hs
    exact fin (v := V.non) (u := Value.none) J rfl q
  | brk =>
    obtain ⟨_, _, _, q⟩ := hs
    exact False.elim q
  | cont =>
    obtain ⟨_, _, _, q⟩ := hs
    exact False.elim q
theorem Stands.hasV {sp : Sp} {x : Str} {st : Stmt} {N ps : List Str} {k : Nat} (S : Stands K mg x st ps) (sc : FnScope N ps (defScope st)) (hps : ps.length ≤ N.length)
    (hbody : ∀ (f : Addr) (cdv : Value) (A : Around) (outer : List Env) (s : Shared) (H : Hp) (E : XK) (Q : VK) (vs : List V), Room k (A.deeper (envOfC x (defScope st) s.heap.objs.size f cdv)) → A.guards = some [] → vs.length = ps.length → sp vs H Q E →
      ∃ t, PSs (cxOf (L2.CX P w) P w K mg base N x (defScope st) f cdv A outer s H E) (defBody st) t ∧ t { nx := fun _ H' => Q .non H', rt := Q } (start N vs) H) :
    HasV P w K mg base x (k + 1) ps sp := by
  obtain ⟨f, fd, h1, h2, h3⟩ := S
  exact ⟨f, fd, h1, h2.kp, h3, fun_okV h2 sc hps fun cdv A outer s H E => hbody f cdv A outer s H E⟩
theorem Stands.hasV0 {sp : Sp} {x : Str} {st : Stmt} {ps : List Str} (k : Nat) (S : Stands K mg x st ps) (h : ∀ vs H Q E, ¬ sp vs H Q E) : HasV P w K mg base x k ps sp := by
  obtain ⟨f, fd, h1, h2, h3⟩ := S
  exact ⟨f, fd, h1, h2.kp, h3, ⟨fun A outer s H args us vs Q E hr hg e0 hb r hl hsp => (h _ _ _ _ hsp).elim⟩⟩
end
theorem pe_callV {X : Cx} {e : Expr} {es : List Expr} {t : TA} {N j k : Nat} {ps : List Str} {x : Str} {p pos : Pos} {sp : Sp} {W : WX} (h : HasV X.prog X.w X.K X.mg X.base x j ps sp) (hr : Room k X.A) (hj : j ≤ k) (hgd : X.A.guards = some []) (hg : Gl X x) (hn : ps.length = N)
    (tk : Takes X W) (ha : PA X (e :: es) t) (hdb : (x == ("__debug__" : Str)) = false := by decide) (he : starEach (e :: es) X.env = (false, eval e X.env) :: starEach es X.env := by rfl) (hpl : (backTo pos (starEach es X.env)).any (·.1) = false := by rfl) :
    PE X (.Call (.Name x p) (e :: es) [] pos) (tCallG N sp (WE W) t) := by
  obtain ⟨f, fd, h1, h2, h3, h4⟩ := h
  subst hn
  exact pe_callG (h4.mono hj) hr hgd hg h1 h2 h3 (fun σ => passAt tk σ) ha hdb he hpl
/-! ### states of data alone -/
def F0 : Addr → Prop := fun _ => False
def B0 (H : Hp) : Bs := ⟨fun _ => False, H, [], fun _ => none, []⟩
inductive FlatR (K : PySem.W.Frag) (H : Hp) : Sg → En → Prop
  | nil : FlatR K H [] []
  | non {σ : Sg} {env : En} (x : Option V) : FlatR K H σ env → FlatR K H (x :: σ) (none :: env)
  | im {σ : Sg} {env : En} {v : V} {d : D} : At K F0 H v d → FlatR K H σ env → FlatR K H (some v :: σ) (some (.im d) :: env)
section
variable {K : PySem.W.Frag} {H : Hp}
theorem FlatR.len : ∀ {σ : Sg} {env : En}, FlatR K H σ env → σ.length = env.length
  | _, _, .nil => rfl
  | _, _, .non _ r => congrArg (· + 1) r.len
  | _, _, .im _ r => congrArg (· + 1) r.len
theorem FlatR.get : ∀ {σ : Sg} {env : En} {i : Nat} {s : Sl}, FlatR K H σ env → env[i]? = some (some s) → ∃ (d : D) (v : V), s = .im d ∧ σ[i]? = some (some v) ∧ At K F0 H v d
  | _, _, _, _, .nil, h => by simp at h
  | _, _, 0, _, .non _ _, h => by simp at h
  | _, _, 0, _, .im (v := v) (d := d) a _, h => ⟨d, v, by simpa using h.symm, rfl, a⟩
  | _, _, i + 1, _, .non _ r, h => by simpa using r.get (i := i) (by simpa using h)
  | _, _, i + 1, _, .im _ r, h => by simpa using r.get (i := i) (by simpa using h)
theorem FlatR.noO {σ : Sg} {env : En} (r : FlatR K H σ env) (B : Bs) (hB : ∀ a, ¬ B.O0 a) (a : Addr) : ¬ B.O σ env a := fun w => w.elim (hB a) fun ⟨i, s, h1, h2, _⟩ => by
  obtain ⟨d, v, rfl, _⟩ := r.get h1
  cases h2
theorem FlatR.sr {np : List Nat} {σ : Sg} {env : En} (r : FlatR K H σ env) : SR K np (B0 H) σ H env where
  len := r.len
  slot := fun i s h => by
    obtain ⟨d, v, rfl, e, a⟩ := r.get h
    exact ⟨v, e, At.mv (Mv.less fun a w => r.noO (B0 H) (fun _ h => h) a w) a⟩
  dist := fun i j a h _ => (r.noO (B0 H) (fun _ h => h) a (.inr ⟨i, h⟩)).elim
  keep := fun a o h _ => h
  dom := fun a h => h
  new := fun i a h => (r.noO (B0 H) (fun _ h => h) a (.inr ⟨i, h⟩)).elim
  o0 := fun a h => h.elim
  kept := fun a o h => by cases h
  kpo := fun i a h => rfl
  own0 := fun i a h w => w
  par := fun p h => by cases h
  fix := fun p h => by cases h
end
section
variable {K : PySem.W.Frag} {O : Addr → Prop} {H H' : Hp}
mutual
theorem Tr.count : ∀ {v : V} {d : D} {as : List Addr}, Tr K O H v d as → as.length ≤ wt d
  | _, _, _, .non => Nat.zero_le _
  | _, _, _, .bl b => Nat.zero_le _
  | _, _, _, .int i => Nat.zero_le _
  | _, _, _, .str x => Nat.zero_le _
  | _, _, _, .lst _ _ r => by have := TrAll.count r; simp only [List.length_cons, wt]; omega
  | _, _, _, .tup _ r => by have := TrAll.count r; simp only [wt]; omega
theorem TrAll.count : ∀ {vs : List V} {ds : List D} {as : List Addr}, TrAll K O H vs ds as → as.length ≤ wtAll ds
  | _, _, _, .nil => Nat.zero_le _
  | _, _, _, .cons h r => by have := Tr.count h; have := TrAll.count r; simp only [List.length_append, wtAll]; omega
end
theorem wtAll_len : ∀ (ds : List D), ds.length ≤ wtAll ds
  | [] => Nat.zero_le _
  | d :: ds => by have := wtAll_len ds; simp only [List.length_cons, wtAll]; omega
/-- each list in it, with what is in it -/
def LsOk (K : PySem.W.Frag) (O : Addr → Prop) (H : Hp) (n : Nat) (a : Addr) : Prop := ∃ xs ds, H a = some (.lst xs) ∧ At K O H (.ref a) (.list ds) ∧ ds.length = xs.length ∧ xs.length ≤ n
mutual
theorem Tr.lists : ∀ {v : V} {d : D} {as : List Addr}, Tr K O H v d as → ∀ a ∈ as, LsOk K O H (wt d) a
  | _, _, _, .non, a, h => by cases h
  | _, _, _, .bl _, a, h => by cases h
  | _, _, _, .int _, a, h => by cases h
  | _, _, _, .str _, a, h => by cases h
  | _, _, _, .lst (ds := ds) e n r, a, h => by
    have hl := (TrAll.at r).length
    have := wtAll_len ds
    rcases List.mem_cons.mp h with rfl | h
    · exact ⟨_, ds, e, Tr.at (.lst e n r), hl.symm, by simp only [wt]; omega⟩
    · obtain ⟨xs, ds, h1, h2, h3, h4⟩ := TrAll.lists r a h
      exact ⟨xs, ds, h1, h2, h3, by simp only [wt]; omega⟩
  | _, _, _, .tup _ r, a, h => by
    obtain ⟨xs, ds, h1, h2, h3, h4⟩ := TrAll.lists r a h
    exact ⟨xs, ds, h1, h2, h3, by simp only [wt]; omega⟩
theorem TrAll.lists : ∀ {vs : List V} {ds : List D} {as : List Addr}, TrAll K O H vs ds as → ∀ a ∈ as, LsOk K O H (wtAll ds) a
  | _, _, _, .nil, a, h => by cases h
  | _, _, _, .cons x r, a, h => by
    rcases List.mem_append.mp h with h | h
    · obtain ⟨xs, ds, h1, h2, h3, h4⟩ := Tr.lists x a h
      exact ⟨xs, ds, h1, h2, h3, by simp only [wtAll]; omega⟩
    · obtain ⟨xs, ds, h1, h2, h3, h4⟩ := TrAll.lists r a h
      exact ⟨xs, ds, h1, h2, h3, by simp only [wtAll]; omega⟩
end
theorem TrAll.append : ∀ {vs us : List V} {ds es : List D} {as bs : List Addr}, TrAll K O H vs ds as → TrAll K O H us es bs → TrAll K O H (vs ++ us) (ds ++ es) (as ++ bs)
  | _, _, _, _, _, _, .nil, q => q
  | _, _, _, _, _, _, .cons x r, q => by
    rw [List.append_assoc]
    exact .cons x (TrAll.append r q)
theorem SqT.spoil {a : Addr} {xs : List V} (k : ∀ a o, H a = some o → (∀ ys, o ≠ .lst ys) → H' a = some o) (h : SqT K H a xs) : SqT K H' a xs := by
  rcases h with (h | ⟨o, h⟩) | h
  · exact .inl (.inl (k _ _ h fun _ q => by cases q))
  · exact .inl (.inr ⟨o, k _ _ h fun _ q => by cases q⟩)
  · exact .inr h
mutual
/-- None is put behind each list -/
theorem Tr.spoil (k : ∀ a o, H a = some o → (∀ ys, o ≠ .lst ys) → H' a = some o) : ∀ {v : V} {d : D} {as : List Addr}, Tr K O H v d as → (∀ a ∈ as, ∀ xs, H a = some (.lst xs) → H' a = some (.lst (xs ++ [.non]))) → ∃ d', Tr K O H' v d' as
  | _, _, _, .non, _ => ⟨_, .non⟩
  | _, _, _, .bl b, _ => ⟨_, .bl b⟩
  | _, _, _, .int i, _ => ⟨_, .int i⟩
  | _, _, _, .str x, _ => ⟨_, .str x⟩
  | _, _, _, .lst e n r, h => by
    obtain ⟨ds', r'⟩ := TrAll.spoil k r fun a ha => h a (List.mem_cons_of_mem _ ha)
    have := TrAll.append r' (.cons .non .nil)
    simp only [List.append_nil] at this
    exact ⟨_, .lst (h _ (List.mem_cons_self ..) _ e) n this⟩
  | _, _, _, .tup l r, h => by
    obtain ⟨ds', r'⟩ := TrAll.spoil k r h
    exact ⟨_, .tup ⟨SqT.spoil k l.1, l.2⟩ r'⟩
theorem TrAll.spoil (k : ∀ a o, H a = some o → (∀ ys, o ≠ .lst ys) → H' a = some o) : ∀ {vs : List V} {ds : List D} {as : List Addr}, TrAll K O H vs ds as → (∀ a ∈ as, ∀ xs, H a = some (.lst xs) → H' a = some (.lst (xs ++ [.non]))) → ∃ ds', TrAll K O H' vs ds' as
  | _, _, _, .nil, _ => ⟨_, .nil⟩
  | _, _, _, .cons x r, h => by
    obtain ⟨d', x'⟩ := Tr.spoil k x fun a ha => h a (List.mem_append_left _ ha)
    obtain ⟨ds', r'⟩ := TrAll.spoil k r fun a ha => h a (List.mem_append_right _ ha)
    exact ⟨_, .cons x' r'⟩
end
mutual
theorem At.spoil (k : ∀ a o, H a = some o → (∀ ys, o ≠ .lst ys) → H' a = some o) : ∀ {v : V} {d : D}, At K O H v d → noLst d = true → At K O H' v d
  | _, _, .non, _ => .non
  | _, _, .bl b, _ => .bl b
  | _, _, .int i, _ => .int i
  | _, _, .str x, _ => .str x
  | _, _, .tup l r, h => .tup ⟨SqT.spoil k l.1, l.2⟩ (AtAll.spoil k r (by simpa only [noLst] using h))
  | _, _, .lst _ _, h => by simp only [noLst] at h; cases h
  | _, _, .exc _ _ _, h => by simp only [noLst] at h; cases h
  | _, _, .excP _ _ _ _ _, h => by simp only [noLst] at h; cases h
theorem AtAll.spoil (k : ∀ a o, H a = some o → (∀ ys, o ≠ .lst ys) → H' a = some o) : ∀ {vs : List V} {ds : List D}, AtAll K O H vs ds → noLstAll ds = true → AtAll K O H' vs ds
  | _, _, .nil, _ => .nil
  | _, _, .cons a r, h => by
    simp only [noLstAll, Bool.and_eq_true] at h
    exact .cons (At.spoil k a h.1) (AtAll.spoil k r h.2)
end
end
/-! ### _law_lists -/
def spL (K : PySem.W.Frag) (n : Nat) : Sp := fun vs H Q _ => ∃ v d as, vs = [v] ∧ Tr K F0 H v d as ∧ dep d < n ∧ wt d < sizeLine ∧ ∀ p H', Ex H H' → H p = none → H' p = some (.lst (as.map .ref)) → Q (.ref p) H'
def tLp (K : PySem.W.Frag) (sp : Sp) (EE : Sg → XK) : TS := tFor (iSeq K (tVar 0)) (gName 2) (tAsg (tOp (rCatL K) (tVar 1) (tCallG 1 sp EE (tCons (tVar 2) tNil))) (gName 1))
def tLists (K : PySem.W.Frag) (sp : Sp) (EE : Sg → XK) (z : Z) : TS :=
  tSeq (tIfS (tT K z (fBool (fIsi "tuple" (fVar 0)))) (tSeq (tAsg (tLst tNil) (gName 1)) (tSeq (tLp K sp EE) (tRet (tVar 1)))) tNext)
    (tSeq (tIfS (tT K z (fNotT (fBool (fIsi "list" (fVar 0))))) (tRet (tLst tNil)) tNext)
      (tSeq (tAsg (tLst (tCons (tVar 0) tNil)) (gName 1)) (tSeq (tLp K sp EE) (tRet (tVar 1)))))
section
variable {K : PySem.W.Frag}
theorem lp_sem {n : Nat} {xs : List V} {ds : List D} {rest pre : List Addr} {H0 H1 : Hp} {v : V} {p : Addr} {y : Option V} {EE : Sg → XK} (J : It)
    (hgo : ∀ i H, Ex H1 H → i < xs.length → J.go i H) (hstop : ∀ H, Ex H1 H → J.stop xs.length H) (hy : ∀ i H x H', Ex H1 H → J.yld i H x H' → H' = H ∧ xs[i]? = some x)
    (T : TrAll K F0 H1 xs ds rest) (hd : depAll ds < n) (hw : wtAll ds < sizeLine) (hl : pre.length + rest.length ≤ sizeLine) (hp0 : H0 p = none) (h01 : Ex H0 H1) (hp : H1 p = some (.lst (pre.map V.ref)))
    (Dd : Ends) (hq : ∀ p' x H', Ex H0 H' → H0 p' = none → H' p' = some (.lst ((pre ++ rest).map V.ref)) → Dd.nx [some v, some (.ref p'), x] H') :
    ∃ W : Nat → Nat → Sg → Hp → Prop, (∃ m, W 0 m [some v, some (.ref p), y] H1) ∧ ∀ i m σ H, W i m σ H →
      (J.stop i H ∧ Dd.nx σ H) ∨ (J.go i H ∧ ∃ N : Sg → Hp → Prop, (∀ σ' H', N σ' H' → ∃ m', m' < m ∧ W (i + 1) m' σ' H') ∧ ∀ x H', J.yld i H x H' → gName 2 x σ H' fun σ2 H2 => tAsg (tOp (rCatL K) (tVar 1) (tCallG 1 (spL K n) EE (tCons (tVar 2) tNil))) (gName 1) { Dd with nx := N, ct := N, bk := Dd.nx } σ2 H2) := by
  refine ⟨fun i m σ H => ∃ p x r done dsi, m = xs.length - i ∧ i ≤ xs.length ∧ σ = [some v, some (.ref p), x] ∧ Ex H1 H ∧ TrAll K F0 H (xs.drop i) dsi r ∧ depAll dsi < n ∧ wtAll dsi < sizeLine ∧ pre ++ rest = done ++ r ∧ H0 p = none ∧ H p = some (.lst (done.map V.ref)),
    ⟨_, p, y, rest, pre, ds, rfl, Nat.zero_le _, rfl, fun _ _ h => h, T, hd, hw, rfl, hp0, hp⟩, ?_⟩
  rintro i m σ H ⟨p, x, r, done, dsi, rfl, hi, rfl, ex, T, hd, hw, hr, hp0, hp⟩
  by_cases hlt : i < xs.length
  · refine .inr ⟨hgo i H ex hlt, fun σ' H' => ∃ p x r done dsi, σ' = [some v, some (.ref p), x] ∧ Ex H1 H' ∧ TrAll K F0 H' (xs.drop (i + 1)) dsi r ∧ depAll dsi < n ∧ wtAll dsi < sizeLine ∧ pre ++ rest = done ++ r ∧ H0 p = none ∧ H' p = some (.lst (done.map V.ref)),
      fun σ' H' ⟨p, x, r, done, dsi, q⟩ => ⟨xs.length - (i + 1), by omega, p, x, r, done, dsi, rfl, hlt, q⟩, fun x H' hx => ?_⟩
    obtain ⟨eH, hx1⟩ := hy i H x H' ex hx
    subst eH
    have hx2 : xs[i] = x := by
      rw [List.getElem?_eq_getElem hlt] at hx1
      exact Option.some.inj hx1
    rw [List.drop_eq_getElem_cons hlt, hx2] at T
    obtain ⟨_, d, ds', as, bs, rfl, rfl, t1, t2⟩ : ∃ (u : Unit) (d : D) (ds' : List D) (as bs : List Addr), dsi = d :: ds' ∧ r = as ++ bs ∧ Tr K F0 H' x d as ∧ TrAll K F0 H' (xs.drop (i + 1)) ds' bs := by
      cases T with
      | cons h r => exact ⟨(), _, _, _, _, rfl, rfl, h, r⟩
    simp only [depAll, wtAll] at hd hw
    refine ⟨.ref p, rfl, x, rfl, rfl, x, d, as, rfl, t1, by omega, by omega, fun p' H2 ex2 hp' hH2 => ?_⟩
    have hlen : (pre ++ rest).length = (done ++ (as ++ bs)).length := by rw [hr]
    simp only [List.length_append] at hlen
    refine ⟨p, p', _, _, rfl, rfl, SqL.of (ex2 _ _ hp), SqL.of hH2, by simp only [List.length_map]; omega, fun q hq0 => ?_⟩
    have exq : Ex H2 (upd H2 q (.lst (done.map V.ref ++ as.map V.ref))) := Ex.new hq0
    refine ⟨q, some x, bs, done ++ as, ds', rfl, fun a o h => exq a o (ex2 a o (ex a o h)), TrAll.mv (Mv.ex fun a o h => exq a o (ex2 a o h)) t2, by omega, by omega, by rw [hr, List.append_assoc], ?_, ?_⟩
    · cases e : H0 q with
      | none => rfl
      | some o =>
        have := ex2 q o (ex q o (h01 q o e))
        rw [hq0] at this
        cases this
    · rw [upd_same, List.map_append]
  · have e : i = xs.length := by omega
    subst e
    rw [List.drop_length] at T
    refine .inl ⟨hstop H ex, ?_⟩
    obtain rfl : r = [] := by cases T; rfl
    exact hq p x H (fun a o h => ex a o (h01 a o h)) hp0 (by rw [hr, List.append_nil]; exact hp)
theorem ex_of {O O' : Addr → Prop} {H H' : Hp} (m : Mv O O' H H') (h : ∀ a, ¬ O a) : Ex H H' := fun a o e => m.keep a o e (h a)
theorem lists_sem {n : Nat} {vs : List V} {H : Hp} {Q : VK} {E : XK} {EE : Sg → XK} {z : Z} {a b c : Str} (h : spL K (n + 1) vs H Q E) : tLists K (spL K n) EE z { nx := fun _ H' => Q .non H', rt := Q } (start [a, b, c] vs) H := by
  obtain ⟨v, d, as, rfl, T, hd, hw, q⟩ := h
  have fl : ∀ {H1 : Hp}, Ex H H1 → FlatR K H1 [some v, none, none] [some (.im d), none, none] := fun ex => .im (At.mv (Mv.ex ex) T.at) (.non _ (.non _ .nil))
  have test : ∀ {H1 : Hp} {f : En → R En (Bool × En)} {k : Bool} {R : Bool → Hp → Prop}, Ex H H1 → f [some (.im d), none, none] = .ok (k, [some (.im d), none, none]) → (∀ H2, Ex H H2 → R k H2) → tT K z f [some v, none, none] H1 R := fun {H1 f k R} ex hf hR =>
    ⟨B0 H1, [some (.im d), none, none], (fl ex).sr, by
      rw [hf]
      exact fun H' I' m' => hR H' fun a o h => ex_of m' ((fl ex).noO _ fun _ h => h) a o (ex a o h)⟩
  have flat : (fBool (fIsi "tuple" (fVar 0))) [some (.im d), none, none] = .ok (false, [some (.im d), none, none]) → (fNotT (fBool (fIsi "list" (fVar 0)))) [some (.im d), none, none] = .ok (true, [some (.im d), none, none]) → as = [] →
      tLists K (spL K n) EE z { nx := fun _ H' => Q .non H', rt := Q } [some v, none, none] H := fun h1 h2 h3 => by
    subst h3
    unfold tLists tSeq tIfS
    refine test (fun _ _ h => h) h1 fun H1 e1 => ?_
    show tIfS (tT K z (fNotT (fBool (fIsi "list" (fVar 0))))) _ _ _ _ _
    unfold tIfS
    refine test e1 h2 fun H2 e2 => ?_
    refine ⟨Nat.zero_le _, fun p hp => ?_⟩
    refine q p _ (fun a o h => Ex.new hp a o (e2 a o h)) ?_ upd_same
    cases e : H p with
    | none => rfl
    | some o => rw [e2 _ _ e] at hp; cases hp
  show tLists K (spL K n) EE z { nx := fun _ H' => Q .non H', rt := Q } [some v, none, none] H
  cases T with
  | non => exact flat rfl rfl rfl
  | bl k => exact flat rfl rfl rfl
  | int i => exact flat rfl rfl rfl
  | str x => exact flat rfl rfl rfl
  | tup l r =>
    rename_i a xs ds
    simp only [dep, wt] at hd hw
    unfold tLists tSeq tIfS
    refine test (k := true) (fun _ _ h => h) rfl fun H1 e1 => ?_
    refine ⟨Nat.zero_le _, fun p hp => ?_⟩
    have hp0 : H p = none := by
      cases e : H p with
      | none => rfl
      | some o => rw [e1 _ _ e] at hp; cases hp
    have e2 : Ex H (upd H1 p (.lst [])) := fun a o h => Ex.new hp a o (e1 a o h)
    have l2 : ∀ {H' : Hp}, Ex (upd H1 p (.lst [])) H' → SqT K H' a xs := fun ex => (l.mv (Mv.ex fun a o h => ex a o (e2 a o h))).1
    have cnt := TrAll.count r
    refine ⟨.ref a, rfl, .inr ⟨a, rfl, ⟨xs, l2 fun _ _ h => h⟩, ?_⟩⟩
    refine lp_sem (pre := []) (Itt K a) (fun i H' ex hi => ⟨xs, xs[i], l2 ex, List.getElem?_eq_getElem hi⟩) (fun H' ex => ⟨xs, l2 ex, Nat.le_refl _⟩) (fun i H' x H'' ex ⟨h1, h2⟩ => ⟨h1, h2 xs (l2 ex)⟩) (TrAll.mv (Mv.ex e2) r) (by omega) (by omega) (by simp only [List.length_nil]; omega) hp0 e2 upd_same _ fun p' x H' ex hp' hH' => ?_
    exact ⟨_, rfl, q p' H' ex hp' hH'⟩
  | lst e0 n0 r =>
    rename_i a xs ds as
    simp only [dep, wt] at hd hw
    unfold tLists tSeq tIfS
    refine test (k := false) (fun _ _ h => h) rfl fun H1 e1 => ?_
    show tIfS (tT K z (fNotT (fBool (fIsi "list" (fVar 0))))) _ _ _ _ _
    unfold tIfS
    refine test (k := false) e1 rfl fun H1 e1 => ?_
    refine ⟨_, rfl, Nat.le_of_ble_eq_true rfl, fun p hp => ?_⟩
    have hp0 : H p = none := by
      cases e : H p with
      | none => rfl
      | some o => rw [e1 _ _ e] at hp; cases hp
    have e2 : Ex H (upd H1 p (.lst [.ref a])) := fun a o h => Ex.new hp a o (e1 a o h)
    have l2 : ∀ {H' : Hp}, Ex (upd H1 p (.lst [.ref a])) H' → SqL K H' a xs := fun ex => SqL.of (ex _ _ (e2 _ _ e0))
    have cnt := TrAll.count r
    refine ⟨.ref a, rfl, .inl ⟨a, rfl, ⟨xs, l2 fun _ _ h => h⟩, ?_⟩⟩
    refine lp_sem (pre := [a]) (Itl K a) (fun i H' ex hi => ⟨xs, xs[i], l2 ex, List.getElem?_eq_getElem hi⟩) (fun H' ex => ⟨xs, l2 ex, Nat.le_refl _⟩) (fun i H' x H'' ex ⟨h1, h2⟩ => ⟨h1, h2 xs (l2 ex)⟩) (TrAll.mv (Mv.ex e2) r) (by omega) (by omega) (by simp only [List.length_cons, List.length_nil]; omega) hp0 e2 upd_same _ fun p' x H' ex hp' hH' => ?_
    exact ⟨_, rfl, q p' H' ex hp' hH'⟩
end
end DL
/-! what the mirrors compute, step by step -/
namespace DL
open PySem PySem.Spec PyProof.Rows L2
section
variable {S α β : Type} {env : En} {f g k : EF} {h h' : D → D → Option D} {i j : Nat}
theorem bind_ok (a : α) (f : α → R S β) : (R.ok a : R S α).bind f = f a := rfl
theorem bind_err (x : Exn) (s : S) (f : α → R S β) : (R.err x s : R S α).bind f = .err x s := rfl
theorem bind_stuck (f : α → R S β) : (R.stuck : R S α).bind f = .stuck := rfl
theorem ofO_some (a : α) : (ofO (some a) : R S α) = .ok a := rfl
theorem calm_ok (a : α) : (R.ok a : R S α).calm = .ok a := rfl
theorem fVar_ap : fVar i env = match env[i]? with | some (some (.im d)) => .ok (d, env) | _ => .stuck := rfl
theorem fC_ap (d : D) : fC d env = .ok (d, env) := rfl
theorem fOp_ap : fOp h f g env = (f env).bind fun p => (g p.2).bind fun q => (ofO (h p.1 q.1)).bind fun r => .ok (r, q.2) := rfl
theorem fUn_ap (u : D → Option D) : fUn u f env = (f env).bind fun p => (ofO (u p.1)).bind fun r => .ok (r, p.2) := rfl
theorem fBool_ap : fBool f env = (f env).bind fun p => match p.1 with | .bool b => .ok (b, p.2) | _ => .stuck := rfl
section
variable {t u : En → R En (Bool × En)}
theorem fNotT_ap : fNotT t env = (t env).bind fun p => .ok (!p.1, p.2) := rfl
theorem fAndT_ap : fAndT t u env = (t env).bind fun p => if p.1 = true then u p.2 else .ok (false, p.2) := rfl
theorem fOrT_ap : fOrT t u env = (t env).bind fun p => if p.1 = true then .ok (true, p.2) else u p.2 := rfl
theorem fIf_ap : fIf t f g env = (t env).bind fun p => if p.1 = true then f p.2 else g p.2 := rfl
end
theorem fAndV_ap : fAndV f g env = (f env).bind fun p => match p.1 with | .bool true => g p.2 | .bool false => .ok (.bool false, p.2) | _ => .stuck := rfl
theorem fOrV_ap : fOrV f g env = (f env).bind fun p => match p.1 with | .bool false => g p.2 | .bool true => .ok (.bool true, p.2) | _ => .stuck := rfl
theorem fChain_ap : fChain h h' f g k env = (f env).bind fun p => (g p.2).bind fun q => (ofO (h p.1 q.1)).bind fun r => match r with
  | .bool true => (k q.2).bind fun s => (ofO (h' q.1 s.1)).bind fun w => .ok (w, s.2)
  | .bool false => .ok (.bool false, q.2)
  | _ => .stuck := rfl
theorem fCons_ap {l : En → R En (List D × En)} : fCons f l env = (f env).bind fun p => (l p.2).bind fun q => .ok (p.1 :: q.1, q.2) := rfl
theorem fTup_ap {l : En → R En (List D × En)} : fTup l env = (l env).bind fun p => if p.1.length ≤ sizeLine then .ok (.tuple p.1, p.2) else .stuck := rfl
theorem fLst_ap {l : En → R En (List D × En)} : fLst l env = (l env).bind fun p => if p.1.length ≤ sizeLine then .ok (.list p.1, p.2) else .stuck := rfl
theorem fCall_ap {c : List D → Option D} {l : En → R En (List D × En)} : fCall c l env = (l env).bind fun p => (ofO (c p.1)).bind fun r => .ok (r, p.2) := rfl
theorem fIsi_ap (T : String) : fIsi T f env = (f env).bind fun p => (ofO (isTy T p.1)).bind fun r => .ok (r, p.2) := rfl
theorem fIxO_ap : fIxO i g env = match env[i]? with
  | some (some (.ow _)) => (g env).bind fun q => match q.2[i]? with
    | some (some (.ow ds)) => (ofO (ixD (.list ds) q.1)).bind fun r => .ok (r, q.2)
    | _ => .stuck
  | _ => .stuck := rfl
theorem fLenO_ap : fLenO i env = match env[i]? with | some (some (.ow ds)) => .ok (.int ds.length, env) | _ => .stuck := rfl
theorem fReprO_ap : fReprO i env = match env[i]? with | some (some (.ow ds)) => (ofO (reprD [.list ds])).bind fun r => .ok (r, env) | _ => .stuck := rfl
theorem fIsiO_ap (T : String) : fIsiO T i env = match env[i]? with | some (some (.ow _)) => (ofO (isTy T (.list []))).bind fun r => .ok (r, env) | _ => .stuck := rfl
theorem fOpL_ap : fOpL i h g env = match env[i]? with
  | some (some (.ow _)) => (g env).bind fun q => match q.2[i]? with
    | some (some (.ow ds)) => (ofO (h (.list ds) q.1)).bind fun r => .ok (r, q.2)
    | _ => .stuck
  | _ => .stuck := rfl
theorem fOpR_ap : fOpR i h f env = (f env).bind fun q => match q.2[i]? with
    | some (some (.ow ds)) => (ofO (h q.1 (.list ds))).bind fun r => .ok (r, q.2)
    | _ => .stuck := rfl
theorem fSl_ap {s : D → Option Int → Option Int → Option D} {fl fh : En → R En (Option Int × En)} : fSl s f fl fh env = (f env).bind fun p => (fl p.2).bind fun l => (fh l.2).bind fun u => (ofO (s p.1 l.1 u.1)).bind fun r => .ok (r, u.2) := rfl
theorem fPart_ap : fPart f env = (f env).bind fun p => match p.1 with | .int i => .ok (some i, p.2) | _ => .stuck := rfl
theorem fItems_ap : fItems f env = (f env).bind fun p => (ofO (itemsD p.1)).bind fun ds => .ok (ds, p.2) := rfl
theorem fWalk_ap {w : List D → Option (List D)} {l : En → R En (List D × En)} : fWalk w l env = (l env).bind fun p => (ofO (w p.1)).bind fun ds => .ok (ds, p.2) := rfl
theorem fLc_ap {l : En → R En (List D × En)} {T : TF} {t : En → R En (Bool × En)} {vs : List Nat} : fLc l T t f vs env = (l env).bind fun p => if okVs p.2 vs = true then
  (compF T t f vs p.1 [] (wipeE p.2 vs)).bind fun q => .ok (.list q.1, restE p.2 q.2 vs) else .stuck := rfl
theorem cNil_ap : cNil env = .ok ([], env) := rfl
theorem cIm_ap {c : En → R En (List PArg × En)} : cIm f c env = (f env).bind fun p => (c p.2).bind fun q => .ok (.im p.1 :: q.1, q.2) := rfl
theorem cSl_ap {c : En → R En (List PArg × En)} : cSl j c env = match env[j]? with
  | some (some s) => if s.own = true then (c env).bind fun q => .ok (.sl j :: q.1, q.2) else .stuck
  | _ => .stuck := rfl
theorem fCallF_ap {n : Nat} {np : List Nat} {F : FD} {c : En → R En (List PArg × En)} : fCallF n np F c env = (c env).bind fun p => match resolve p.2 p.1 with
  | some es => if p.1.length = n ∧ (slotsOf p.1).Nodup ∧ okNp np 0 es = true then match F es with
      | .ok (d, es') => .ok (d, back p.1 es' p.2)
      | .err x es' => .err x (back p.1 es' p.2)
      | .stuck => .stuck
    else .stuck
  | none => .stuck := rfl
variable {a b : SF}
theorem sNil_ap : sNil env = .ok (.nx env) := rfl
theorem sPass_ap : sPass env = .ok (.nx env) := rfl
theorem sSeq_ap : sSeq a b env = (a env).bind fun o => match o with | .nx e => b e | o => .ok o := rfl
theorem sExpr_ap : sExpr f env = (f env).bind fun p => .ok (.nx p.2) := rfl
theorem sRet_ap : sRet f env = (f env).bind fun p => .ok (.rt p.1 p.2) := rfl
theorem sRetN_ap : sRetN env = .ok (.rt .none env) := rfl
theorem sRetO_ap : sRetO i env = match env[i]? with | some (some (.ow ds)) => .ok (.rt (.list ds) env) | _ => .stuck := rfl
theorem sIf_ap {t : En → R En (Bool × En)} : sIf t a b env = (t env).bind fun c => if c.1 = true then a c.2 else b c.2 := rfl
theorem sAsg_ap {T : TF} : sAsg f T env = (f env).bind fun p => (ofO (T p.1 p.2)).bind fun e => .ok (.nx e) := rfl
theorem sSet_ap : sSet i f env = (f env).bind fun p => .ok (.nx (p.2.set i (some (.im p.1)))) := rfl
theorem sSetO_ap : sSetO i f env = (f env).bind fun p => match p.1 with | .list ds => .ok (.nx (p.2.set i (some (.ow ds)))) | _ => .stuck := rfl
theorem sFrz_ap : sFrz i a env = match env[i]? with | some (some (.ow ds)) => a (env.set i (some (.im (.list ds)))) | _ => .stuck := rfl
theorem sApp_ap : sApp i f env = match env[i]? with
  | some (some (.ow _)) => (f env).bind fun p => match p.2[i]? with
    | some (some (.ow ds)) => if ds.length < sizeLine then .ok (.nx (p.2.set i (some (.ow (ds ++ [p.1]))))) else .stuck
    | _ => .stuck
  | _ => .stuck := rfl
theorem sSto_ap : sSto i g f env = (f env).bind fun p => match p.2[i]? with
  | some (some (.ow _)) => (g p.2).bind fun q => match q.2[i]?, q.1 with
    | some (some (.ow ds)), .int k => match ixN ds.length k with
      | some j => .ok (.nx (q.2.set i (some (.ow (ds.set j p.1)))))
      | none => .stuck
    | _, _ => .stuck
  | _ => .stuck := rfl
theorem sAugS_ap {op : Int → Int → Int} : sAugS i op g f env = match env[i]? with
  | some (some (.ow _)) => (g env).bind fun q => match q.2[i]?, q.1 with
    | some (some (.ow ds)), .int k => if 0 ≤ k then match ds[k.toNat]? with
      | some (.int x) => (f q.2).bind fun p => match p.2[i]?, p.1 with
        | some (some (.ow es)), .int y => if k.toNat < es.length then .ok (.nx (p.2.set i (some (.ow (es.set k.toNat (.int (op x y))))))) else .stuck
        | _, _ => .stuck
      | _ => .stuck
      else .stuck
    | _, _ => .stuck
  | _ => .stuck := rfl
theorem sAug_ap {op : Int → Int → Int} : sAug i op f env = match env[i]? with
  | some (some (.im (.int x))) => (f env).bind fun p => match p.1 with
    | .int y => .ok (.nx (p.2.set i (some (.im (.int (op x y))))))
    | _ => .stuck
  | _ => .stuck := rfl
theorem sPar_ap {l : En → R En (List D × En)} : sPar i j l env = (l env).bind fun p => match p.1 with
  | [d, e] => .ok (.nx ((p.2.set i (some (.im d))).set j (some (.im e))))
  | _ => .stuck := rfl
theorem sPar3_ap {l : En → R En (List D × En)} {k : Nat} : sPar3 i j k l env = (l env).bind fun p => match p.1 with
  | [d, e, f] => .ok (.nx (((p.2.set i (some (.im d))).set j (some (.im e))).set k (some (.im f))))
  | _ => .stuck := rfl
theorem sFor_ap {l : En → R En (List D × En)} {T : TF} : sFor l T a env = (l env).bind fun p => forF T a p.1 p.2 := rfl
theorem sWhile_ap {n : En → Nat} {t : En → R En (Bool × En)} : sWhile n t a env = whileF t a (n env) env := rfl
theorem sRaise_ap (c : Str) : sRaise c env = .err ⟨c, []⟩ env := rfl
theorem forF_nil {T : TF} : forF T a [] env = .ok (.nx env) := rfl
theorem forF_cons {T : TF} {d : D} {ds : List D} : forF T a (d :: ds) env = (ofO (T d env)).bind fun e1 => (a e1).bind fun o => match o with
    | .nx e => forF T a ds e
    | .ct e => forF T a ds e
    | .bk e => .ok (.nx e)
    | .rt d e => .ok (.rt d e) := rfl
theorem tN_ap {d : D} : tN i d env = some (env.set i (some (.im d))) := rfl
theorem tTuple_ap {n : Nat} {u : TFs} {ds : List D} : tTuple n u (.tuple ds) env = if ds.length = n then u ds env else none := rfl
theorem tsNil_ap : tsNil [] env = some env := rfl
theorem tsCons_ap {t : TF} {u : TFs} {d : D} {r : List D} : tsCons t u (d :: r) env = (t d env).bind fun e => u r e := rfl
theorem own_im (d : D) : (Sl.im d).own = false := rfl
theorem own_ow (ds : List D) : (Sl.ow ds).own = true := rfl
theorem resolve_nil : resolve env [] = some [] := rfl
theorem resolve_im {d : D} {as : List PArg} : resolve env (.im d :: as) = (resolve env as).map (.im d :: ·) := rfl
theorem resolve_sl {as : List PArg} : resolve env (.sl j :: as) = match env[j]? with | some (some s) => if s.own = true then (resolve env as).map (s :: ·) else none | _ => none := rfl
theorem slotsOf_nil : slotsOf [] = [] := rfl
theorem slotsOf_im {d : D} {as : List PArg} : slotsOf (.im d :: as) = slotsOf as := rfl
theorem slotsOf_sl {as : List PArg} : slotsOf (.sl j :: as) = j :: slotsOf as := rfl
theorem okNp_nil {np : List Nat} {k : Nat} : okNp np k [] = true := rfl
theorem okNp_cons {np : List Nat} {k : Nat} {s : Sl} {r : List Sl} : okNp np k (s :: r) = ((!s.own || np.contains k) && okNp np (k + 1) r) := rfl
theorem back_nil {es : List Sl} : back [] es env = env := by cases es <;> rfl
theorem back_im {d : D} {as : List PArg} {s : Sl} {es : List Sl} : back (.im d :: as) (s :: es) env = back as es env := rfl
theorem back_sl {as : List PArg} {s : Sl} {es : List Sl} : back (.sl j :: as) (s :: es) env = back as es (env.set j (some s)) := rfl
theorem backP_def (n : Nat) (e : En) : backP n e = (e.take n).map fun o => o.getD (.im .none) := rfl
theorem runD_ap {n : Nat} {es : List Sl} : runD n a es = match a (es.map some ++ List.replicate (n - es.length) none) with
  | .ok (.rt d e) => .ok (d, backP es.length e)
  | .ok (.nx e) => .ok (.none, backP es.length e)
  | .err x e => .err x (backP es.length e)
  | _ => .stuck := rfl
end
/-! ### data -/
theorem sizeLine_lt (n : Nat) (h : n ≤ 16777216) : n ≤ sizeLine := by rw [sizeLine_eq]; exact h
theorem addD_int (i j : Int) : addD (.int i) (.int j) = some (.int (i + j)) := rfl
theorem subD_int (i j : Int) : subD (.int i) (.int j) = some (.int (i - j)) := rfl
theorem negD_int (i : Int) : negD (.int i) = some (.int (-i)) := rfl
theorem mulD_l {i j : Int} (h1 : -18446744073709551616 < i) (h2 : i < 18446744073709551616) : mulD (.int i) (.int j) = some (.int (i * j)) := by
  simp only [mulD]
  rw [if_pos (show CMulV i j from Or.inl (Or.inl ⟨by omega, by omega⟩))]
theorem mulD_r {i j : Int} (h1 : -18446744073709551616 < j) (h2 : j < 18446744073709551616) : mulD (.int i) (.int j) = some (.int (i * j)) := by
  simp only [mulD]
  rw [if_pos (show CMulV i j from Or.inl (Or.inr ⟨by omega, by omega⟩))]
theorem mulD_w {i j : Int} {a b : Nat} (ha : i.natAbs < 2 ^ a) (hb : j.natAbs < 2 ^ b) (h0 : 0 < a) (h1 : 0 < b) (h : a + b ≤ 1000000) : mulD (.int i) (.int j) = some (.int (i * j)) := by
  simp only [mulD]
  rw [if_pos (show CMulV i j from Or.inr (wide_mul ha hb h0 h1 h))]
theorem powD_int {i : Int} {j : Int} (h1 : 0 ≤ j) (h2 : j ≤ 1000000) (h3 : i.natAbs < 2 ^ 64) : powD (.int i) (.int j) = some (.int (i ^ j.toNat)) := by
  simp only [powD]
  rw [if_pos (show CPow i j from ⟨h1, h2, h3⟩)]
theorem modD_pos {i j : Int} (h : 0 < j) : modD (.int i) (.int j) = some (.int (i % j)) := by
  simp only [modD]
  rw [if_pos (by omega), Int.fmod_eq_emod_of_nonneg _ (by omega)]
theorem fdivD_pos {i j : Int} (h : 0 < j) (h2 : j < 1073741824) : fdivD (.int i) (.int j) = some (.int (i / j)) := by
  simp only [fdivD]
  rw [if_pos ⟨by omega, by omega⟩, Int.fdiv_eq_ediv_of_nonneg _ (by omega)]
theorem ltD_int (i j : Int) : ltD (.int i) (.int j) = some (.bool (decide (i < j))) := rfl
theorem leD_int (i j : Int) : leD (.int i) (.int j) = some (.bool (decide (i ≤ j))) := rfl
theorem gtD_int (i j : Int) : gtD (.int i) (.int j) = some (.bool (decide (j < i))) := rfl
theorem geD_int (i j : Int) : geD (.int i) (.int j) = some (.bool (decide (j ≤ i))) := rfl
theorem intD_int (i : Int) : intD [.int i] = some (.int i) := rfl
theorem intD_bool (b : Bool) : intD [.bool b] = some (.int (if b then 1 else 0)) := rfl
theorem lenD_list (ds : List D) : lenD [.list ds] = some (.int ds.length) := rfl
theorem lenD_tuple (ds : List D) : lenD [.tuple ds] = some (.int ds.length) := rfl
theorem lenD_lmap {α : Type} (f : α → D) (xs : List α) : lenD [.list (xs.map f)] = some (.int xs.length) := by simp [lenD]
theorem lenD_tmap {α : Type} (f : α → D) (xs : List α) : lenD [.tuple (xs.map f)] = some (.int xs.length) := by simp [lenD]
theorem itemsD_list (ds : List D) : itemsD (.list ds) = some ds := rfl
theorem itemsD_tuple (ds : List D) : itemsD (.tuple ds) = some ds := rfl
theorem rangeD1_int {j : Int} (h1 : -1000000000 ≤ j) (h2 : j ≤ 1000000000) : rangeD1 [.int j] = some (rangeL 0 j.toNat) := by
  simp only [rangeD1]; rw [if_pos (by omega)]
theorem rangeD2_int {i j : Int} (h1 : -1000000000 ≤ i) (h2 : i ≤ 1000000000) (h3 : -1000000000 ≤ j) (h4 : j ≤ 1000000000) : rangeD2 [.int i, .int j] = some (rangeL i (j - i).toNat) := by
  simp only [rangeD2]; rw [if_pos (by omega)]
theorem notD_bool (b : Bool) : notD (.bool b) = some (.bool (!b)) := rfl
theorem ixD_tuple (ds : List D) (i : Int) : ixD (.tuple ds) (.int i) = atI ds i := rfl
theorem ixD_list (ds : List D) (i : Int) : ixD (.list ds) (.int i) = atI ds i := rfl
theorem atI_nat' {ds : List D} {i : Int} {d : D} (h0 : 0 ≤ i) (h : ds[i.toNat]? = some d) : atI ds i = some d := by
  have e : ((i.toNat : Nat) : Int) = i := by omega
  rw [← e]; exact atI_nat h
theorem maxD2 (i j : Int) : maxD [.int i, .int j] = some (.int (max i j)) := rfl
theorem minD2 (i j : Int) : minD [.int i, .int j] = some (.int (min i j)) := rfl
theorem tupleD_list (ds : List D) : tupleD [.list ds] = some (.tuple ds) := rfl
theorem listD_tuple (ds : List D) : listD [.tuple ds] = some (.list ds) := rfl
theorem listD_list (ds : List D) : listD [.list ds] = some (.list ds) := rfl
theorem tupleD_tuple (ds : List D) : tupleD [.tuple ds] = some (.tuple ds) := rfl
theorem sumD_list (ns : List Int) : sumD [.list (ns.map .int)] = some (.int ns.sum) := by simp only [sumD, intsD_map, Option.map_some]
theorem sumD_tuple (ns : List Int) : sumD [.tuple (ns.map .int)] = some (.int ns.sum) := by simp only [sumD, intsD_map, Option.map_some]
theorem boolsD_map : ∀ bs : List Bool, boolsD (bs.map PyData.bool) = some bs
  | [] => rfl
  | b :: r => by simp only [List.map_cons, boolsD, boolsD_map r, Option.map_some]
theorem allD_list (bs : List Bool) : allD [.list (bs.map .bool)] = some (.bool (bs.all id)) := by simp only [allD, boolsD_map, Option.map_some]
/-! ### nice data: flat enough, short enough -/
structure Nice (n w : Nat) (d : D) : Prop where
  lay : d.canLay0 = true
  dep : d.depth ≤ n
  wt : d.weight ≤ w
  sh : d.showable = true
  ls : d.leavesShort 300 = true
def NiceAll (n w : Nat) (ds : List D) : Prop := ∀ d ∈ ds, Nice n w d
theorem Nice.mono {n w n' w' : Nat} {d : D} (h : Nice n w d) (hn : n ≤ n') (hw : w ≤ w') : Nice n' w' d := ⟨h.lay, Nat.le_trans h.dep hn, Nat.le_trans h.wt hw, h.sh, h.ls⟩
theorem nice_none : Nice 0 0 .none := ⟨by simp [PyData.canLay0], by simp [PyData.depth], by simp [PyData.weight], by simp [PyData.showable], by simp [PyData.leavesShort]⟩
theorem nice_bool (b : Bool) : Nice 0 0 (.bool b) := ⟨by simp [PyData.canLay0], by simp [PyData.depth], by simp [PyData.weight], by simp [PyData.showable], by simp [PyData.leavesShort]⟩
theorem nice_int {i : Int} (h : i.natAbs.log2 < 100) : Nice 0 100 (.int i) := by
  refine ⟨by simp [PyData.canLay0], by simp [PyData.depth], ?_, ?_, ?_⟩
  · simp only [PyData.weight]; split <;> omega
  · simp only [PyData.showable, decide_eq_true_eq]; omega
  · simp only [PyData.leavesShort, PyData.shown]
    have e := int_text_length_le (a := i) (k := 100) (by decide) h
    refine decide_eq_true ?_
    rw [PySem.ofString_length]; omega
theorem log2_small {n : Nat} (h : n < 2 ^ 100) : n.log2 < 100 := by
  by_cases h0 : n = 0
  · subst h0; decide
  · exact (Nat.log2_lt h0).2 h
theorem nice_small {i : Int} (h1 : -1000000000000000000000000000000 ≤ i) (h2 : i ≤ 1000000000000000000000000000000) : Nice 0 100 (.int i) := nice_int (log2_small (Nat.lt_of_le_of_lt (show i.natAbs ≤ 1000000000000000000000000000000 by omega) (by decide)))
theorem niceAll_depth {n w : Nat} : ∀ {ds : List D}, NiceAll n w ds → PyData.depthAll ds ≤ n
  | [], _ => by simp [PyData.depthAll]
  | d :: r, h => by
    have h1 := (h d (by simp)).dep
    have h2 := niceAll_depth (ds := r) fun x hx => h x (by simp [hx])
    simp only [PyData.depthAll]
    omega
theorem niceAll_weight {n w : Nat} : ∀ {ds : List D}, NiceAll n w ds → PyData.weightAll ds ≤ (w + 1) * ds.length
  | [], _ => by simp [PyData.weightAll]
  | d :: r, h => by
    have h1 := (h d (by simp)).wt
    have h2 := niceAll_weight (ds := r) fun x hx => h x (by simp [hx])
    simp only [PyData.weightAll, List.length_cons]
    rw [Nat.mul_add]
    omega
theorem niceAll_lay {n w : Nat} : ∀ {ds : List D}, NiceAll n w ds → PyData.canLayAll0 ds = true
  | [], _ => by simp [PyData.canLayAll0]
  | d :: r, h => by
    simp only [PyData.canLayAll0, (h d (by simp)).lay, niceAll_lay (ds := r) fun x hx => h x (by simp [hx]), Bool.and_self]
theorem niceAll_sh {n w : Nat} : ∀ {ds : List D}, NiceAll n w ds → PyData.showableAll ds = true
  | [], _ => by simp [PyData.showableAll]
  | d :: r, h => by
    simp only [PyData.showableAll, (h d (by simp)).sh, niceAll_sh (ds := r) fun x hx => h x (by simp [hx]), Bool.and_self]
theorem niceAll_ls {n w : Nat} : ∀ {ds : List D}, NiceAll n w ds → PyData.leavesShortAll 300 ds = true
  | [], _ => by simp [PyData.leavesShortAll]
  | d :: r, h => by
    simp only [PyData.leavesShortAll, (h d (by simp)).ls, niceAll_ls (ds := r) fun x hx => h x (by simp [hx]), Bool.and_self]
theorem nice_list {n w k : Nat} {ds : List D} (h : NiceAll n w ds) (hk : ds.length ≤ k) : Nice (n + 1) ((w + 1) * k) (.list ds) := by
  refine ⟨by simp only [PyData.canLay0, niceAll_lay h], ?_, ?_, by simp only [PyData.showable, niceAll_sh h], by simp only [PyData.leavesShort, niceAll_ls h]⟩
  · have := niceAll_depth h
    simp only [PyData.depth]; omega
  · have h1 := niceAll_weight h
    simp only [PyData.weight]
    exact Nat.le_trans h1 (Nat.mul_le_mul_left _ hk)
theorem nice_tuple {n w k : Nat} {ds : List D} (h : NiceAll n w ds) (hk : ds.length ≤ k) : Nice (n + 1) ((w + 1) * k) (.tuple ds) := by
  refine ⟨by simp only [PyData.canLay0, niceAll_lay h], ?_, ?_, by simp only [PyData.showable, niceAll_sh h], by simp only [PyData.leavesShort, niceAll_ls h]⟩
  · have := niceAll_depth h
    simp only [PyData.depth]; omega
  · have h1 := niceAll_weight h
    simp only [PyData.weight]
    exact Nat.le_trans h1 (Nat.mul_le_mul_left _ hk)
theorem Nice.shaped {n w : Nat} {d : D} (h : Nice n w d) (hn : n ≤ 64) : SeqAt.shaped d = true := by
  unfold SeqAt.shaped
  rw [h.lay, Bool.true_and, decide_eq_true_eq]
  exact Nat.le_trans h.dep hn
theorem reprD_nice {n w : Nat} {d : D} (h : Nice n w d) (hn : n ≤ 64 := by decide) (hw : w ≤ 50000 := by decide) : reprD [d] = some (.str d.shown) := by
  have h1 := PyData.shown_le 300 (by decide) d h.ls
  have h2 : d.shown.length ≤ sizeLine := by
    have h3 : (300 + 2) * d.weight ≤ 302 * 50000 := Nat.mul_le_mul_left _ (Nat.le_trans h.wt hw)
    rw [sizeLine_eq]; omega
  simp only [reprD, h.sh, h.shaped hn, decide_eq_true h2, Bool.and_self, if_true]
theorem eqD_nice {n w n' w' : Nat} {d e : D} (h : Nice n w d) (h' : Nice n' w' e) (hn : n ≤ 64 := by decide) (hn' : n' ≤ 64 := by decide) : eqD d e = some (.bool (PyData.eqv d e)) := by
  unfold eqD; rw [h.shaped hn, h'.shaped hn']; rfl
theorem neD_nice {n w n' w' : Nat} {d e : D} (h : Nice n w d) (h' : Nice n' w' e) (hn : n ≤ 64 := by decide) (hn' : n' ≤ 64 := by decide) : neD d e = some (.bool (!PyData.eqv d e)) := by
  unfold neD; rw [h.shaped hn, h'.shaped hn']; rfl
theorem neD_str {x y : Str} (hx : PyData.strOk x = true) (hy : PyData.strOk y = true) : neD (.str x) (.str y) = some (.bool (!PyData.eqv (.str x) (.str y))) := by
  unfold neD SeqAt.shaped; simp [PyData.canLay0, PyData.depth, hx, hy]
theorem eqD_str {x y : Str} (hx : PyData.strOk x = true) (hy : PyData.strOk y = true) : eqD (.str x) (.str y) = some (.bool (PyData.eqv (.str x) (.str y))) := by
  unfold eqD SeqAt.shaped; simp [PyData.canLay0, PyData.depth, hx, hy]
theorem neD_int (x y : Int) : neD (.int x) (.int y) = some (.bool (!decide (x = y))) := by
  unfold neD SeqAt.shaped; simp only [PyData.canLay0, PyData.depth, PyData.eqv]; by_cases q : x = y <;> simp [q]
theorem eqD_int (x y : Int) : eqD (.int x) (.int y) = some (.bool (decide (x = y))) := by
  unfold eqD SeqAt.shaped; simp only [PyData.canLay0, PyData.depth, PyData.eqv]; by_cases q : x = y <;> simp [q]
/-! ### comprehensions over data -/
theorem compF_nil {T : TF} {t : En → R En (Bool × En)} {f : EF} {vs : List Nat} {acc : List D} {env : En} : compF T t f vs [] acc env = .ok (acc, env) := rfl
/-- each turn leaves the slots as they were -/
theorem compF_all {T : TF} {t : En → R En (Bool × En)} {f : EF} {vs : List Nat} {env : En} {b : D → Bool} {v : D → D} : ∀ {ds acc : List D}, acc.length + ds.length ≤ sizeLine →
    (∀ d ∈ ds, ∃ e1 e2, T d env = some e1 ∧ t e1 = .ok (b d, e2) ∧ (b d = true → ∃ e3, f e2 = .ok (v d, e3) ∧ okVs e3 vs = true ∧ wipeE e3 vs = env) ∧ (b d = false → okVs e2 vs = true ∧ wipeE e2 vs = env)) →
    compF T t f vs ds acc env = .ok (acc ++ (ds.filter b).map v, env)
  | [], acc, _, _ => by simp [compF]
  | d :: ds, acc, hl, h => by
    obtain ⟨e1, e2, h1, h2, h3, h4⟩ := h d (by simp)
    have ih := fun acc' (hl' : acc'.length + ds.length ≤ sizeLine) => compF_all (T := T) (t := t) (f := f) (vs := vs) (env := env) (b := b) (v := v) (ds := ds) (acc := acc') hl' fun x hx => h x (by simp [hx])
    unfold compF
    rw [h1, ofO_some, bind_ok, h2, calm_ok, bind_ok]
    simp only [List.length_cons] at hl
    cases hb : b d with
    | true =>
      obtain ⟨e3, h5, h6, h7⟩ := h3 hb
      simp only [if_true]
      rw [h5, calm_ok, bind_ok]
      simp only
      rw [if_pos ⟨by omega, h6⟩, h7, ih _ (by simp; omega)]
      simp [List.filter_cons, hb]
    | false =>
      obtain ⟨h6, h7⟩ := h4 hb
      simp only [Bool.false_eq_true, if_false]
      rw [if_pos h6, h7, ih _ (by omega)]
      simp [List.filter_cons, hb]
theorem compF_map {T : TF} {f : EF} {vs : List Nat} {env : En} {v : D → D} {ds acc : List D} (hl : acc.length + ds.length ≤ sizeLine)
    (h : ∀ d ∈ ds, ∃ e1 e3, T d env = some e1 ∧ f e1 = .ok (v d, e3) ∧ okVs e3 vs = true ∧ wipeE e3 vs = env) :
    compF T (fun env => .ok (true, env)) f vs ds acc env = .ok (acc ++ ds.map v, env) := by
  rw [compF_all (b := fun _ => true) (v := v) hl fun d hd => ?_]
  · rw [List.filter_eq_self.mpr (by simp)]
  · obtain ⟨e1, e3, h1, h2, h3, h4⟩ := h d hd
    exact ⟨e1, e1, h1, rfl, fun _ => ⟨e3, h2, h3, h4⟩, fun q => nomatch q⟩
end DL
/-! what a mirror does, told by what is wanted behind it -/
namespace DL
open PySem PySem.Spec PyProof.Rows L2
structure Ev {S α : Type} (m : R S (α × S)) (Q : α → S → Prop) (E : Exn → S → Prop) : Prop where
  out : match m with
    | .ok p => Q p.1 p.2
    | .err x s => E x s
    | .stuck => False
def EvO {α : Type} (o : Option α) (Q : α → Prop) : Prop := ∃ r, o = some r ∧ Q r
/-- a statement: goes on, returns, breaks, continues, raises -/
structure Es (m : R En Out) (N : En → Prop) (P : D → En → Prop) (B C : En → Prop) (E : Exn → En → Prop) : Prop where
  out : match m with
    | .ok (.nx e) => N e
    | .ok (.rt d e) => P d e
    | .ok (.bk e) => B e
    | .ok (.ct e) => C e
    | .err x e => E x e
    | .stuck => False
theorem ex_mk {α : Type} {p q : α → Prop} (a : α) (h : p a) (k : q a) : ∃ a, p a ∧ q a := ⟨a, h, k⟩
theorem tt_mk {X Y : Prop} (x : X) : (true = true → X) ∧ (true = false → Y) := ⟨fun _ => x, fun h => Bool.noConfusion h⟩
theorem ff_mk {X Y : Prop} (y : Y) : (false = true → X) ∧ (false = false → Y) := ⟨fun h => Bool.noConfusion h, fun _ => y⟩
theorem nt_mk {X Y : Prop} (y : Y) : ((!true) = true → X) ∧ ((!true) = false → Y) := ⟨fun h => Bool.noConfusion h, fun _ => y⟩
theorem nf_mk {X Y : Prop} (x : X) : ((!false) = true → X) ∧ ((!false) = false → Y) := ⟨fun _ => x, fun h => Bool.noConfusion h⟩
inductive Par2 : List D → (D → D → Prop) → Prop
  | mk {d d' : D} {N : D → D → Prop} (q : N d d') : Par2 [d, d'] N
inductive Par3 : List D → (D → D → D → Prop) → Prop
  | mk {d d' d'' : D} {N : D → D → D → Prop} (q : N d d' d'') : Par3 [d, d', d''] N
theorem ev_o {α : Type} {o : Option α} {Q : α → Prop} {r : α} (h : o = some r) (q : Q r) : EvO o Q := ⟨r, h, q⟩
section
variable {S α β : Type}
theorem ev_imp {m : R S (α × S)} {Q Q' : α → S → Prop} {E E' : Exn → S → Prop} (h : Ev m Q E) (hq : ∀ a s, Q a s → Q' a s) (he : ∀ x s, E x s → E' x s) : Ev m Q' E' := by
  cases m with
  | stuck => exact ⟨h.1⟩
  | ok a => exact ⟨hq _ _ h.1⟩
  | err x s => exact ⟨he _ _ h.1⟩
theorem ev_imp1 {m : R S (α × S)} {Q Q' : α → S → Prop} {E : Exn → S → Prop} (h : Ev m Q E) (hq : ∀ a s, Q a s → Q' a s) : Ev m Q' E := ev_imp h hq fun _ _ h => h
theorem ev_bind {m : R S (α × S)} {f : α × S → R S (β × S)} {Q : β → S → Prop} {E : Exn → S → Prop} (h : Ev m (fun a s => Ev (f (a, s)) Q E) E) : Ev (m.bind f) Q E := by
  cases m with
  | stuck => exact ⟨h.1⟩
  | ok a => exact h.1
  | err x s => exact ⟨h.1⟩
theorem ev_ob {o : Option α} {f : α → R S (β × S)} {Q : β → S → Prop} {E : Exn → S → Prop} (h : EvO o fun a => Ev (f a) Q E) : Ev ((ofO o).bind f) Q E := by
  obtain ⟨r, e, q⟩ := h
  subst e
  exact q
theorem ev_obk {o : Option α} {e : S} {Q : α → S → Prop} {E : Exn → S → Prop} (h : EvO o fun a => Q a e) : Ev ((ofO o).bind fun r => .ok (r, e)) Q E := by
  obtain ⟨r, h, q⟩ := h
  subst h
  exact ⟨q⟩
theorem ev_eq {m : R S (α × S)} {Q : α → S → Prop} (h : Ev m Q fun _ _ => False) : ∃ a s, m = .ok (a, s) ∧ Q a s := by
  cases m with
  | stuck => exact h.1.elim
  | ok a => exact ⟨a.1, a.2, rfl, h.1⟩
  | err x s => exact h.1.elim
theorem ev_eqs {m : R S (α × S)} {a : α} {s : S} (h : Ev m (fun x t => x = a ∧ t = s) fun _ _ => False) : m = .ok (a, s) := by
  obtain ⟨x, t, e, rfl, rfl⟩ := ev_eq h; exact e
theorem ev_err {m : R S (α × S)} {a : Exn} {s : S} (h : Ev m (fun _ _ => False) fun x t => x = a ∧ t = s) : m = .err a s := by
  cases m with
  | stuck => exact h.1.elim
  | ok a => exact h.1.elim
  | err x s => obtain ⟨rfl, rfl⟩ := h.1; rfl
theorem ev_ok {a : α} {s : S} {Q : α → S → Prop} {E : Exn → S → Prop} (q : Q a s) : Ev (.ok (a, s)) Q E := ⟨q⟩
theorem ev_of {m : R S (α × S)} {Q : α → S → Prop} {E : Exn → S → Prop} {a : α} {s : S} (h : m = .ok (a, s)) (q : Q a s) : Ev m Q E := by subst h; exact ⟨q⟩
theorem ev_errof {m : R S (α × S)} {Q : α → S → Prop} {E : Exn → S → Prop} {x : Exn} {s : S} (h : m = .err x s) (q : E x s) : Ev m Q E := by subst h; exact ⟨q⟩
end
section
variable {N N' : En → Prop} {P P' : D → En → Prop} {B B' C C' : En → Prop} {E : Exn → En → Prop}
theorem es_imp {m : R En Out} (h : Es m N P B C E) (hn : ∀ e, N e → N' e) (hp : ∀ d e, P d e → P' d e) (hb : ∀ e, B e → B' e) (hc : ∀ e, C e → C' e) : Es m N' P' B' C' E := by
  cases m with
  | stuck => exact ⟨h.1⟩
  | ok o => cases o with
    | nx e => exact ⟨hn _ h.1⟩
    | rt d e => exact ⟨hp _ _ h.1⟩
    | bk e => exact ⟨hb _ h.1⟩
    | ct e => exact ⟨hc _ h.1⟩
  | err x s => exact ⟨h.1⟩
theorem es_imp1 {m : R En Out} (h : Es m N P B C E) (hn : ∀ e, N e → N' e) : Es m N' P B C E := es_imp h hn (fun _ _ h => h) (fun _ h => h) fun _ h => h
theorem es_bind {α : Type} {m : R En (α × En)} {f : α × En → R En Out} (h : Ev m (fun a s => Es (f (a, s)) N P B C E) E) : Es (m.bind f) N P B C E := by
  cases m with
  | stuck => exact ⟨h.1⟩
  | ok a => exact h.1
  | err x s => exact ⟨h.1⟩
theorem es_ob {α : Type} {o : Option α} {f : α → R En Out} (h : EvO o fun a => Es (f a) N P B C E) : Es ((ofO o).bind f) N P B C E := by
  obtain ⟨r, e, q⟩ := h
  subst e
  exact q
/-! ### expressions -/
variable {Q : D → En → Prop} {QT : Bool → En → Prop} {QL : List D → En → Prop} {env : En} {f g k : EF} {h h' : D → D → Option D} {t u : En → R En (Bool × En)} {l : En → R En (List D × En)} {i j : Nat} {d : D} {ds : List D}
theorem ev_var (he : env[i]? = some (some (.im d))) (q : Q d env) : Ev (fVar i env) Q E := by rw [fVar_ap, he]; exact ⟨q⟩
theorem ev_c (q : Q d env) : Ev (fC d env) Q E := ⟨q⟩
theorem ev_op (q : Ev (f env) (fun a e => Ev (g e) (fun b e => EvO (h a b) fun r => Q r e) E) E) : Ev (fOp h f g env) Q E :=
  ev_bind (ev_imp1 q fun _ _ q => ev_bind (ev_imp1 q fun _ _ q => ev_obk q))
theorem ev_un {U : D → Option D} (q : Ev (f env) (fun a e => EvO (U a) fun r => Q r e) E) : Ev (fUn U f env) Q E := ev_bind (ev_imp1 q fun _ _ q => ev_obk q)
theorem ev_bool (q : Ev (f env) (fun a e => ∃ b, a = .bool b ∧ QT b e) E) : Ev (fBool f env) QT E := by
  refine ev_bind (ev_imp1 q fun a e q => ?_)
  obtain ⟨b, rfl, q⟩ := q
  exact ⟨q⟩
theorem ev_notT (q : Ev (t env) (fun b e => QT (!b) e) E) : Ev (fNotT t env) QT E := ev_bind (ev_imp1 q fun _ _ q => ⟨q⟩)
theorem ev_andT (q : Ev (t env) (fun b e => (b = true → Ev (u e) QT E) ∧ (b = false → QT false e)) E) : Ev (fAndT t u env) QT E := by
  refine ev_bind (ev_imp1 q fun b e q => ?_)
  cases b with
  | true => exact q.1 rfl
  | false => exact ⟨q.2 rfl⟩
theorem ev_orT (q : Ev (t env) (fun b e => (b = true → QT true e) ∧ (b = false → Ev (u e) QT E)) E) : Ev (fOrT t u env) QT E := by
  refine ev_bind (ev_imp1 q fun b e q => ?_)
  cases b with
  | true => exact ⟨q.1 rfl⟩
  | false => exact q.2 rfl
theorem ev_if (q : Ev (t env) (fun b e => (b = true → Ev (f e) Q E) ∧ (b = false → Ev (g e) Q E)) E) : Ev (fIf t f g env) Q E := by
  refine ev_bind (ev_imp1 q fun b e q => ?_)
  cases b with
  | true => exact q.1 rfl
  | false => exact q.2 rfl
theorem ev_andV (q : Ev (f env) (fun a e => ∃ b, a = .bool b ∧ (b = true → Ev (g e) Q E) ∧ (b = false → Q (.bool false) e)) E) : Ev (fAndV f g env) Q E := by
  refine ev_bind (ev_imp1 q fun a e q => ?_)
  obtain ⟨b, rfl, q⟩ := q
  cases b with
  | true => exact q.1 rfl
  | false => exact ⟨q.2 rfl⟩
theorem ev_orV (q : Ev (f env) (fun a e => ∃ b, a = .bool b ∧ (b = true → Q (.bool true) e) ∧ (b = false → Ev (g e) Q E)) E) : Ev (fOrV f g env) Q E := by
  refine ev_bind (ev_imp1 q fun a e q => ?_)
  obtain ⟨b, rfl, q⟩ := q
  cases b with
  | true => exact ⟨q.1 rfl⟩
  | false => exact q.2 rfl
theorem ev_chain (q : Ev (f env) (fun a e => Ev (g e) (fun b e => EvO (h a b) fun r => ∃ w, r = .bool w ∧ (w = true → Ev (k e) (fun c e => EvO (h' b c) fun r => Q r e) E) ∧ (w = false → Q (.bool false) e)) E) E) : Ev (fChain h h' f g k env) Q E := by
  refine ev_bind (ev_imp1 q fun a e q => ev_bind (ev_imp1 q fun b e q => ev_ob ?_))
  obtain ⟨r, hr, w, rfl, q⟩ := q
  refine ⟨_, hr, ?_⟩
  cases w with
  | true => exact ev_bind (ev_imp1 (q.1 rfl) fun _ _ q => ev_obk q)
  | false => exact ⟨q.2 rfl⟩
theorem ev_nil (q : QL [] env) : Ev ((fun env => .ok ([], env) : En → R En (List D × En)) env) QL E := ⟨q⟩
theorem ev_cons (q : Ev (f env) (fun a e => Ev (l e) (fun as e => QL (a :: as) e) E) E) : Ev (fCons f l env) QL E := ev_bind (ev_imp1 q fun _ _ q => ev_bind (ev_imp1 q fun _ _ q => ⟨q⟩))
theorem ev_star (q : Ev (f env) (fun a e => EvO (itemsD a) fun ds => Ev (l e) (fun as e => QL (ds ++ as) e) E) E) : Ev (fStar f l env) QL E :=
  ev_bind (ev_imp1 q fun _ _ q => ev_ob (by obtain ⟨r, h, q⟩ := q; exact ⟨r, h, ev_bind (ev_imp1 q fun _ _ q => ⟨q⟩)⟩))
theorem ev_tup (q : Ev (l env) (fun as e => as.length ≤ sizeLine ∧ Q (.tuple as) e) E) : Ev (fTup l env) Q E := by
  refine ev_bind (ev_imp1 q fun a e q => ?_)
  simp only [q.1, if_true]; exact ⟨q.2⟩
theorem ev_lst (q : Ev (l env) (fun as e => as.length ≤ sizeLine ∧ Q (.list as) e) E) : Ev (fLst l env) Q E := by
  refine ev_bind (ev_imp1 q fun a e q => ?_)
  simp only [q.1, if_true]; exact ⟨q.2⟩
theorem ev_ca {c : List D → Option D} (q : Ev (l env) (fun as e => EvO (c as) fun r => Q r e) E) : Ev (fCall c l env) Q E := ev_bind (ev_imp1 q fun _ _ q => ev_obk q)
theorem ev_isi {T : String} (q : Ev (f env) (fun a e => EvO (isTy T a) fun r => Q r e) E) : Ev (fIsi T f env) Q E := ev_bind (ev_imp1 q fun _ _ q => ev_obk q)
theorem ev_isE {T : Str} (q : Ev (f env) (fun a e => EvO (isEx T a) fun r => Q r e) E) : Ev (fIsE T f env) Q E := ev_un q
theorem ev_mt (q : Ev (f env) (fun a e => ∃ ds, a = .list ds ∧ Ev (g e) (fun b e => EvO (h (.list ds) b) fun r => Q r e) E) E) : Ev (fMt h f g env) Q E := by
  refine ev_bind (ev_imp1 q fun a e q => ?_)
  obtain ⟨ds, rfl, q⟩ := q
  exact ev_bind (ev_imp1 q fun _ _ q => ev_obk q)
theorem ev_ixO (hi : env[i]? = some (some (.ow ds))) (q : Ev (g env) (fun a e => ∃ es, e[i]? = some (some (.ow es)) ∧ EvO (ixD (.list es) a) fun r => Q r e) E) : Ev (fIxO i g env) Q E := by
  rw [fIxO_ap, hi]
  refine ev_bind (ev_imp1 q fun a e q => ?_)
  obtain ⟨es, he, q⟩ := q
  simp only [he]
  exact ev_obk q
theorem ev_lenO (hi : env[i]? = some (some (.ow ds))) (q : Q (.int ds.length) env) : Ev (fLenO i env) Q E := by rw [fLenO_ap, hi]; exact ⟨q⟩
theorem ev_reprO (hi : env[i]? = some (some (.ow ds))) (q : EvO (reprD [.list ds]) fun r => Q r env) : Ev (fReprO i env) Q E := by rw [fReprO_ap, hi]; exact ev_obk q
theorem ev_isiO {T : String} (hi : env[i]? = some (some (.ow ds))) (q : EvO (isTy T (.list [])) fun r => Q r env) : Ev (fIsiO T i env) Q E := by rw [fIsiO_ap, hi]; exact ev_obk q
theorem ev_opL (hi : env[i]? = some (some (.ow ds))) (q : Ev (g env) (fun a e => ∃ es, e[i]? = some (some (.ow es)) ∧ EvO (h (.list es) a) fun r => Q r e) E) : Ev (fOpL i h g env) Q E := by
  rw [fOpL_ap, hi]
  refine ev_bind (ev_imp1 q fun a e q => ?_)
  obtain ⟨es, he, q⟩ := q
  simp only [he]
  exact ev_obk q
theorem ev_opR (q : Ev (f env) (fun a e => ∃ es, e[i]? = some (some (.ow es)) ∧ EvO (h a (.list es)) fun r => Q r e) E) : Ev (fOpR i h f env) Q E := by
  rw [fOpR_ap]
  refine ev_bind (ev_imp1 q fun a e q => ?_)
  obtain ⟨es, he, q⟩ := q
  simp only [he]
  exact ev_obk q
theorem ev_items (q : Ev (f env) (fun a e => EvO (itemsD a) fun r => QL r e) E) : Ev (fItems f env) QL E := ev_bind (ev_imp1 q fun _ _ q => ev_obk q)
theorem ev_walk {w : List D → Option (List D)} (q : Ev (l env) (fun a e => EvO (w a) fun r => QL r e) E) : Ev (fWalk w l env) QL E := ev_bind (ev_imp1 q fun _ _ q => ev_obk q)
theorem ev_part {QP : Option Int → En → Prop} (q : Ev (f env) (fun a e => ∃ n, a = .int n ∧ QP (some n) e) E) : Ev (fPart f env) QP E := by
  refine ev_bind (ev_imp1 q fun a e q => ?_)
  obtain ⟨b, rfl, q⟩ := q
  exact ⟨q⟩
theorem ev_sl {s : D → Option Int → Option Int → Option D} {fl fh : En → R En (Option Int × En)} (q : Ev (f env) (fun a e => Ev (fl e) (fun x e => Ev (fh e) (fun y e => EvO (s a x y) fun r => Q r e) E) E) E) : Ev (fSl s f fl fh env) Q E :=
  ev_bind (ev_imp1 q fun _ _ q => ev_bind (ev_imp1 q fun _ _ q => ev_bind (ev_imp1 q fun _ _ q => ev_obk q)))
theorem ev_lend (hd : noDk env = true) (q : Ev (t (lentE env)) (fun b _ => QT b env) fun _ _ => False) : Ev (tLend t env) QT E := by
  unfold tLend
  rw [if_pos hd]
  revert q
  cases t (lentE env) with
  | stuck => exact fun q => ⟨q.1⟩
  | ok p => exact fun q => ⟨q.1⟩
  | err x s => exact fun q => q.1.elim
theorem ev_lendF (hd : noDk env = true) (q : Ev (f (lentE env)) (fun d _ => flatD d = true ∧ Q d env) fun _ _ => False) : Ev (fLend f env) Q E := by
  unfold fLend
  rw [if_pos hd]
  revert q
  cases f (lentE env) with
  | stuck => exact fun q => ⟨q.1⟩
  | ok p =>
    intro q
    show Ev (if flatD p.1 = true then _ else _) Q E
    rw [if_pos q.1.1]
    exact ⟨q.1.2⟩
  | err x s => exact fun q => q.1.elim
/-! calls -/
variable {QC : List PArg → En → Prop} {c : En → R En (List PArg × En)}
theorem ev_cNil (q : QC [] env) : Ev (cNil env) QC E := ⟨q⟩
theorem ev_cIm (q : Ev (f env) (fun a e => Ev (c e) (fun as e => QC (.im a :: as) e) E) E) : Ev (cIm f c env) QC E := ev_bind (ev_imp1 q fun _ _ q => ev_bind (ev_imp1 q fun _ _ q => ⟨q⟩))
theorem ev_cSl {s : Sl} (hj : env[j]? = some (some s)) (ho : s.own = true) (q : Ev (c env) (fun as e => QC (.sl j :: as) e) E) : Ev (cSl j c env) QC E := by
  rw [cSl_ap, hj]
  simp only [ho, if_true]
  exact ev_bind (ev_imp1 q fun _ _ q => ⟨q⟩)
inductive CallAs (e : En) (as : List PArg) (n : Nat) (np : List Nat) (G : List Sl → Prop) : Prop
  | mk (es : List Sl) (h1 : resolve e as = some es) (h2 : as.length = n) (h3 : (slotsOf as).Nodup) (h4 : okNp np 0 es = true) (q : G es) : CallAs e as n np G
theorem callAs_mk {e : En} {as : List PArg} {n : Nat} {np : List Nat} {G : List Sl → Prop} (es : List Sl) (h1 : resolve e as = some es) (h2 : as.length = n) (h3 : (slotsOf as).Nodup) (h4 : okNp np 0 es = true) (q : G es) : CallAs e as n np G := ⟨es, h1, h2, h3, h4, q⟩
theorem res_nil {e : En} : resolve e [] = some [] := rfl
theorem res_im {e : En} {d : D} {as : List PArg} {es : List Sl} (h : resolve e as = some es) : resolve e (.im d :: as) = some (.im d :: es) := by rw [resolve_im, h]; rfl
theorem res_sl {e : En} {j : Nat} {s : Sl} {as : List PArg} {es : List Sl} (hj : e[j]? = some (some s)) (ho : s.own = true) (h : resolve e as = some es) : resolve e (.sl j :: as) = some (s :: es) := by
  rw [resolve_sl, hj]; simp only [ho, if_true, h, Option.map_some]
theorem ev_call {n : Nat} {np : List Nat} {F : FD} (q : Ev (c env) (fun as e => CallAs e as n np fun es => Ev (F es) (fun d es' => Q d (back as es' e)) (fun x es' => E x (back as es' e))) E) : Ev (fCallF n np F c env) Q E := by
  refine ev_bind (ev_imp1 q fun as e q => ?_)
  obtain ⟨es, h1, h2, h3, h4, q⟩ := q
  simp only [h1]
  rw [if_pos ⟨h2, h3, h4⟩]
  cases hf : F es with
  | stuck => rw [hf] at q; exact q.1.elim
  | ok a => rw [hf] at q; exact ⟨q.1⟩
  | err x s => rw [hf] at q; exact ⟨q.1⟩
theorem back_ims : ∀ {as : List PArg} {s : List Sl} {e : En}, slotsOf as = [] → back as s e = e
  | [], s, e, _ => back_nil
  | .im d :: as, [], e, _ => rfl
  | .im d :: as, x :: s, e, h => back_ims (as := as) (s := s) h
  | .sl j :: as, _, e, h => nomatch h
theorem ev_fun {n : Nat} {a : SF} {es : List Sl} {QF : D → List Sl → Prop} {EF' : Exn → List Sl → Prop} (q : Es (a (es.map some ++ List.replicate (n - es.length) none)) (fun e => QF .none (backP es.length e)) (fun d e => QF d (backP es.length e)) (fun _ => False) (fun _ => False) (fun x e => EF' x (backP es.length e))) : Ev (runD n a es) QF EF' := by
  rw [runD_ap]
  revert q
  cases a (es.map some ++ List.replicate (n - es.length) none) with
  | stuck => exact fun q => ⟨q.1⟩
  | ok o => cases o <;> first | exact fun q => q.1 | exact fun q => ⟨q.1⟩
  | err x s => exact fun q => ⟨q.1⟩
/-! comprehensions -/
theorem ev_lc {T : TF} {vs : List Nat} {b : D → Bool} {v : D → D} {P0 : D → En → Prop} (q : Ev (l env) (fun ds e => okVs e vs = true ∧ ds.length ≤ sizeLine ∧
      (∀ d ∈ ds, EvO (T d (wipeE e vs)) fun e1 => Ev (t e1) (fun w e2 => w = b d ∧ (w = true → Ev (f e2) (fun r e3 => r = v d ∧ okVs e3 vs = true ∧ wipeE e3 vs = wipeE e vs) fun _ _ => False) ∧ (w = false → okVs e2 vs = true ∧ wipeE e2 vs = wipeE e vs)) fun _ _ => False) ∧
      Q (.list ((ds.filter b).map v)) (restE e (wipeE e vs) vs)) E) : Ev (fLc l T t f vs env) Q E := by
  refine ev_bind (ev_imp1 q fun ds e q => ?_)
  obtain ⟨h1, h2, h3, q⟩ := q
  simp only [h1, if_true]
  rw [compF_all (b := b) (v := v) (by simpa using h2) fun d hd => ?_]
  · rw [List.nil_append, bind_ok]; exact ⟨q⟩
  · obtain ⟨e1, a1, a2⟩ := h3 d hd
    obtain ⟨w, e2, b1, rfl, b2, b3⟩ := ev_eq a2
    refine ⟨e1, e2, a1, b1, fun hw => ?_, fun hw => b3 hw⟩
    obtain ⟨r, e3, c1, rfl, c2, c3⟩ := ev_eq (b2 hw)
    exact ⟨e3, c1, c2, c3⟩
theorem ev_lcm {T : TF} {vs : List Nat} {v : D → D} (q : Ev (l env) (fun ds e => okVs e vs = true ∧ ds.length ≤ sizeLine ∧
      (∀ d ∈ ds, EvO (T d (wipeE e vs)) fun e1 => Ev (f e1) (fun r e3 => r = v d ∧ okVs e3 vs = true ∧ wipeE e3 vs = wipeE e vs) fun _ _ => False) ∧
      Q (.list (ds.map v)) (restE e (wipeE e vs) vs)) E) : Ev (fLc l T (fun env => .ok (true, env)) f vs env) Q E := by
  refine ev_lc (b := fun _ => true) (v := v) (P0 := fun _ _ => True) (ev_imp1 q fun ds e q => ?_)
  obtain ⟨h1, h2, h3, q⟩ := q
  refine ⟨h1, h2, fun d hd => ?_, ?_⟩
  · obtain ⟨e1, a1, a2⟩ := h3 d hd
    exact ⟨e1, a1, rfl, fun _ => a2, fun w => nomatch w⟩
  · rw [List.filter_eq_self.mpr (by simp)]; exact q
theorem es_cut {a b : SF} (I : En → Prop) (h : Es (a env) I P B C E) (k : ∀ e, I e → Es (b e) N P B C E) : Es ((a env).bind fun o => match o with | .nx e => b e | o => .ok o) N P B C E := by
  revert h
  cases a env with
  | stuck => exact fun q => ⟨q.1⟩
  | ok o => cases o with
    | nx e => exact fun q => k e q.1
    | _ => exact fun q => ⟨q.1⟩
  | err x s => exact fun q => ⟨q.1⟩
/-! ### statements -/
variable {a b : SF}
theorem es_nil (q : N env) : Es (sNil env) N P B C E := ⟨q⟩
theorem es_pass (q : N env) : Es (sPass env) N P B C E := ⟨q⟩
theorem es_seq (q : Es (a env) (fun e => Es (b e) N P B C E) P B C E) : Es (sSeq a b env) N P B C E := by
  rw [sSeq_ap]
  revert q
  cases a env with
  | stuck => exact fun q => ⟨q.1⟩
  | ok o => cases o <;> first | exact fun q => q.1 | exact fun q => ⟨q.1⟩
  | err x s => exact fun q => ⟨q.1⟩
theorem es_expr (q : Ev (f env) (fun _ e => N e) E) : Es (sExpr f env) N P B C E := es_bind (ev_imp1 q fun _ _ q => ⟨q⟩)
theorem es_ret (q : Ev (f env) (fun d e => P d e) E) : Es (sRet f env) N P B C E := es_bind (ev_imp1 q fun _ _ q => ⟨q⟩)
theorem es_retN (q : P .none env) : Es (sRetN env) N P B C E := ⟨q⟩
theorem es_retO (hi : env[i]? = some (some (.ow ds))) (q : P (.list ds) env) : Es (sRetO i env) N P B C E := by rw [sRetO_ap, hi]; exact ⟨q⟩
theorem es_if (q : Ev (t env) (fun w e => (w = true → Es (a e) N P B C E) ∧ (w = false → Es (b e) N P B C E)) E) : Es (sIf t a b env) N P B C E := by
  refine es_bind (ev_imp1 q fun w e q => ?_)
  cases w with
  | true => exact q.1 rfl
  | false => exact q.2 rfl
theorem es_asg {T : TF} (q : Ev (f env) (fun d e => EvO (T d e) fun e => N e) E) : Es (sAsg f T env) N P B C E := es_bind (ev_imp1 q fun _ _ q => by obtain ⟨r, h, q⟩ := q; exact es_ob ⟨r, h, ⟨q⟩⟩)
theorem es_set (q : Ev (f env) (fun d e => N (e.set i (some (.im d)))) E) : Es (sSet i f env) N P B C E := es_bind (ev_imp1 q fun _ _ q => ⟨q⟩)
theorem es_setO (q : Ev (f env) (fun d e => ∃ ds, d = .list ds ∧ N (e.set i (some (.ow ds)))) E) : Es (sSetO i f env) N P B C E := by
  refine es_bind (ev_imp1 q fun d e q => ?_)
  obtain ⟨ds, rfl, q⟩ := q
  exact ⟨q⟩
theorem es_frz (hi : env[i]? = some (some (.ow ds))) (q : Es (a (env.set i (some (.im (.list ds))))) N P B C E) : Es (sFrz i a env) N P B C E := by rw [sFrz_ap, hi]; exact q
theorem es_app (hi : env[i]? = some (some (.ow ds))) (q : Ev (f env) (fun d e => ∃ es, e[i]? = some (some (.ow es)) ∧ es.length < sizeLine ∧ N (e.set i (some (.ow (es ++ [d]))))) E) : Es (sApp i f env) N P B C E := by
  rw [sApp_ap, hi]
  refine es_bind (ev_imp1 q fun d e q => ?_)
  obtain ⟨es, he, h2, q⟩ := q
  simp only [he]
  rw [if_pos h2]
  exact ⟨q⟩
theorem es_sto (q : Ev (f env) (fun d e => ∃ es, e[i]? = some (some (.ow es)) ∧ Ev (g e) (fun k e => ∃ es, e[i]? = some (some (.ow es)) ∧ ∃ n, k = .int n ∧ ∃ j, ixN es.length n = some j ∧ N (e.set i (some (.ow (es.set j d))))) E) E) : Es (sSto i g f env) N P B C E := by
  refine es_bind (ev_imp1 q fun d e q => ?_)
  obtain ⟨es, he, q⟩ := q
  simp only [he]
  refine es_bind (ev_imp1 q fun k e q => ?_)
  obtain ⟨es, he, n, rfl, j, h3, q⟩ := q
  simp only [he, h3]
  exact ⟨q⟩
theorem es_augS {op : Int → Int → Int} (hi : env[i]? = some (some (.ow ds))) (q : Ev (g env) (fun k e => ∃ es, e[i]? = some (some (.ow es)) ∧ ∃ n, k = .int n ∧ 0 ≤ n ∧ ∃ x, es[n.toNat]? = some (.int x) ∧
      Ev (f e) (fun p e => ∃ es, e[i]? = some (some (.ow es)) ∧ ∃ y, p = .int y ∧ n.toNat < es.length ∧ N (e.set i (some (.ow (es.set n.toNat (.int (op x y))))))) E) E) : Es (sAugS i op g f env) N P B C E := by
  rw [sAugS_ap, hi]
  refine es_bind (ev_imp1 q fun d e q => ?_)
  obtain ⟨es, he, n, rfl, h0, x, hx, q⟩ := q
  simp only [he, h0, hx, if_true]
  refine es_bind (ev_imp1 q fun k e q => ?_)
  obtain ⟨es, he, y, rfl, h3, q⟩ := q
  simp only [he, h3, if_true]
  exact ⟨q⟩
theorem es_aug {op : Int → Int → Int} {x : Int} (hi : env[i]? = some (some (.im (.int x)))) (q : Ev (f env) (fun p e => ∃ y, p = .int y ∧ N (e.set i (some (.im (.int (op x y)))))) E) : Es (sAug i op f env) N P B C E := by
  rw [sAug_ap, hi]
  refine es_bind (ev_imp1 q fun d e q => ?_)
  obtain ⟨y, rfl, q⟩ := q
  exact ⟨q⟩
theorem es_par (q : Ev (l env) (fun ds e => Par2 ds fun d d' => N ((e.set i (some (.im d))).set j (some (.im d')))) E) : Es (sPar i j l env) N P B C E := by
  refine es_bind (ev_imp1 q fun d e q => ?_)
  obtain ⟨q⟩ := q
  exact ⟨q⟩
theorem es_par3 {k : Nat} (q : Ev (l env) (fun ds e => Par3 ds fun d d' d'' => N (((e.set i (some (.im d))).set j (some (.im d'))).set k (some (.im d'')))) E) : Es (sPar3 i j k l env) N P B C E := by
  refine es_bind (ev_imp1 q fun d e q => ?_)
  obtain ⟨q⟩ := q
  exact ⟨q⟩
theorem es_raise {c : Str} (q : E ⟨c, []⟩ env) : Es (sRaise c env) N P B C E := ⟨q⟩
theorem es_tryK (q : Es (a env) N P B C (fun x e => decide (x.dat.length ≤ 1) = true ∧ x.cls ∈ exNames ∧ N ((e.set j (some (.im (excDP x)))).set i none))) : Es (sTryK i j a env) N P B C E := by
  unfold sTryK
  revert q
  cases a env with
  | stuck => exact fun q => ⟨q.1⟩
  | ok o => cases o <;> exact fun q => ⟨q.1⟩
  | err x e =>
    intro q
    show Es (if _ then _ else _) N P B C E
    rw [if_pos ⟨q.1.1, q.1.2.1⟩]
    exact ⟨q.1.2.2⟩
theorem es_for {T : TF} (q : Ev (l env) (fun ds e => Es (forF T a ds e) N P B C E) E) : Es (sFor l T a env) N P B C E := es_bind q
theorem es_while {n : En → Nat} (q : Es (whileF t a (n env) env) N P B C E) : Es (sWhile n t a env) N P B C E := q
theorem es_forF_nil {T : TF} (q : N env) : Es (forF T a [] env) N P B C E := ⟨q⟩
theorem es_forF_cons {T : TF} (q : EvO (T d env) fun e => Es (a e) (fun e => Es (forF T a ds e) N P B C E) P N (fun e => Es (forF T a ds e) N P B C E) E) : Es (forF T a (d :: ds) env) N P B C E := by
  rw [forF_cons]
  refine es_ob ?_
  obtain ⟨r, h1, q⟩ := q
  refine ⟨r, h1, ?_⟩
  show Es ((a r).bind _) N P B C E
  revert q
  cases a r with
  | stuck => exact fun q => ⟨q.1⟩
  | ok o => cases o <;> first | exact fun q => q.1 | exact fun q => ⟨q.1⟩
  | err x s => exact fun q => ⟨q.1⟩
/-- what holds before each turn -/
theorem es_forI {T : TF} (I : Nat → En → Prop) : ∀ {ds : List D} {env : En} {k0 : Nat}, I k0 env →
    (∀ k d e, ds[k]? = some d → I (k0 + k) e → EvO (T d e) fun e => Es (a e) (I (k0 + k + 1)) P N (I (k0 + k + 1)) E) → (∀ e, I (k0 + ds.length) e → N e) → Es (forF T a ds env) N P B C E
  | [], env, k0, h0, _, h2 => es_forF_nil (h2 _ h0)
  | d :: ds, env, k0, h0, h1, h2 => by
    refine es_forF_cons ?_
    obtain ⟨r, q1, q2⟩ := h1 0 d env rfl h0
    have ih : ∀ e, I (k0 + 1) e → Es (forF T a ds e) N P B C E := fun e he => es_forI I (ds := ds) (k0 := k0 + 1) he (fun k d' e' hk hI => by
      have z := h1 (k + 1) d' e' (by simpa using hk) (by rw [show k0 + (k + 1) = k0 + 1 + k by omega]; exact hI)
      rw [show k0 + (k + 1) + 1 = k0 + 1 + k + 1 by omega] at z
      exact z) fun e he => h2 e (by rw [List.length_cons, show k0 + (ds.length + 1) = k0 + 1 + ds.length by omega]; exact he)
    exact ⟨r, q1, es_imp q2 ih (fun _ _ h => h) (fun _ h => h) ih⟩
theorem es_forK {T : TF} (I : Nat → En → Prop) (h0 : I 0 env)
    (h1 : ∀ k d e, ds[k]? = some d → I k e → EvO (T d e) fun e => Es (a e) (I (k + 1)) P N (I (k + 1)) E) (h2 : ∀ e, I ds.length e → N e) : Es (forF T a ds env) N P B C E :=
  es_forI I (k0 := 0) h0 (fun k d e hk hI => by rw [Nat.zero_add] at hI ⊢; exact h1 k d e hk hI) fun e he => h2 e (by rw [Nat.zero_add] at he; exact he)
/-- with a measure -/
theorem es_whileI {I : En → Prop} {m : En → Nat} (h1 : ∀ e, I e → Ev (t e) (fun w e' => (w = true → Es (a e') (fun e2 => I e2 ∧ m e2 < m e) P N (fun e2 => I e2 ∧ m e2 < m e) E) ∧ (w = false → N e')) E) : ∀ {n : Nat} {env : En}, I env → m env < n → Es (whileF t a n env) N P B C E
  | 0, _, _, hn => absurd hn (Nat.not_lt_zero _)
  | n + 1, env, hI, hn => by
    unfold whileF
    refine es_bind (ev_imp1 (h1 env hI) fun w e q => ?_)
    cases w with
    | false => exact ⟨q.2 rfl⟩
    | true =>
      have z := q.1 rfl
      have ih : ∀ e2, I e2 ∧ m e2 < m env → Es (whileF t a n e2) N P B C E := fun e2 h => es_whileI h1 h.1 (by omega)
      simp only [if_true]
      revert z
      cases a e with
      | stuck => exact fun q => ⟨q.1⟩
      | ok o => cases o with
        | nx e2 => exact fun q => ih e2 q.1
        | ct e2 => exact fun q => ih e2 q.1
        | bk e2 => exact fun q => ⟨q.1⟩
        | rt d e2 => exact fun q => ⟨q.1⟩
      | err x s => exact fun q => ⟨q.1⟩
end
end DL
/-! texts of data -/
namespace DL
open PySem PySem.Spec PyProof.Rows L2
theorem strOk_append (x y : Str) : PyData.strOk (x ++ y) = (PyData.strOk x && PyData.strOk y) := by
  show (x.cps ++ y.cps).all _ = _
  rw [Array.all_append]; rfl
theorem strOk_ofString (s : String) : PyData.strOk (Str.ofString s) = true := by
  unfold PyData.strOk
  rw [Str.ofString_eq_toList]
  simp only [List.all_toArray, List.all_map, List.all_eq_true, Function.comp, decide_eq_true_eq]
  intro c _
  have h : c.toNat < 55296 ∨ 57343 < c.toNat ∧ c.toNat < 1114112 := c.valid
  omega
theorem strOk_textFrom : ∀ (ts : List Str) (k : Nat) (acc : Str), PyData.strOk acc = true → (∀ t ∈ ts, PyData.strOk t = true) → PyData.strOk (textFrom k acc ts) = true
  | [], _, _, h, _ => h
  | t :: ts, k, acc, h, ht => by
    unfold textFrom
    refine strOk_textFrom ts (k + 1) _ ?_ fun x hx => ht x (by simp [hx])
    rw [strOk_append, strOk_append, h, ht t (by simp)]
    split <;> simp only [strOk_ofString, Bool.and_self]
theorem strOk_join (sep : Str) (hs : PyData.strOk sep = true) : ∀ (ts : List Str), (∀ t ∈ ts, PyData.strOk t = true) → PyData.strOk (Str.join sep ts) = true
  | [], _ => by simp [Str.join, Str.empty, PyData.strOk]
  | [x], h => h x (by simp)
  | x :: y :: r, h => by
    show PyData.strOk (x ++ sep ++ Str.join sep (y :: r)) = true
    rw [strOk_append, strOk_append, h x (by simp), hs, strOk_join sep hs (y :: r) fun t ht => h t (by simp [ht])]; rfl
def TxOk (d : D) : Prop := PyData.strOk d.shown = true
theorem sok_int (i : Int) : TxOk (.int i) := strOk_ofString _
theorem sok_none : TxOk .none := strOk_ofString _
theorem sok_bool (b : Bool) : TxOk (.bool b) := by
  unfold TxOk PyData.shown; cases b <;> exact strOk_ofString _
theorem sok_all : ∀ {ds : List D}, (∀ d ∈ ds, TxOk d) → ∀ t ∈ PyData.shownAll ds, PyData.strOk t = true
  | [], _, _, ht => by simp [PyData.shownAll] at ht
  | d :: ds, h, t, ht => by
    simp only [PyData.shownAll, List.mem_cons] at ht
    rcases ht with rfl | ht
    · exact h d (by simp)
    · exact sok_all (ds := ds) (fun x hx => h x (by simp [hx])) t ht
theorem sok_list {ds : List D} (h : ∀ d ∈ ds, TxOk d) : TxOk (.list ds) := by
  unfold TxOk PyData.shown listText
  rw [strOk_append, strOk_textFrom _ _ _ (strOk_ofString _) (sok_all h)]
  exact strOk_ofString _
theorem sok_tuple {ds : List D} (h : ∀ d ∈ ds, TxOk d) : TxOk (.tuple ds) := by
  unfold TxOk PyData.shown tupleText
  rw [strOk_append, strOk_append, strOk_join _ (strOk_ofString _) _ (sok_all h), strOk_ofString]
  simp only [Bool.true_and]
  exact strOk_ofString _
/-- the same twice -/
theorem neD_same {n w : Nat} {d : D} (h : Nice n w d) (hn : n ≤ 64 := by decide) : neD d d = some (.bool false) := by
  rw [neD_nice h h hn hn, SeqAt.eqv_refl d h.lay]; rfl
theorem eqD_same {n w : Nat} {d : D} (h : Nice n w d) (hn : n ≤ 64 := by decide) : eqD d d = some (.bool true) := by
  rw [eqD_nice h h hn hn, SeqAt.eqv_refl d h.lay]
theorem neD_strSame {x : Str} (h : PyData.strOk x = true) : neD (.str x) (.str x) = some (.bool false) := by
  rw [neD_str h h, SeqAt.eqv_refl (.str x) (by simpa [PyData.canLay0] using h)]; rfl
theorem nice_ints {xs : List Int} {k : Nat} (h : ∀ x ∈ xs, -1000000000000000000000000000000 ≤ x ∧ x ≤ 1000000000000000000000000000000) (hk : xs.length ≤ k) : Nice 1 ((100 + 1) * k) (.list (xs.map .int)) ∧ Nice 1 ((100 + 1) * k) (.tuple (xs.map .int)) := by
  have a : NiceAll 0 100 (xs.map .int) := by
    intro d hd
    obtain ⟨x, hx, rfl⟩ := List.mem_map.mp hd
    exact nice_small (h x hx).1 (h x hx).2
  exact ⟨nice_list a (by rw [List.length_map]; exact hk), nice_tuple a (by rw [List.length_map]; exact hk)⟩
theorem sok_ints (xs : List Int) : ∀ d ∈ xs.map PyData.int, TxOk d := by
  intro d hd
  obtain ⟨x, _, rfl⟩ := List.mem_map.mp hd
  exact sok_int x
end DL
/-! _law_lists_apart -/
namespace DL
open PySem PySem.Spec PyProof.Rows L2
/-! ### a spoiled value -/
def spS : Option Sl → Option Sl
  | some (.im d) => if noLst d = true then some (.im d) else none
  | o => o
def okS : Option Sl → Bool
  | some (.ow ds) => noLstAll ds
  | some (.dk kvs) => noLstAll (kvs.map Prod.snd)
  | some (.db kvs) => noLstAll (kvs.map Prod.snd)
  | _ => true
def sSpoil : SF := fun env => if env.all okS = true then .ok (.nx (env.map spS)) else .stuck
def spA (K : PySem.W.Frag) : Sp := fun vs H Q _ => ∃ v d as, vs = [v] ∧ Tr K F0 H v d as ∧ as.Nodup ∧ dep d < 8 ∧ wt d < sizeLine ∧ ∀ H', (∀ a o, H a = some o → a ∉ as → H' a = some o) → (∀ a ∈ as, ∃ xs, H' a = some (.lst xs)) → Q (.bl true) H'
theorem spS_own {env : En} {i : Nat} {s : Sl} (h : (env.map spS)[i]? = some (some s)) : env[i]? = some (some s) ∧ ∀ d, s = .im d → noLst d = true := by
  rw [List.getElem?_map, Option.map_eq_some_iff] at h
  obtain ⟨o, h1, h2⟩ := h
  unfold spS at h2
  split at h2
  · split at h2
    · rename_i hn
      cases h2
      exact ⟨h1, fun d e => by cases e; exact hn⟩
    · cases h2
  · rename_i hno
    subst h2
    exact ⟨h1, fun d e => by subst e; exact (hno d rfl).elim⟩
theorem spS_of {env : En} {i : Nat} {s : Sl} (h : env[i]? = some (some s)) (ho : s.own = true) : (env.map spS)[i]? = some (some s) := by
  rw [List.getElem?_map, h]
  cases s <;> first | rfl | cases ho
section
variable {X : Cx} {z : Z} {fr : Bool} {sts : List Stmt} {j n m : Nat}
theorem spoiled {K : PySem.W.Frag} {np : List Nat} {B : Bs} {σ : Sg} {H H' : Hp} {env : En} {v : V} {d : D} {as : List Addr} (I : SR K np B σ H env) (T : Tr K (B.O σ env) H v d as) (nb : ∀ a ∈ as, B.H0 a = none) (nk : ∀ a ∈ as, B.kp a = none) (ho : env.all okS = true)
    (hk : ∀ a o, H a = some o → a ∉ as → H' a = some o) (hl : ∀ a ∈ as, ∃ xs, H' a = some (.lst xs)) : SR K np B σ H' (env.map spS) ∧ (∀ a, B.O σ (env.map spS) a → B.O σ env a) ∧ ∀ a, H' a = none → H a = none := by
  have ow : ∀ i a, ownedAt σ (env.map spS) i a ↔ ownedAt σ env i a := fun i a =>
    ⟨fun ⟨s, h1, h2, h3⟩ => ⟨s, (spS_own h1).1, h2, h3⟩, fun ⟨s, h1, h2, h3⟩ => ⟨s, spS_of h1 h2, h2, h3⟩⟩
  have eO : ∀ a, B.O σ (env.map spS) a → B.O σ env a := fun a w => w.elim .inl fun ⟨i, q⟩ => .inr ⟨i, (ow i a).1 q⟩
  have eO2 : ∀ a, B.O σ env a → B.O σ (env.map spS) a := fun a w => w.elim .inl fun ⟨i, q⟩ => .inr ⟨i, (ow i a).2 q⟩
  have th := T.there
  have k : ∀ a o, H a = some o → (∀ ys, o ≠ .lst ys) → H' a = some o := fun a o h hn => by
    refine hk a o h fun ha => ?_
    obtain ⟨⟨xs, e⟩, _⟩ := th a ha
    rw [e] at h
    cases h
    exact hn _ rfl
  have nas : ∀ a, B.O σ env a → a ∉ as := fun a hO ha => (th a ha).2 hO
  have dom : ∀ a, H' a = none → H a = none := fun a h => by
    cases e : H a with
    | none => rfl
    | some o =>
      by_cases ha : a ∈ as
      · obtain ⟨xs, q⟩ := hl a ha
        rw [h] at q; cases q
      · have := hk a o e ha
        rw [h] at this; cases this
  have oks : ∀ {i s}, env[i]? = some (some s) → okS (some s) = true := fun {i s} h => List.all_eq_true.mp ho _ (List.mem_of_getElem? h)
  refine ⟨⟨by rw [List.length_map]; exact I.len, fun i s h => ?_, fun i j a h1 h2 => I.dist i j a ((ow i a).1 h1) ((ow j a).1 h2), fun a o h hn => ?_, fun a h => I.dom a (dom a h), fun i a h => I.new i a ((ow i a).1 h), fun a h => ⟨fun w => (I.o0 a h).1 (dom a w), (I.o0 a h).2⟩, fun a o h => ?_, fun i a h => I.kpo i a ((ow i a).1 h), fun i a h => I.own0 i a ((ow i a).1 h), fun p hp => ?_, I.fix⟩, eO, dom⟩
  · obtain ⟨h1, h2⟩ := spS_own h
    obtain ⟨u, e, q⟩ := I.slot i s h1
    refine ⟨u, e, ?_⟩
    cases s with
    | im d => exact At.mv (Mv.less eO) (At.spoil k q (h2 d rfl))
    | ow ds =>
      obtain ⟨a, xs, rfl, hO, hH, r⟩ := q
      exact ⟨a, xs, rfl, eO2 a hO, hk a _ hH (nas a hO), AtAll.mv (Mv.less eO) (AtAll.spoil k r (oks h1))⟩
    | dk kvs =>
      obtain ⟨a, xs, rfl, hO, hH, f, r⟩ := q
      exact ⟨a, xs, rfl, eO2 a hO, hk a _ hH (nas a hO), f, AtAll.mv (Mv.less eO) (AtAll.spoil k r (oks h1))⟩
    | db kvs =>
      obtain ⟨a, xs, rfl, hO, hH, f, r⟩ := q
      exact ⟨a, xs, rfl, eO2 a hO, hk a _ hH (nas a hO), f, AtAll.mv (Mv.less eO) (AtAll.spoil k r (oks h1))⟩
  · exact hk a o (I.keep a o h hn) fun ha => by rw [nb a ha] at h; cases h
  · exact hk a o (I.kept a o h) fun ha => by rw [nk a ha] at h; cases h
  · obtain ⟨h1, h2, h3⟩ := I.par p hp
    exact ⟨(ow _ _).2 h1, h2, h3⟩
theorem dsm_apart {c : Expr} {a : List Stmt} {pos upos : Pos} {EE : Sg → XK} {ta : TS} {h : SF} (hc : PE X c (tCallG 1 (spA X.K) EE (tCons (tVar j) tNil))) (ha : PSs X a ta) (hr : DSs z X fr sts h) (hn : n < 8 := by decide) (hm : m < sizeLine := by decide)
    (he : ∀ whole, isTrue c X.env whole = (do let v ← whole; standAt c.pos; holding [v] (truthy v)) := by intro _; rfl) : DSM n m z X fr j (.If (.UnaryOp .Not c upos) a [] pos :: sts) (sSeq sSpoil h) := by
  refine pss_weak (pss_cons (ps_if (pt_not (pt_val hc he)) ha pss_nil) hr) fun Dd σ H ⟨B, env, σ0, H0, env0, v, d, as, I, M, p⟩ => ?_
  have hv : σ[j]? = some (some v) := (I.fix (j, v) (List.mem_cons_self ..)).1
  have I2 := I.unfixv M.ps M.fx
  have p := R.post_bind p
  unfold sSpoil at p
  split at p
  · rename_i ho
    refine ⟨v, hv, rfl, v, d, as, rfl, M.tr.mv (Mv.less fun _ h => h.elim), M.nd, Nat.lt_of_le_of_lt M.dp hn, Nat.lt_of_le_of_lt M.sz hm, fun H' hk hl => ⟨true, rfl, ?_⟩⟩
    obtain ⟨I', eO, dom⟩ := spoiled I2 M.tr M.nb M.nk ho hk hl
    have mv : Mv (B.O σ0 env0) (B.O σ (env.map spS)) H0 H' := ⟨(fun a o h hn => hk a o (M.mv.keep a o h hn) fun ha => by rw [M.nw a ha] at h; cases h), fun a w => M.mv.own a (eO a w), fun a h => M.mv.dom a (dom a h)⟩
    have p : (h (env.map spS)).post (SOk X.K z fr B σ0 H0 env0 Dd) (XS X.K z B σ0 H0 env0) := p
    exact ⟨B, _, I', p.imp (fun o q => q.step mv) fun x e q => q.step mv⟩
  · exact p.elim
end
/-! ### the promise of _law_lists_apart -/
def fG1 : EF := fLc (fItems (fVar 1)) (tN 3) (fun env => .ok (true, env)) (fCall lenD (fCons (fVar 3) (fun env => .ok ([], env)))) [3]
def fG2 : EF := fOp eqD fG1 (fLc (fItems (fVar 2)) (tN 4) (fun env => .ok (true, env)) (fOp addD (fVar 4) (fC (.int 1))) [4])
def oneL : D → D
  | .list ds => .int ds.length
  | _ => .none
theorem fG1_eq {s0 s2 : Option Sl} {ls : List (List D)} (hl : ls.length ≤ sizeLine) : fG1 [s0, some (.im (.list (ls.map .list))), s2, none, none] = .ok (.list ((ls.map fun l => (l.length : Int)).map .int), [s0, some (.im (.list (ls.map .list))), s2, none, none]) := by
  refine ev_eqs ?_
  refine ev_lcm (v := oneL) ?_
  refine ev_items (ev_var rfl ?_)
  refine ev_o rfl ?_
  refine ⟨rfl, by simpa using hl, fun d hd => ?_, ?_⟩
  · obtain ⟨l, _, rfl⟩ := List.mem_map.mp hd
    refine ev_o rfl ?_
    exact ev_ca (ev_cons (ev_var rfl (ev_nil (ev_o rfl ⟨rfl, rfl, rfl⟩))))
  · refine ⟨?_, rfl⟩
    rw [List.map_map, List.map_map]
    rfl
theorem fG2_eq {s0 : Option Sl} {ls : List (List D)} {ns : List Int} (hl : ls.length ≤ sizeLine) (hs : (ls.map fun l => (l.length : Int)) = ns.map (· + 1)) (hb : ∀ l ∈ ls, l.length ≤ sizeLine) :
    fG2 [s0, some (.im (.list (ls.map .list))), some (.im (.list (ns.map .int))), none, none] = .ok (.bool true, [s0, some (.im (.list (ls.map .list))), some (.im (.list (ns.map .int))), none, none]) := by
  have hlen : ns.length = ls.length := by have := congrArg List.length hs; simpa using this.symm
  refine ev_eqs (ev_op (ev_of (fG1_eq hl) ?_))
  refine ev_lcm (v := fun d => match d with | .int i => .int (i + 1) | _ => .none) ?_
  refine ev_items (ev_var rfl ?_)
  refine ev_o rfl ?_
  refine ⟨rfl, by rw [List.length_map, hlen]; exact hl, fun d hd => ?_, ?_⟩
  · obtain ⟨l, _, rfl⟩ := List.mem_map.mp hd
    refine ev_o rfl ?_
    exact ev_op (ev_var rfl (ev_c (ev_o rfl ⟨rfl, rfl, rfl⟩)))
  · have e : List.map (fun d : D => match d with | .int i => PyData.int (i + 1) | _ => .none) (ns.map .int) = (ls.map fun l => (l.length : Int)).map .int := by
      rw [hs, List.map_map, List.map_map]
      rfl
    rw [e]
    have nice := (nice_ints (xs := ls.map fun l => (l.length : Int)) (k := ls.length) (fun x hx => by
      obtain ⟨l, hl, rfl⟩ := List.mem_map.mp hx
      have := hb l hl
      have := sizeLine_eq
      omega) (by simp)).1
    exact ev_o (eqD_same nice (by decide)) ⟨rfl, rfl⟩
def tApart (K : PySem.W.Frag) (n : Nat) (EE : Sg → XK) (z : Z) : TS :=
  tSeq (tAsg (tCallG 1 (spL K n) EE (tCons (tVar 0) tNil)) (gName 1)) (tSeq (tS K z true (sSetO 2 fG1))
    (tSeq (tFor (iSeq K (tVar 1)) (gName 3) (tDrop (tBM K "list" rAppend (tVar 3) (tCons (L2.tC .non) tNil)))) (tS K z true (sRet fG2))))
section
variable {K : PySem.W.Frag}
/-- the lists at these places -/
theorem ls_at {O : Addr → Prop} {H : Hp} {n : Nat} : ∀ {as : List Addr}, (∀ a ∈ as, LsOk K O H n a) → ∃ ls : List (List D), AtAll K O H (as.map V.ref) (ls.map .list) ∧ ls.length = as.length ∧ (∀ l ∈ ls, l.length ≤ n) ∧ ∀ (i : Nat) (a : Addr) (xs : List V), as[i]? = some a → H a = some (.lst xs) → (ls[i]?.map List.length) = some xs.length
  | [], _ => ⟨[], .nil, rfl, (fun _ h => by cases h), (fun i a xs h => by simp at h)⟩
  | a :: as, h => by
    obtain ⟨ls, h1, h2, h3, h4⟩ := ls_at (as := as) fun b hb => h b (List.mem_cons_of_mem _ hb)
    obtain ⟨xs, ds, e1, e2, e3, e4⟩ := h a (List.mem_cons_self ..)
    refine ⟨ds :: ls, .cons e2 h1, congrArg (· + 1) h2, fun l hl => ?_, fun i b ys hb hy => ?_⟩
    · rcases List.mem_cons.mp hl with rfl | hl
      · omega
      · exact h3 l hl
    · cases i with
      | zero =>
        have : a = b := by simpa using hb
        subst this
        rw [e1] at hy
        cases hy
        simp [e3]
      | succ i => simpa using h4 i b ys (by simpa using hb) hy
theorem apart_sem {n : Nat} {vs : List V} {H : Hp} {Q : VK} {E : XK} {EE : Sg → XK} {z : Z} {a b c d e : Str} (hz : z.np = [1]) (hn : 8 ≤ n) (h : spA K vs H Q E) : tApart K n EE z { nx := fun _ H' => Q .non H', rt := Q } (start [a, b, c, d, e] vs) H := by
  obtain ⟨v, dd, as, rfl, T, nd, hd, hw, q⟩ := h
  refine ⟨v, rfl, rfl, v, dd, as, rfl, T, by omega, hw, fun p H1 e1 hp0 hp => ?_⟩
  have T1 := T.mv (Mv.ex e1 : Mv F0 F0 H H1)
  have cnt := Tr.count T
  obtain ⟨ls, la, ll, lb, lg⟩ := ls_at T1.lists
  have nO : F0 p → ∀ H' : Hp, SqL K H' p (as.map V.ref) := fun h => h.elim
  have f1 : FlatR K H1 [some v, some (.ref p), none, none, none] [some (.im dd), some (.im (.list (ls.map .list))), none, none, none] := .im T1.at (.im (.lst ⟨SqL.of hp, nO⟩ la) (.non _ (.non _ (.non _ .nil))))
  show tS K z true (sSetO 2 fG1) _ [some v, some (.ref p), none, none, none] H1
  refine ⟨(B0 H1).fixv 1 (.ref p), _, by rw [hz]; exact (f1.sr (np := [])).fixv rfl, ?_⟩
  have e3 : sSetO 2 fG1 [some (.im dd), some (.im (.list (ls.map .list))), none, none, none] = .ok (.nx [some (.im dd), some (.im (.list (ls.map .list))), some (.ow ((ls.map fun l => (l.length : Int)).map .int)), none, none]) := by
    unfold sSetO
    rw [fG1_eq (by omega)]
    rfl
  rw [e3]
  intro σ2 H2 I2 m2
  have e2 : Ex H1 H2 := ex_of m2 (f1.noO _ fun _ h => h)
  have hs1 : σ2[1]? = some (some (.ref p)) := (I2.fix (1, .ref p) (List.mem_cons_self ..)).1
  obtain ⟨q2, xs2, hs2, hO2, hq2, r2⟩ := I2.ow (i := 2) (ds := (ls.map fun l => (l.length : Int)).map .int) rfl
  obtain rfl := r2.ints
  have len2 : σ2.length = 5 := I2.len
  have nq2 : H1 q2 = none := by
    rcases I2.new 2 q2 ⟨_, rfl, rfl, hs2⟩ with h | h
    · cases h
    · exact h
  have T2 := T1.mv (Mv.ex e2 : Mv F0 F0 H1 H2)
  have th := T2.there
  have th1 := T1.there
  have th0 := T.there
  have pas : p ∉ as := fun ha => by
    obtain ⟨⟨xs, e⟩, _⟩ := th0 p ha
    rw [hp0] at e; cases e
  have qas : q2 ∉ as := fun ha => by
    obtain ⟨⟨xs, e⟩, _⟩ := th1 q2 ha
    rw [nq2] at e; cases e
  have hp2 := e2 _ _ hp
  refine ⟨.ref p, hs1, .inl ⟨p, rfl, ⟨_, SqL.of hp2⟩, ?_⟩⟩
  refine ⟨fun i m σ Hh => m = as.length - i ∧ i ≤ as.length ∧ σ[1]? = some (some (.ref p)) ∧ σ[2]? = some (some (.ref q2)) ∧ σ.length = 5 ∧ (∀ a o, a ∉ as.take i → H2 a = some o → Hh a = some o) ∧ ∀ a ∈ as.take i, ∃ xs, H2 a = some (.lst xs) ∧ Hh a = some (.lst (xs ++ [.non])),
    ⟨_, rfl, Nat.zero_le _, hs1, hs2, len2, fun _ _ _ h => h, fun a h => by simp at h⟩, ?_⟩
  rintro i m σ Hh ⟨rfl, hi, h1, h2, h5, hk, hl⟩
  have hpH : Hh p = some (.lst (as.map V.ref)) := hk p _ (fun h => pas (List.mem_of_mem_take h)) hp2
  by_cases hlt : i < as.length
  · refine .inr ⟨⟨_, .ref as[i], SqL.of hpH, by rw [List.getElem?_map, List.getElem?_eq_getElem hlt]; rfl⟩, fun σ' H' => i + 1 ≤ as.length ∧ σ'[1]? = some (some (.ref p)) ∧ σ'[2]? = some (some (.ref q2)) ∧ σ'.length = 5 ∧ (∀ a o, a ∉ as.take (i + 1) → H2 a = some o → H' a = some o) ∧ ∀ a ∈ as.take (i + 1), ∃ xs, H2 a = some (.lst xs) ∧ H' a = some (.lst (xs ++ [.non])),
      fun σ' H' w => ⟨as.length - (i + 1), by omega, rfl, w⟩, ?_⟩
    rintro x H' ⟨eH, hx⟩
    subst eH
    have hx := hx _ (SqL.of hpH)
    rw [List.getElem?_map, List.getElem?_eq_getElem hlt] at hx
    cases hx
    have mem : as[i] ∈ as := List.getElem_mem hlt
    obtain ⟨xs, ds, g1, g2, g3, g4⟩ := T2.lists as[i] mem
    have tk : as.take (i + 1) = as.take i ++ [as[i]] := by rw [List.take_succ, List.getElem?_eq_getElem hlt]; rfl
    have nin : as[i] ∉ as.take i := fun h => by
      have nd' : (as.take (i + 1)).Nodup := nd.sublist (List.take_sublist _ _)
      rw [tk, List.nodup_append] at nd'
      exact nd'.2.2 _ h _ (List.mem_singleton.mpr rfl) rfl
    have ha := hk _ _ nin g1
    refine ⟨.ref as[i], List.getElem?_set_self (by omega), .inl ⟨rfl, _, SqL.of ha⟩, as[i], xs, .non, rfl, rfl, ha, by omega, ?_⟩
    refine ⟨by omega, by rw [List.getElem?_set_ne (by decide)]; exact h1, by rw [List.getElem?_set_ne (by decide)]; exact h2, by simpa using h5, fun a o hna e => ?_, fun a ha2 => ?_⟩
    · rw [tk, List.mem_append, not_or, List.mem_singleton] at hna
      rw [upd_ne hna.2]
      exact hk a o hna.1 e
    · rw [tk, List.mem_append, List.mem_singleton] at ha2
      rcases ha2 with ha2 | rfl
      · obtain ⟨ys, w1, w2⟩ := hl a ha2
        exact ⟨ys, w1, by rw [upd_ne (show a ≠ as[i] from fun w => nin (by rw [← w]; exact ha2))]; exact w2⟩
      · exact ⟨xs, g1, upd_same⟩
  · have e : i = as.length := by omega
    subst e
    rw [List.take_length] at hk hl
    refine .inl ⟨⟨_, SqL.of hpH, by rw [List.length_map]; exact Nat.le_refl _⟩, ?_⟩
    obtain ⟨s0, s1, s2, s3, s4, rfl⟩ : ∃ s0 s1 s2 s3 s4, σ = [s0, s1, s2, s3, s4] := by
      match σ, h5 with
      | [s0, s1, s2, s3, s4], _ => exact ⟨_, _, _, _, _, rfl⟩
    obtain rfl : s1 = some (.ref p) := by simpa using h1
    obtain rfl : s2 = some (.ref q2) := by simpa using h2
    have hq := hk q2 _ qas hq2
    obtain ⟨d', T3⟩ := Tr.spoil (H' := Hh) (fun a o h hno => hk a o (fun ha => by
      obtain ⟨⟨xs, e⟩, _⟩ := th a ha
      rw [e] at h
      cases h
      exact hno _ rfl) h) T2 fun a ha xs e => by
        obtain ⟨ys, w1, w2⟩ := hl a ha
        rw [e] at w1
        cases w1
        exact w2
    obtain ⟨ls3, la3, ll3, lb3, lg3⟩ := ls_at (as := as) (n := sizeLine) fun a ha => by
      obtain ⟨ys, ds, w1, w2, w3, _⟩ := T3.lists a ha
      obtain ⟨xs, u1, u2⟩ := hl a ha
      obtain ⟨xs', ds', g1, g2, g3, g4⟩ := T2.lists a ha
      rw [u1] at g1
      cases g1
      rw [u2] at w1
      cases w1
      exact ⟨_, ds, u2, w2, w3, by rw [List.length_append]; simp only [List.length_cons, List.length_nil]; omega⟩
    have hsz : (ls3.map fun l => (l.length : Int)) = (ls.map fun l => (l.length : Int)).map (· + 1) := by
      apply List.ext_getElem?
      intro k
      rw [List.getElem?_map, List.getElem?_map, List.getElem?_map]
      by_cases hk2 : k < as.length
      · obtain ⟨xs, u1, u2⟩ := hl as[k] (List.getElem_mem hk2)
        obtain ⟨⟨ys, w⟩, _⟩ := th1 as[k] (List.getElem_mem hk2)
        have w2 := e2 _ _ w
        rw [u1] at w2
        cases w2
        have g1 := lg k as[k] _ (List.getElem?_eq_getElem hk2) w
        have g3 := lg3 k as[k] _ (List.getElem?_eq_getElem hk2) u2
        rw [Option.map_eq_some_iff] at g1 g3
        obtain ⟨l1, x1, x2⟩ := g1
        obtain ⟨l3, x3, x4⟩ := g3
        rw [x1, x3]
        simp only [Option.map_some, x2, x4, List.length_append, List.length_cons, List.length_nil]
        rfl
      · rw [List.getElem?_eq_none (by omega), List.getElem?_eq_none (by omega)]
        rfl
    have f3 : FlatR K Hh [s0, some (.ref p), some (.ref q2), s3, s4] [none, some (.im (.list (ls3.map .list))), some (.im (.list ((ls.map fun l => (l.length : Int)).map .int))), none, none] :=
      .non _ (.im (.lst ⟨SqL.of hpH, fun h => h.elim⟩ la3) (.im (.lst ⟨SqL.of hq, fun h => h.elim⟩ (AtAll.of_ints _)) (.non _ (.non _ .nil))))
    refine ⟨B0 Hh, _, f3.sr, ?_⟩
    have e4 : sRet fG2 [none, some (.im (.list (ls3.map .list))), some (.im (.list ((ls.map fun l => (l.length : Int)).map .int))), none, none] = .ok (.rt (.bool true) [none, some (.im (.list (ls3.map .list))), some (.im (.list ((ls.map fun l => (l.length : Int)).map .int))), none, none]) := by
      unfold sRet
      rw [fG2_eq (by omega) hsz lb3]
      rfl
    rw [e4]
    intro v' σ' H' I' m' r' _
    obtain ⟨ra, _⟩ := r'
    cases ra
    have e5 : Ex Hh H' := ex_of m' (f3.noO _ fun _ h => h)
    exact q H' (fun a o h ha => e5 _ _ (hk a o ha (e2 _ _ (e1 _ _ h)))) fun a ha => by
      obtain ⟨xs, _, w⟩ := hl a ha
      exact ⟨_, e5 _ _ w⟩
end
end DL
namespace DL
open PySem PySem.Spec PyProof.Rows L2
def g_is_whole : SF := sRet (fAndV (fIsi "int" (fVar 0)) (fUn notD (fIsi "bool" (fVar 0))))
def F_is_whole : FD := runD 1 g_is_whole
def g_is_from : SF := sRet (fAndV (fCallF 1 [] F_is_whole (cIm (fVar 0) (cNil))) (fOp geD (fVar 0) (fVar 1)))
def F_is_from : FD := runD 2 g_is_from
def g_is_within : SF := sRet (fAndV (fCallF 1 [] F_is_whole (cIm (fVar 0) (cNil))) (fChain leD leD (fVar 1) (fVar 0) (fVar 2)))
def F_is_within : FD := runD 3 g_is_within
def g_is_term : SF := sSeq (sIf (fOrT (fNotT (fBool (fIsi "tuple" (fVar 1)))) (fBool (fOp neD (fCall lenD (fCons (fVar 1) ((fun env => .ok ([], env))))) (fC (.int 4))))) (sRet (fC (.bool false))) (sNil)) (sSeq (sAsg (fVar 1) (tTuple 4 (tsCons (tN 2) (tsCons (tN 3) (tsCons (tN 4) (tsCons (tN 5) (tsNil))))))) (sSeq (sIf (fOrT (fNotT (fBool (fCallF 3 [] F_is_within (cIm (fVar 2) (cIm (fC (.int 0)) (cIm (fOp subD (fVar 0) (fC (.int 1))) (cNil))))))) (fNotT (fBool (fCallF 3 [] F_is_within (cIm (fVar 3) (cIm (fC (.int 1)) (cIm (fVar 0) (cNil)))))))) (sRet (fC (.bool false))) (sNil)) (sRet (fAndV (fCallF 2 [] F_is_from (cIm (fVar 4) (cIm (fC (.int 0)) (cNil)))) (fOrV (fOp isD (fVar 5) (fC .none)) (fCallF 2 [] F_is_from (cIm (fVar 5) (cIm (fC (.int 0)) (cNil)))))))))
def F_is_term : FD := runD 6 g_is_term
def g_is_right_ring : SF := sSeq (sIf (fOrT (fNotT (fBool (fIsi "tuple" (fVar 0)))) (fOrT (fBool (fOp neD (fCall lenD (fCons (fVar 0) ((fun env => .ok ([], env))))) (fC (.int 2)))) (fNotT (fBool (fCallF 3 [] F_is_within (cIm (fOp ixD (fVar 0) (fC (.int 0))) (cIm (fC (.int 1)) (cIm (fC (.int 40)) (cNil))))))))) (sRet (fC (.bool false))) (sNil)) (sRet (fAndV (fIsi "tuple" (fOp ixD (fVar 0) (fC (.int 1)))) (fCall allD (fCons (fLc (fItems (fOp ixD (fVar 0) (fC (.int 1)))) (tN 1) ((fun env => .ok (true, env))) (fCallF 2 [] F_is_term (cIm (fOp ixD (fVar 0) (fC (.int 0))) (cIm (fVar 1) (cNil)))) [1]) ((fun env => .ok ([], env)))))))
def F_is_right_ring : FD := runD 2 g_is_right_ring
def g_look_at_ring : SF := sIf (fNotT (fBool (fCallF 1 [] F_is_right_ring (cIm (fVar 0) (cNil))))) (sRaise "NoRing") (sNil)
def F_look_at_ring : FD := runD 1 g_look_at_ring
def g_look_at_total : SF := sIf (fNotT (fBool (fCallF 2 [] F_is_from (cIm (fVar 0) (cIm (fC (.int 0)) (cNil)))))) (sRaise "NoTotal") (sNil)
def F_look_at_total : FD := runD 1 g_look_at_total
def g_demands : SF := sSeq (sSet 2 (fOp ixD (fVar 0) (fC (.int 0)))) (sSeq (sSetO 3 (fLc (fWalk rangeD1 (fCons (fVar 2) ((fun env => .ok ([], env))))) (tN 11) ((fun env => .ok (true, env))) (fTup (fCons (fVar 11) (fCons (fOp modD (fOp addD (fVar 11) (fC (.int 1))) (fVar 2)) (fCons (fC (.int 0)) (fCons (fC .none) (fCons (fC (.int 1)) (fCons (fOp fdivD (fOp addD (fVar 11) (fC (.int 1))) (fVar 2)) ((fun env => .ok ([], env)))))))))) [11])) (sSeq (sFor (fWalk enumD (fCons (fOp ixD (fVar 0) (fC (.int 1))) ((fun env => .ok ([], env))))) (tTuple 2 (tsCons (tN 4) (tsCons (tTuple 4 (tsCons (tN 5) (tsCons (tN 6) (tsCons (tN 7) (tsCons (tN 8) (tsNil)))))) (tsNil)))) (sSeq (sPar 9 10 (fCons (fOp modD (fOp addD (fVar 5) (fVar 6)) (fVar 2)) (fCons (fOp fdivD (fOp addD (fVar 5) (fVar 6)) (fVar 2)) ((fun env => .ok ([], env)))))) (sSeq (sApp 3 (fTup (fCons (fVar 5) (fCons (fVar 9) (fCons (fVar 7) (fCons (fVar 4) (fCons (fC (.int 1)) (fCons (fVar 10) ((fun env => .ok ([], env))))))))))) (sIf (fBool (fOp isntD (fVar 8) (fC .none))) (sApp 3 (fTup (fCons (fVar 9) (fCons (fVar 5) (fCons (fUn negD (fVar 8)) (fCons (fVar 4) (fCons (fUn negD (fC (.int 1))) (fCons (fVar 10) ((fun env => .ok ([], env))))))))))) (sNil))))) (sFrz 3 (sRet (fLc (fItems (fVar 3)) (tTuple 6 (tsCons (tN 12) (tsCons (tN 13) (tsCons (tN 14) (tsCons (tN 15) (tsCons (tN 16) (tsCons (tN 10) (tsNil)))))))) ((fun env => .ok (true, env))) (fTup (fCons (fVar 12) (fCons (fVar 13) (fCons (fOp subD (fVar 14) (fOp mulD (fOp mulD (fVar 16) (fVar 10)) (fVar 1))) (fCons (fVar 15) (fCons (fVar 16) (fCons (fVar 10) ((fun env => .ok ([], env)))))))))) [12, 13, 14, 15, 16, 10])))))
def F_demands : FD := runD 17 g_demands
def n_contradiction_0 : En → Nat := fun _ => 1000000000000
def g_contradiction : SF := sSeq (sSetO 2 (fOp repD (fLst (fCons (fC (.int 0)) ((fun env => .ok ([], env))))) (fVar 0))) (sSeq (sSetO 3 (fOp repD (fLst (fCons (fC .none) ((fun env => .ok ([], env))))) (fVar 0))) (sSeq (sSet 4 (fC .none)) (sSeq (sFor (fWalk rangeD1 (fCons (fOp addD (fVar 0) (fC (.int 1))) ((fun env => .ok ([], env))))) (tN 5) (sSeq (sSet 4 (fC .none)) (sFor (fItems (fVar 1)) (tN 6) (sIf (fBool (fOp gtD (fOp addD (fIxO 2 (fOp ixD (fVar 6) (fC (.int 0)))) (fOp ixD (fVar 6) (fC (.int 2)))) (fIxO 2 (fOp ixD (fVar 6) (fC (.int 1)))))) (sSeq (sSto 2 (fOp ixD (fVar 6) (fC (.int 1))) (fOp addD (fIxO 2 (fOp ixD (fVar 6) (fC (.int 0)))) (fOp ixD (fVar 6) (fC (.int 2))))) (sSeq (sSto 3 (fOp ixD (fVar 6) (fC (.int 1))) (fVar 6)) (sSet 4 (fOp ixD (fVar 6) (fC (.int 1)))))) (sNil))))) (sSeq (sIf (fBool (fOp isD (fVar 4) (fC .none))) (sRet (fC .none)) (sNil)) (sSeq (sFor (fWalk rangeD1 (fCons (fVar 0) ((fun env => .ok ([], env))))) (tN 5) (sSet 4 (fOp ixD (fIxO 3 (fVar 4)) (fC (.int 0))))) (sSeq (sSetO 7 (fLst (fCons (fIxO 3 (fVar 4)) ((fun env => .ok ([], env)))))) (sSeq (sWhile n_contradiction_0 (fBool (fOp neD (fOp ixD (fIxO 7 (fUn negD (fC (.int 1)))) (fC (.int 0))) (fVar 4))) (sApp 7 (fIxO 3 (fOp ixD (fIxO 7 (fUn negD (fC (.int 1)))) (fC (.int 0)))))) (sRetO 7))))))))
def F_contradiction : FD := runD 8 g_contradiction
def g_found_bar : SF := sSeq (sSet 2 (fCallF 2 [] F_contradiction (cIm (fOp ixD (fVar 0) (fC (.int 0))) (cIm (fCallF 2 [] F_demands (cIm (fVar 0) (cIm (fVar 1) (cNil)))) (cNil))))) (sSeq (sIf (fBool (fOp isD (fVar 2) (fC .none))) (sRetT (fFlat (fC .none))) (sNil)) (sSeq (sSetO 3 (fCall sortedD (fCons (fLc (fItems (fVar 2)) (tN 5) (fAndT (fBool (fOp isntD (fOp ixD (fVar 5) (fC (.int 3))) (fC .none))) (fBool (fOp eqD (fOp ixD (fVar 5) (fC (.int 4))) (fC (.int 1))))) (fOp ixD (fVar 5) (fC (.int 3))) [5]) ((fun env => .ok ([], env)))))) (sSeq (sSetO 4 (fCall sortedD (fCons (fLc (fItems (fVar 2)) (tN 5) (fBool (fOp eqD (fOp ixD (fVar 5) (fC (.int 4))) (fUn negD (fC (.int 1))))) (fOp ixD (fVar 5) (fC (.int 3))) [5]) ((fun env => .ok ([], env)))))) (sRetOO 3 4 (fCall sumD (fCons (fLc (fItems (fVar 2)) (tN 5) ((fun env => .ok (true, env))) (fOp mulD (fOp ixD (fVar 5) (fC (.int 4))) (fOp ixD (fVar 5) (fC (.int 5)))) [5]) ((fun env => .ok ([], env)))))))))
def F_found_bar : FD := runD 6 g_found_bar
def g_heights_from : SF := sSeq (sSetDk 3 2 (.int 0)) (sSeq (sFor (fWalk rangeD1 (fCons (fVar 0) ((fun env => .ok ([], env))))) (tN 4) (sFor (fItems (fVar 1)) (tN 5) (sIf (fBool (fDIn 3 (fOp ixD (fVar 5) (fC (.int 0))))) (sSeq (sSet 6 (fOp addD (fDIx 3 (fOp ixD (fVar 5) (fC (.int 0)))) (fOp ixD (fVar 5) (fC (.int 2))))) (sDSto 3 (fOp ixD (fVar 5) (fC (.int 1))) (fCall maxD (fCons (fDGet2 3 (fOp ixD (fVar 5) (fC (.int 1))) (fVar 6)) (fCons (fVar 6) ((fun env => .ok ([], env)))))))) (sNil)))) (sRet (fLc (fWalk rangeD1 (fCons (fVar 0) ((fun env => .ok ([], env))))) (tN 6) ((fun env => .ok (true, env))) (fDIx 3 (fVar 6)) [6])))
def F_heights_from : FD := runD 7 g_heights_from
def g_turned : SF := sRet (fLc (fItems (fVar 0)) (tTuple 6 (tsCons (tN 1) (tsCons (tN 2) (tsCons (tN 3) (tsCons (tN 4) (tsCons (tN 5) (tsCons (tN 6) (tsNil)))))))) ((fun env => .ok (true, env))) (fTup (fCons (fVar 2) (fCons (fVar 1) (fCons (fVar 3) (fCons (fVar 4) (fCons (fVar 5) (fCons (fVar 6) ((fun env => .ok ([], env)))))))))) [1, 2, 3, 4, 5, 6])
def F_turned : FD := runD 7 g_turned
def g_laid : SF := sRet (fCall tupleD (fCons (fLc (fWalk zip2D (fCons (fVar 0) (fCons (fLst (fStar (fSl slD (fVar 0) (fPart (fC (.int 1))) ((fun env => .ok (none, env)))) (fCons (fVar 1) ((fun env => .ok ([], env)))))) ((fun env => .ok ([], env)))))) (tTuple 2 (tsCons (tN 2) (tsCons (tN 3) (tsNil)))) ((fun env => .ok (true, env))) (fOp subD (fVar 3) (fVar 2)) [2, 3]) ((fun env => .ok ([], env)))))
def F_laid : FD := runD 4 g_laid
def g_found_lay : SF := sSeq (sSet 2 (fCallF 2 [] F_found_bar (cIm (fVar 0) (cIm (fVar 1) (cNil))))) (sSeq (sIf (fBool (fOp isntD (fVar 2) (fC .none))) (sRetT (fTup (fCons (fFlat (fC (.str "barred"))) (fCons (fVar 2) fun env => .ok ([], env))))) sNil) (sSeq (sSet 3 (fCallF 2 [] F_demands (cIm (fVar 0) (cIm (fVar 1) (cNil))))) (sSeq (sSet 4 (fCallF 2 [] F_laid (cIm (fCallF 3 [] F_heights_from (cIm (fOp ixD (fVar 0) (fC (.int 0))) (cIm (fVar 3) (cIm (fC (.int 0)) (cNil))))) (cIm (fVar 1) (cNil))))) (sSeq (sSet 5 (fCallF 2 [] F_laid (cIm (fLc (fItems (fCallF 3 [] F_heights_from (cIm (fOp ixD (fVar 0) (fC (.int 0))) (cIm (fCallF 1 [] F_turned (cIm (fVar 3) (cNil))) (cIm (fC (.int 0)) (cNil)))))) (tN 6) ((fun env => .ok (true, env))) (fUn negD (fVar 6)) [6]) (cIm (fVar 1) (cNil))))) (sRetT (fFlat (fTup (fCons (fC (.str "laying")) (fCons (fVar 4) (fCons (fVar 5) ((fun env => .ok ([], env)))))))))))))
def F_found_lay : FD := runD 7 g_found_lay
def g_lay : SF := sSeq (sExpr (fCallF 1 [] F_look_at_ring (cIm (fVar 0) (cNil)))) (sSeq (sExpr (fCallF 1 [] F_look_at_total (cIm (fVar 1) (cNil)))) (sRetT (fCallF 2 [] F_found_lay (cIm (fVar 0) (cIm (fVar 1) (cNil))))))
def F_lay : FD := runD 2 g_lay
def g_eased : SF := sSeq (sSetO 2 (fLst ((fun env => .ok ([], env))))) (sSeq (sFor (fItems (fOp ixD (fVar 0) (fC (.int 1)))) (tTuple 4 (tsCons (tN 3) (tsCons (tN 4) (tsCons (tN 5) (tsCons (tN 6) (tsNil)))))) (sApp 2 (fTup (fCons (fVar 3) (fCons (fVar 4) (fCons (fCall maxD (fCons (fC (.int 0)) (fCons (fOp subD (fVar 5) (fVar 1)) ((fun env => .ok ([], env)))))) (fCons (fIf (fBool (fOp isD (fVar 6) (fC .none))) (fVar 6) (fOp addD (fVar 6) (fVar 1))) ((fun env => .ok ([], env)))))))))) (sFrz 2 (sRet (fTup (fCons (fOp ixD (fVar 0) (fC (.int 0))) (fCons (fCall tupleD (fCons (fVar 2) ((fun env => .ok ([], env))))) ((fun env => .ok ([], env)))))))))
def F_eased : FD := runD 7 g_eased
def n_ease_0 : En → Nat := fun _ => 1000000000000
def g_ease : SF := sSeq (sExpr (fCallF 1 [] F_look_at_ring (cIm (fVar 0) (cNil)))) (sSeq (sExpr (fCallF 1 [] F_look_at_total (cIm (fVar 1) (cNil)))) (sSeq (sPar 2 3 (fCons (fUn negD (fC (.int 1))) (fCons (fCall maxD (fCons (fOp addD (fLst (fCons (fVar 1) ((fun env => .ok ([], env))))) (fLc (fItems (fOp ixD (fVar 0) (fC (.int 1)))) (tN 5) ((fun env => .ok (true, env))) (fOp ixD (fVar 5) (fC (.int 2))) [5])) ((fun env => .ok ([], env))))) ((fun env => .ok ([], env)))))) (sSeq (sWhile n_ease_0 (fBool (fOp gtD (fOp subD (fVar 3) (fVar 2)) (fC (.int 1)))) (sSeq (sSet 4 (fOp fdivD (fOp addD (fVar 2) (fVar 3)) (fC (.int 2)))) (sIf (fBool (fOp isD (fCallF 2 [] F_found_bar (cIm (fCallF 2 [] F_eased (cIm (fVar 0) (cIm (fVar 4) (cNil)))) (cIm (fVar 1) (cNil)))) (fC .none))) (sSet 3 (fVar 4)) (sSet 2 (fVar 4))))) (sRetT (fTup (fCons (fFlat (fVar 3)) (fCons (fIf (fBool (fOp gtD (fVar 3) (fC (.int 0)))) (fCallF 2 [] F_found_bar (cIm (fCallF 2 [] F_eased (cIm (fVar 0) (cIm (fOp subD (fVar 3) (fC (.int 1))) (cNil)))) (cIm (fVar 1) (cNil)))) (fFlat (fC .none))) ((fun env => .ok ([], env))))))))))
def F_ease : FD := runD 6 g_ease
def g_law_once : SF := sSeq (sSetDk0 1) (sSeq (sFor (fItems (fVar 0)) (tN 2) (sDSto 1 (fVar 2) (fC (.bool true)))) (sRet (fDKeys 1)))
def F_law_once : FD := runD 3 g_law_once
def g_law_short : SF := sSeq (sIf (fOrT (fBool (fOp ltD (fCall lenD (fCons (fCallF 1 [] F_law_once (cIm (fOp ixD (fVar 1) (fC (.int 0))) (cNil))) ((fun env => .ok ([], env))))) (fCall lenD (fCons (fOp ixD (fVar 1) (fC (.int 0))) ((fun env => .ok ([], env))))))) (fBool (fOp ltD (fCall lenD (fCons (fCallF 1 [] F_law_once (cIm (fOp ixD (fVar 1) (fC (.int 1))) (cNil))) ((fun env => .ok ([], env))))) (fCall lenD (fCons (fOp ixD (fVar 1) (fC (.int 1))) ((fun env => .ok ([], env)))))))) (sRet (fC (.bool false))) (sNil)) (sRet (fOp leD (fCall lenD (fCons (fOp addD (fOp ixD (fVar 1) (fC (.int 0))) (fOp ixD (fVar 1) (fC (.int 1)))) ((fun env => .ok ([], env))))) (fOp ixD (fVar 0) (fC (.int 0)))))
def F_law_short : FD := runD 2 g_law_short
def g_law_mixed : SF := sSeq (sSet 2 (fOp modD (fCall intD (fCons (fOp addD (fOp addD (fOp mulD (fOp modD (fCall intD (fCons (fVar 0) ((fun env => .ok ([], env))))) (fC (.int 2147483647))) (fC (.int 48271))) (fOp mulD (fVar 1) (fC (.int 69621)))) (fC (.int 1048583))) ((fun env => .ok ([], env))))) (fC (.int 2147483629)))) (sSeq (sSet 2 (fOp modD (fCall intD (fCons (fOp mulD (fVar 2) (fVar 2)) ((fun env => .ok ([], env))))) (fC (.int 2147483587)))) (sRet (fOp modD (fCall intD (fCons (fOp mulD (fVar 2) (fOp addD (fVar 2) (fC (.int 2)))) ((fun env => .ok ([], env))))) (fC (.int 2147483579)))))
def F_law_mixed : FD := runD 3 g_law_mixed
def g_law_pile : SF := sSeq (sSet 2 (fC (.int 0))) (sSeq (sIf (fBool (fOp ltD (fVar 1) (fCall lenD (fCons (fVar 0) ((fun env => .ok ([], env))))))) (sSet 2 (fOp ixD (fVar 0) (fVar 1))) (sNil)) (sSeq (sIf (fBool (fOp geD (fVar 2) (fOp powD (fC (.int 10)) (fC (.int 18))))) (sRet (fLst (fCons (fOp modD (fCall intD (fCons (fOp subD (fVar 2) (fOp powD (fC (.int 10)) (fC (.int 18)))) ((fun env => .ok ([], env))))) (fOp mulD (fOp mulD (fOp mulD (fOp powD (fC (.int 10)) (fC (.int 60))) (fOp powD (fC (.int 10)) (fC (.int 60)))) (fOp powD (fC (.int 10)) (fC (.int 60)))) (fOp powD (fC (.int 10)) (fC (.int 60))))) ((fun env => .ok ([], env)))))) (sNil)) (sSeq (sSet 3 (fC (.int 0))) (sSeq (sFor (fWalk rangeD1 (fCons (fC (.int 24)) ((fun env => .ok ([], env))))) (tN 4) (sSet 3 (fOp addD (fOp mulD (fVar 3) (fC (.int 2147483579))) (fCallF 2 [] F_law_mixed (cIm (fVar 2) (cIm (fOp addD (fOp addD (fOp mulD (fC (.int 7)) (fVar 1)) (fOp mulD (fC (.int 100)) (fVar 4))) (fOp mulD (fVar 4) (fVar 4))) (cNil))))))) (sRet (fLst (fCons (fVar 3) ((fun env => .ok ([], env))))))))))
def F_law_pile : FD := runD 5 g_law_pile
def g_law_take : SF := sSeq (sSet 2 (fOp modD (fCall intD (fCons (fIxO 0 (fC (.int 0))) ((fun env => .ok ([], env))))) (fVar 1))) (sSeq (sSto 0 (fC (.int 0)) (fOp fdivD (fIxO 0 (fC (.int 0))) (fVar 1))) (sRet (fVar 2)))
def F_law_take : FD := runD 3 g_law_take
def g_law_whole : SF := sRet (fAndV (fIsi "int" (fVar 0)) (fUn notD (fIsi "bool" (fVar 0))))
def F_law_whole : FD := runD 1 g_law_whole
def g_law_places : SF := sRet (fLc (fWalk rangeD1 (fCons (fVar 2) ((fun env => .ok ([], env))))) (tN 3) ((fun env => .ok (true, env))) (fOp modD (fCall intD (fCons (fOp addD (fVar 1) (fVar 3)) ((fun env => .ok ([], env))))) (fVar 0)) [3])
def F_law_places : FD := runD 4 g_law_places
def g_law_stones : SF := sSeq (sSet 3 (fC (.int 0))) (sSeq (sFor (fItems (fCallF 3 [] F_law_places (cIm (fCall lenD (fCons (fVar 0) ((fun env => .ok ([], env))))) (cIm (fVar 1) (cIm (fVar 2) (cNil)))))) (tN 4) (sSet 3 (fOp addD (fVar 3) (fOp ixD (fVar 0) (fVar 4))))) (sRet (fVar 3)))
def F_law_stones : FD := runD 5 g_law_stones
def g_law_drawn : SF := sSeq (sSetO 3 (fOp repD (fLst (fCons (fC (.int 0)) ((fun env => .ok ([], env))))) (fVar 1))) (sSeq (sFor (fWalk rangeD1 (fCons (fVar 2) ((fun env => .ok ([], env))))) (tN 4) (sAugS 3 (fun i j => i + j) (fCallF 2 [0] F_law_take (cSl 0 (cIm (fVar 1) (cNil)))) (fC (.int 1)))) (sFrz 3 (sRet (fCall tupleD (fCons (fVar 3) ((fun env => .ok ([], env))))))))
def F_law_drawn : FD := runD 5 g_law_drawn
def g_law_ring : SF := sSeq (sSet 4 (fOp addD (fC (.int 1)) (fCallF 2 [0] F_law_take (cSl 0 (cIm (fVar 1) (cNil)))))) (sSeq (sSet 5 (fCallF 2 [0] F_law_take (cSl 0 (cIm (fC (.int 4)) (cNil))))) (sSeq (sSet 6 (fCallF 3 [0] F_law_drawn (cSl 0 (cIm (fVar 4) (cIm (fCallF 2 [0] F_law_take (cSl 0 (cIm (fOp addD (fVar 3) (fC (.int 1))) (cNil)))) (cNil)))))) (sSeq (sSetO 7 (fLst ((fun env => .ok ([], env))))) (sSeq (sFor (fWalk rangeD1 (fCons (fCallF 2 [0] F_law_take (cSl 0 (cIm (fOp addD (fVar 2) (fC (.int 1))) (cNil)))) ((fun env => .ok ([], env))))) (tN 8) (sSeq (sPar 9 10 (fCons (fCallF 2 [0] F_law_take (cSl 0 (cIm (fVar 4) (cNil)))) (fCons (fOp addD (fC (.int 1)) (fCallF 2 [0] F_law_take (cSl 0 (cIm (fVar 4) (cNil))))) ((fun env => .ok ([], env)))))) (sSeq (sSet 11 (fCallF 3 [] F_law_stones (cIm (fVar 6) (cIm (fVar 9) (cIm (fVar 10) (cNil)))))) (sSeq (sPar 12 13 (fCons (fOp subD (fVar 11) (fCallF 2 [0] F_law_take (cSl 0 (cIm (fC (.int 3)) (cNil))))) (fCons (fOp addD (fVar 11) (fCallF 2 [0] F_law_take (cSl 0 (cIm (fC (.int 3)) (cNil))))) ((fun env => .ok ([], env)))))) (sSeq (sIf (fBool (fOp eqD (fVar 5) (fC (.int 0)))) (sPar 12 13 (fCons (fCallF 2 [0] F_law_take (cSl 0 (cIm (fVar 3) (cNil)))) (fCons (fCallF 2 [0] F_law_take (cSl 0 (cIm (fOp addD (fVar 3) (fC (.int 2))) (cNil)))) ((fun env => .ok ([], env)))))) (sNil)) (sSeq (sIf (fAndT (fBool (fOp eqD (fVar 5) (fC (.int 1)))) (fBool (fOp eqD (fCallF 2 [0] F_law_take (cSl 0 (cIm (fC (.int 4)) (cNil)))) (fC (.int 0))))) (sSet 12 (fOp addD (fVar 11) (fC (.int 1)))) (sNil)) (sSeq (sIf (fBool (fOp eqD (fCallF 2 [0] F_law_take (cSl 0 (cIm (fC (.int 3)) (cNil)))) (fC (.int 0)))) (sSet 13 (fC .none)) (sNil)) (sSeq (sIf (fBool (fOp eqD (fCallF 2 [0] F_law_take (cSl 0 (cIm (fC (.int 4)) (cNil)))) (fC (.int 0)))) (sSet 12 (fC (.int 0))) (sNil)) (sApp 7 (fTup (fCons (fVar 9) (fCons (fVar 10) (fCons (fOp ixD (fLst (fCons (fC (.int 0)) (fCons (fVar 12) ((fun env => .ok ([], env)))))) (fCall intD (fCons (fOp gtD (fVar 12) (fC (.int 0))) ((fun env => .ok ([], env)))))) (fCons (fVar 13) ((fun env => .ok ([], env))))))))))))))))) (sFrz 7 (sRet (fTup (fCons (fVar 4) (fCons (fCall tupleD (fCons (fLc (fItems (fVar 7)) (tN 14) (fOrT (fBool (fOp isD (fOp ixD (fVar 14) (fC (.int 3))) (fC .none))) (fBool (fOp geD (fOp ixD (fVar 14) (fC (.int 3))) (fC (.int 0))))) (fVar 14) [14]) ((fun env => .ok ([], env))))) ((fun env => .ok ([], env))))))))))))
def F_law_ring : FD := runD 15 g_law_ring
def g_law_is_from : SF := sRet (fAndV (fCallF 1 [] F_law_whole (cIm (fVar 0) (cNil))) (fOp geD (fVar 0) (fVar 1)))
def F_law_is_from : FD := runD 2 g_law_is_from
def g_law_is_bar : SF := sSeq (sIf (fOrT (fNotT (fBool (fIsi "tuple" (fVar 2)))) (fOrT (fBool (fOp neD (fCall lenD (fCons (fVar 2) ((fun env => .ok ([], env))))) (fC (.int 3)))) (fNotT (fBool (fCallF 1 [] F_law_whole (cIm (fOp ixD (fVar 2) (fC (.int 2))) (cNil))))))) (sRet (fC (.bool false))) (sNil)) (sSeq (sFor (fItems (fSl slD (fVar 2) ((fun env => .ok (none, env))) (fPart (fC (.int 2))))) (tN 3) (sSeq (sIf (fNotT (fBool (fIsi "list" (fVar 3)))) (sRet (fC (.bool false))) (sNil)) (sSeq (sFor (fItems (fVar 3)) (tN 4) (sIf (fOrT (fNotT (fBool (fCallF 2 [] F_law_is_from (cIm (fVar 4) (cIm (fC (.int 0)) (cNil)))))) (fBool (fOp geD (fVar 4) (fCall lenD (fCons (fOp ixD (fVar 0) (fC (.int 1))) ((fun env => .ok ([], env)))))))) (sRet (fC (.bool false))) (sNil))) (sIf (fBool (fOp neD (fLc (fWalk rangeD2 (fCons (fC (.int 1)) (fCons (fCall lenD (fCons (fVar 3) ((fun env => .ok ([], env))))) ((fun env => .ok ([], env)))))) (tN 8) (fBool (fOp gtD (fOp ixD (fVar 3) (fOp subD (fVar 8) (fC (.int 1)))) (fOp ixD (fVar 3) (fVar 8)))) (fVar 8) [8]) (fLst ((fun env => .ok ([], env)))))) (sRet (fC (.bool false))) (sNil))))) (sSeq (sIf (fBool (fOp neD (fLc (fItems (fOp ixD (fVar 2) (fC (.int 1)))) (tN 4) (fBool (fOp isD (fOp ixD (fOp ixD (fOp ixD (fVar 0) (fC (.int 1))) (fVar 4)) (fC (.int 3))) (fC .none))) (fVar 4) [4]) (fLst ((fun env => .ok ([], env)))))) (sRet (fC (.bool false))) (sNil)) (sSeq (sSetO 5 (fOp repD (fLst (fCons (fC (.int 0)) ((fun env => .ok ([], env))))) (fOp ixD (fVar 0) (fC (.int 0))))) (sSeq (sSet 6 (fC (.int 0))) (sSeq (sFor (fItems (fOp ixD (fVar 2) (fC (.int 0)))) (tN 4) (sSeq (sSet 6 (fOp addD (fVar 6) (fOp ixD (fOp ixD (fOp ixD (fVar 0) (fC (.int 1))) (fVar 4)) (fC (.int 2))))) (sFor (fItems (fCallF 3 [] F_law_places (cIm (fOp ixD (fVar 0) (fC (.int 0))) (cIm (fOp ixD (fOp ixD (fOp ixD (fVar 0) (fC (.int 1))) (fVar 4)) (fC (.int 0))) (cIm (fOp ixD (fOp ixD (fOp ixD (fVar 0) (fC (.int 1))) (fVar 4)) (fC (.int 1))) (cNil)))))) (tN 7) (sAugS 5 (fun i j => i + j) (fVar 7) (fC (.int 1)))))) (sSeq (sFor (fItems (fOp ixD (fVar 2) (fC (.int 1)))) (tN 4) (sSeq (sSet 6 (fOp subD (fVar 6) (fOp ixD (fOp ixD (fOp ixD (fVar 0) (fC (.int 1))) (fVar 4)) (fC (.int 3))))) (sFor (fItems (fCallF 3 [] F_law_places (cIm (fOp ixD (fVar 0) (fC (.int 0))) (cIm (fOp ixD (fOp ixD (fOp ixD (fVar 0) (fC (.int 1))) (fVar 4)) (fC (.int 0))) (cIm (fOp ixD (fOp ixD (fOp ixD (fVar 0) (fC (.int 1))) (fVar 4)) (fC (.int 1))) (cNil)))))) (tN 7) (sAugS 5 (fun i j => i - j) (fVar 7) (fC (.int 1)))))) (sFrz 5 (sRet (fAndV (fOp leD (fCall maxD (fCons (fVar 5) ((fun env => .ok ([], env))))) (fOp ixD (fVar 2) (fC (.int 2)))) (fOp gtD (fVar 6) (fOp mulD (fOp ixD (fVar 2) (fC (.int 2))) (fVar 1))))))))))))
def F_law_is_bar : FD := runD 9 g_law_is_bar
def g_law_eased : SF := sSeq (sSetO 2 (fLst ((fun env => .ok ([], env))))) (sSeq (sFor (fItems (fOp ixD (fVar 0) (fC (.int 1)))) (tTuple 4 (tsCons (tN 3) (tsCons (tN 4) (tsCons (tN 5) (tsCons (tN 6) (tsNil)))))) (sSeq (sIf (fBool (fOp isntD (fVar 6) (fC .none))) (sSet 6 (fOp addD (fVar 6) (fVar 1))) (sNil)) (sApp 2 (fTup (fCons (fVar 3) (fCons (fVar 4) (fCons (fOp ixD (fLst (fCons (fC (.int 0)) (fCons (fOp subD (fVar 5) (fVar 1)) ((fun env => .ok ([], env)))))) (fCall intD (fCons (fOp gtD (fVar 5) (fVar 1)) ((fun env => .ok ([], env)))))) (fCons (fVar 6) ((fun env => .ok ([], env))))))))))) (sFrz 2 (sRet (fTup (fCons (fOp ixD (fVar 0) (fC (.int 0))) (fCons (fCall tupleD (fCons (fVar 2) ((fun env => .ok ([], env))))) ((fun env => .ok ([], env)))))))))
def F_law_eased : FD := runD 7 g_law_eased
def g_law_good : SF := sSeq (sSet 2 (fCall reprD (fCons (fVar 0) ((fun env => .ok ([], env)))))) (sSeq (sSet 3 (fCallF 2 [] F_ease (cIm (fVar 0) (cIm (fVar 1) (cNil))))) (sSeq (sIf (fOrT (fNotT (fBool (fIsi "tuple" (fVar 3)))) (fOrT (fBool (fOp neD (fCall lenD (fCons (fVar 3) ((fun env => .ok ([], env))))) (fC (.int 2)))) (fOrT (fNotT (fBool (fCallF 2 [] F_law_is_from (cIm (fOp ixD (fVar 3) (fC (.int 0))) (cIm (fC (.int 0)) (cNil)))))) (fBool (fOp neD (fCall reprD (fCons (fVar 0) ((fun env => .ok ([], env))))) (fVar 2)))))) (sRet (fC (.bool false))) (sNil)) (sSeq (sAsg (fVar 3) (tTuple 2 (tsCons (tN 4) (tsCons (tN 5) (tsNil))))) (sSeq (sIf (fOrT (fBool (fOp neD (fOp ixD (fCallF 2 [] F_lay (cIm (fCallF 2 [] F_law_eased (cIm (fVar 0) (cIm (fVar 4) (cNil)))) (cIm (fVar 1) (cNil)))) (fC (.int 0))) (fC (.str "laying")))) (fBool (fOp neD (fOp eqD (fVar 4) (fC (.int 0))) (fOp eqD (fOp ixD (fCallF 2 [] F_lay (cIm (fVar 0) (cIm (fVar 1) (cNil)))) (fC (.int 0))) (fC (.str "laying")))))) (sRet (fC (.bool false))) (sNil)) (sSeq (sIf (fBool (fOp neD (fOp isD (fVar 5) (fC .none)) (fOp eqD (fVar 4) (fC (.int 0))))) (sRet (fC (.bool false))) (sNil)) (sSeq (sIf (fBool (fOp gtD (fVar 4) (fC (.int 0)))) (sSeq (sSet 6 (fCallF 2 [] F_law_eased (cIm (fVar 0) (cIm (fOp subD (fVar 4) (fC (.int 1))) (cNil))))) (sIf (fOrT (fNotT (fBool (fCallF 3 [] F_law_is_bar (cIm (fVar 6) (cIm (fVar 1) (cIm (fVar 5) (cNil))))))) (fNotT (fBool (fCallF 2 [] F_law_short (cIm (fVar 0) (cIm (fVar 5) (cNil))))))) (sRet (fC (.bool false))) (sNil))) (sNil)) (sSeq (sSet 7 (fCall reprD (fCons (fVar 3) ((fun env => .ok ([], env)))))) (sSeq sSpoil (sRet (fOp eqD (fCall reprD (fCons (fCallF 2 [] F_ease (cIm (fVar 0) (cIm (fVar 1) (cNil)))) ((fun env => .ok ([], env))))) (fVar 7)))))))))))
def F_law_good : FD := runD 8 g_law_good
def g_law : SF := sSeq (sFor (fWalk rangeD1 (fCons (fCall maxD (fCons (fC (.int 2)) (fCons (fCall minD (fCons (fCall lenD (fCons (fVar 0) ((fun env => .ok ([], env))))) (fCons (fC (.int 10)) ((fun env => .ok ([], env)))))) ((fun env => .ok ([], env)))))) ((fun env => .ok ([], env))))) (tN 1) (sSeq (sSetO 2 (fCallF 2 [] F_law_pile (cIm (fVar 0) (cIm (fVar 1) (cNil))))) (sSeq (sSet 3 (fCallF 4 [0] F_law_ring (cSl 2 (cIm (fC (.int 12)) (cIm (fC (.int 10)) (cIm (fC (.int 30)) (cNil))))))) (sFor (fItems (fLst (fCons (fC (.int 0)) (fCons (fCallF 2 [0] F_law_take (cSl 2 (cIm (fC (.int 40)) (cNil)))) (fCons (fCallF 2 [0] F_law_take (cSl 2 (cIm (fC (.int 400)) (cNil)))) ((fun env => .ok ([], env)))))))) (tN 4) (sIf (fNotT (fBool (fCallF 2 [] F_law_good (cIm (fVar 3) (cIm (fVar 4) (cNil)))))) (sRet (fC (.bool false))) (sNil)))))) (sSeq (sIf (fBool (fOp neD (fOp ixD (fCallF 2 [] F_ease (cIm (fTup (fCons (fC (.int 1)) (fCons (fTup (fCons (fTup (fCons (fC (.int 0)) (fCons (fC (.int 1)) (fCons (fC (.int 1000)) (fCons (fC .none) ((fun env => .ok ([], env)))))))) ((fun env => .ok ([], env))))) ((fun env => .ok ([], env)))))) (cIm (fC (.int 0)) (cNil)))) (fC (.int 0))) (fC (.int 1000)))) (sRet (fC (.bool false))) (sNil)) (sSeq (sIf (fOrT (fBool (fOp neD (fOp ixD (fCallF 2 [] F_ease (cIm (fTup (fCons (fC (.int 2)) (fCons (fTup (fCons (fTup (fCons (fC (.int 0)) (fCons (fC (.int 2)) (fCons (fC (.int 0)) (fCons (fC (.int 0)) ((fun env => .ok ([], env)))))))) ((fun env => .ok ([], env))))) ((fun env => .ok ([], env)))))) (cIm (fC (.int 1000)) (cNil)))) (fC (.int 0))) (fC (.int 1000)))) (fBool (fOp neD (fOp ixD (fCallF 2 [] F_ease (cIm (fTup (fCons (fC (.int 3)) (fCons (fTup (fCons (fTup (fCons (fC (.int 0)) (fCons (fC (.int 3)) (fCons (fC (.int 9)) (fCons (fC .none) ((fun env => .ok ([], env)))))))) ((fun env => .ok ([], env))))) ((fun env => .ok ([], env)))))) (cIm (fC (.int 4)) (cNil)))) (fC (.int 0))) (fC (.int 5))))) (sRet (fC (.bool false))) (sNil)) (sRet (fOp eqD (fOp ixD (fCallF 2 [] F_ease (cIm (fTup (fCons (fC (.int 2)) (fCons (fTup (fCons (fTup (fCons (fC (.int 0)) (fCons (fC (.int 1)) (fCons (fC (.int 0)) (fCons (fC (.int 0)) ((fun env => .ok ([], env)))))))) (fCons (fTup (fCons (fC (.int 1)) (fCons (fC (.int 1)) (fCons (fC (.int 0)) (fCons (fC (.int 0)) ((fun env => .ok ([], env)))))))) ((fun env => .ok ([], env)))))) ((fun env => .ok ([], env)))))) (cIm (fC (.int 5)) (cNil)))) (fC (.int 0))) (fC (.int 3))))))
def F_law : FD := runD 5 g_law
end DL
namespace DL
open PySem PySem.Spec PyProof.Rows L2
def topS (i : Nat) : Stmt := PySem.Challenge.pw_ringstints_k22_terms_eased.main.body.getD i (.Pass ⟨0, 0, 0, 0⟩)
structure Blt (mg : Str → Option Value) : Prop where
  len : mg "len" = none
  range : mg "range" = none
  int : mg "int" = none
  str : mg "str" = none
  tuple : mg "tuple" = none
  list : mg "list" = none
  sum : mg "sum" = none
  max : mg "max" = none
  min : mg "min" = none
  abs : mg "abs" = none
  all : mg "all" = none
  sorted : mg "sorted" = none
  repr : mg "repr" = none
  isinstance : mg "isinstance" = none
  bool : mg "bool" = none
  enumerate : mg "enumerate" = none
  zip : mg "zip" = none
  ValueError : mg "ValueError" = none
section
variable {P : Program} {w : World} {K : PySem.W.Frag} {mg : Str → Option Value} {base : Heap}
abbrev s_is_whole : Stmt := topS 6
abbrev N_is_whole : List Str := ["thing"]
theorem sc_is_whole : FnScope N_is_whole ["thing"] (defScope s_is_whole) := ⟨rfl, rfl, rfl, by decide +kernel, rfl, by decide +kernel, by decide +kernel⟩
theorem ok_is_whole (T : Blt mg) (S : Stands K mg "is_whole" s_is_whole ["thing"]) : Has P w K mg base (caOf mg) "is_whole" 1 ["thing"] [] true F_is_whole :=
  S.has sc_is_whole (by decide) rfl fun f cdv A outer s H E hr hgd => by
    have tk := takes_of (X := cxOf (L2.CX P w) P w K mg base N_is_whole "is_whole" (defScope s_is_whole) f cdv A outer s H E) (E := E) rfl rfl rfl rfl
    have po := passes_of (X := cxOf (L2.CX P w) P w K mg base N_is_whole "is_whole" (defScope s_is_whole) f cdv A outer s H E) rfl
    exact dss_one (ds_ret (de_and (de_isi (T := "int") (de_var (pv 0)) rfl T.isinstance rfl T.int (by decide +kernel)) (de_one (de_not (de_isi (T := "bool") (de_var (pv 0)) rfl T.isinstance rfl T.bool (by decide +kernel))))))
abbrev s_is_from : Stmt := topS 7
abbrev N_is_from : List Str := ["thing", "low"]
theorem sc_is_from : FnScope N_is_from ["thing", "low"] (defScope s_is_from) := ⟨rfl, rfl, rfl, by decide +kernel, rfl, by decide +kernel, by decide +kernel⟩
theorem ok_is_from (T : Blt mg) (S : Stands K mg "is_from" s_is_from ["thing", "low"]) (h_is_whole : Has P w K mg base (caOf mg) "is_whole" 1 ["thing"] [] true F_is_whole) : Has P w K mg base (caOf mg) "is_from" 2 ["thing", "low"] [] true F_is_from :=
  S.has sc_is_from (by decide) rfl fun f cdv A outer s H E hr hgd => by
    have tk := takes_of (X := cxOf (L2.CX P w) P w K mg base N_is_from "is_from" (defScope s_is_from) f cdv A outer s H E) (E := E) rfl rfl rfl rfl
    have po := passes_of (X := cxOf (L2.CX P w) P w K mg base N_is_from "is_from" (defScope s_is_from) f cdv A outer s H E) rfl
    exact dss_one (ds_ret (de_and (de_callH h_is_whole hr (by decide) hgd rfl rfl tk (dc_im (de_var (pv 0)) (dc_nil))) (de_one (de_cmp od_ge (de_var (pv 0)) (de_var (pv 1)) (nomark _)))))
abbrev s_is_within : Stmt := topS 8
abbrev N_is_within : List Str := ["thing", "low", "high"]
theorem sc_is_within : FnScope N_is_within ["thing", "low", "high"] (defScope s_is_within) := ⟨rfl, rfl, rfl, by decide +kernel, rfl, by decide +kernel, by decide +kernel⟩
theorem ok_is_within (T : Blt mg) (S : Stands K mg "is_within" s_is_within ["thing", "low", "high"]) (h_is_whole : Has P w K mg base (caOf mg) "is_whole" 1 ["thing"] [] true F_is_whole) : Has P w K mg base (caOf mg) "is_within" 2 ["thing", "low", "high"] [] true F_is_within :=
  S.has sc_is_within (by decide) rfl fun f cdv A outer s H E hr hgd => by
    have tk := takes_of (X := cxOf (L2.CX P w) P w K mg base N_is_within "is_within" (defScope s_is_within) f cdv A outer s H E) (E := E) rfl rfl rfl rfl
    have po := passes_of (X := cxOf (L2.CX P w) P w K mg base N_is_within "is_within" (defScope s_is_within) f cdv A outer s H E) rfl
    exact dss_one (ds_ret (de_and (de_callH h_is_whole hr (by decide) hgd rfl rfl tk (dc_im (de_var (pv 0)) (dc_nil))) (de_one (de_chain od_le od_le (de_var (pv 1)) (de_var (pv 0)) (de_var (pv 2))))))
abbrev s_is_term : Stmt := topS 9
abbrev N_is_term : List Str := ["many", "thing", "first", "length", "least", "most"]
theorem sc_is_term : FnScope N_is_term ["many", "thing"] (defScope s_is_term) := ⟨rfl, rfl, rfl, by decide +kernel, rfl, by decide +kernel, by decide +kernel⟩
theorem ok_is_term (T : Blt mg) (S : Stands K mg "is_term" s_is_term ["many", "thing"]) (h_is_within : Has P w K mg base (caOf mg) "is_within" 2 ["thing", "low", "high"] [] true F_is_within) (h_is_from : Has P w K mg base (caOf mg) "is_from" 2 ["thing", "low"] [] true F_is_from) : Has P w K mg base (caOf mg) "is_term" 3 ["many", "thing"] [] true F_is_term :=
  S.has sc_is_term (by decide) rfl fun f cdv A outer s H E hr hgd => by
    have tk := takes_of (X := cxOf (L2.CX P w) P w K mg base N_is_term "is_term" (defScope s_is_term) f cdv A outer s H E) (E := E) rfl rfl rfl rfl
    have po := passes_of (X := cxOf (L2.CX P w) P w K mg base N_is_term "is_term" (defScope s_is_term) f cdv A outer s H E) rfl
    exact dss_cons (ds_if (PW.pt (dw_or (dt_not (dt_val (de_isi (T := "tuple") (de_var (pv 1)) rfl T.isinstance rfl T.tuple (by decide +kernel)))) (dw_or1 (dt_cmp (od_ne hr.units) (de_callB (cd_len) rfl T.len (by decide +kernel) (da_cons (de_var (pv 1)) (da_nil))) (de_int) (nomark _))))) (dss_one (ds_ret (de_bl))) (dss_nil)) (dss_cons (ds_asg (de_var (pv 1)) (dg_tup rfl (dgs_cons (dg_name (pg_name (i := 2) sc_is_term.nd rfl (.inl rfl)) (show 2 ∉ ([] : List Nat) by decide)) (dgs_cons (dg_name (pg_name (i := 3) sc_is_term.nd rfl (.inl rfl)) (show 3 ∉ ([] : List Nat) by decide)) (dgs_cons (dg_name (pg_name (i := 4) sc_is_term.nd rfl (.inl rfl)) (show 4 ∉ ([] : List Nat) by decide)) (dgs_cons (dg_name (pg_name (i := 5) sc_is_term.nd rfl (.inl rfl)) (show 5 ∉ ([] : List Nat) by decide)) (dgs_nil))))))) (dss_cons (ds_if (PW.pt (dw_or (dt_not (dt_val (de_callH h_is_within hr (by decide) hgd rfl rfl tk (dc_im (de_var (pv 2)) (dc_im (de_int) (dc_im (de_op od_sub (de_var (pv 0)) (de_int)) (dc_nil))))))) (dw_or1 (dt_not (dt_val (de_callH h_is_within hr (by decide) hgd rfl rfl tk (dc_im (de_var (pv 3)) (dc_im (de_int) (dc_im (de_var (pv 0)) (dc_nil)))))))))) (dss_one (ds_ret (de_bl))) (dss_nil)) (dss_one (ds_ret (de_and (de_callH h_is_from hr (by decide) hgd rfl rfl tk (dc_im (de_var (pv 4)) (dc_im (de_int) (dc_nil)))) (de_one (de_or (de_cmp od_is (de_var (pv 5)) (de_non) (nomark _)) (de_one (de_callH h_is_from hr (by decide) hgd rfl rfl tk (dc_im (de_var (pv 5)) (dc_im (de_int) (dc_nil))))))))))))
abbrev s_is_right_ring : Stmt := topS 10
abbrev N_is_right_ring : List Str := ["thing", "term"]
theorem sc_is_right_ring : FnScope N_is_right_ring ["thing"] (defScope s_is_right_ring) := ⟨rfl, rfl, rfl, by decide +kernel, rfl, by decide +kernel, by decide +kernel⟩
theorem ok_is_right_ring (T : Blt mg) (S : Stands K mg "is_right_ring" s_is_right_ring ["thing"]) {t_MOST_PLACES : Tok} (g_MOST_PLACES : mg "MOST_PLACES" = some (.int 40 t_MOST_PLACES)) (h_is_within : Has P w K mg base (caOf mg) "is_within" 2 ["thing", "low", "high"] [] true F_is_within) (h_is_term : Has P w K mg base (caOf mg) "is_term" 3 ["many", "thing"] [] true F_is_term) : Has P w K mg base (caOf mg) "is_right_ring" 4 ["thing"] [] true F_is_right_ring :=
  S.has sc_is_right_ring (by decide) rfl fun f cdv A outer s H E hr hgd => by
    have tk := takes_of (X := cxOf (L2.CX P w) P w K mg base N_is_right_ring "is_right_ring" (defScope s_is_right_ring) f cdv A outer s H E) (E := E) rfl rfl rfl rfl
    have po := passes_of (X := cxOf (L2.CX P w) P w K mg base N_is_right_ring "is_right_ring" (defScope s_is_right_ring) f cdv A outer s H E) rfl
    exact dss_cons (ds_if (PW.pt (dw_or (dt_not (dt_val (de_isi (T := "tuple") (de_var (pv 0)) rfl T.isinstance rfl T.tuple (by decide +kernel)))) (dw_or (dt_cmp (od_ne hr.units) (de_callB (cd_len) rfl T.len (by decide +kernel) (da_cons (de_var (pv 0)) (da_nil))) (de_int) (nomark _)) (dw_or1 (dt_not (dt_val (de_callH h_is_within hr (by decide) hgd rfl rfl tk (dc_im (de_ix xd_ix (de_var (pv 0)) (de_int) (fun _ _ => rfl)) (dc_im (de_int) (dc_im ((de_glob (v := .int 40) rfl g_MOST_PLACES ⟨_, rfl⟩ (fun _ _ => .int _) (fun _ q => nomatch q))) (dc_nil))))))))))) (dss_one (ds_ret (de_bl))) (dss_nil)) (dss_one (ds_ret (de_and (de_isi (T := "tuple") (de_ix xd_ix (de_var (pv 0)) (de_int) (fun _ _ => rfl)) rfl T.isinstance rfl T.tuple (by decide +kernel)) (de_one (de_callB (cd_all rfl) rfl T.all (by decide +kernel) (da_cons (de_lc (own := [("term", 1)]) rfl sc_is_right_ring.nd (di_seq (de_ix xd_ix (de_var (pv 0)) (de_int) (fun _ _ => rfl))) (blkOk_by (own := [("term", 1)]) (N := N_is_right_ring) (sc := defScope s_is_right_ring) (by decide +kernel)) (fun _ _ _ _ _ => dg_name (pg_name (i := 1) sc_is_right_ring.nd rfl (.inl rfl)) (show 1 ∉ ([] : List Nat) by decide)) (fun _ _ _ _ _ => dts_nil) (fun _ _ _ _ _ => de_callH h_is_term hr (by decide) hgd rfl rfl takes_no (dc_im (de_ix xd_ix (de_var (pv 0)) (de_int) (fun _ _ => rfl)) (dc_im (de_var (pv 1)) (dc_nil)))) (by decide)) (da_nil)))))))
abbrev s_look_at_ring : Stmt := topS 11
abbrev N_look_at_ring : List Str := ["ring"]
theorem sc_look_at_ring : FnScope N_look_at_ring ["ring"] (defScope s_look_at_ring) := ⟨rfl, rfl, rfl, by decide +kernel, rfl, by decide +kernel, by decide +kernel⟩
theorem ok_look_at_ring (T : Blt mg) (S : Stands K mg "look_at_ring" s_look_at_ring ["ring"]) {C_NoRing : Addr} (x_NoRing : ExF K mg "NoRing" C_NoRing) (h_is_right_ring : Has P w K mg base (caOf mg) "is_right_ring" 4 ["thing"] [] true F_is_right_ring) : Has P w K mg base (caOf mg) "look_at_ring" 5 ["ring"] [] true F_look_at_ring :=
  S.has sc_look_at_ring (by decide) rfl fun f cdv A outer s H E hr hgd => by
    have tk := takes_of (X := cxOf (L2.CX P w) P w K mg base N_look_at_ring "look_at_ring" (defScope s_look_at_ring) f cdv A outer s H E) (E := E) rfl rfl rfl rfl
    have po := passes_of (X := cxOf (L2.CX P w) P w K mg base N_look_at_ring "look_at_ring" (defScope s_look_at_ring) f cdv A outer s H E) rfl
    exact dss_one (ds_if (dt_not (dt_val (de_callH h_is_right_ring hr (by decide) hgd rfl rfl tk (dc_im (de_var (pv 0)) (dc_nil))))) (dss_one (ds_raiseF rfl tk x_NoRing rfl rfl)) (dss_nil))
abbrev s_look_at_total : Stmt := topS 12
abbrev N_look_at_total : List Str := ["total"]
theorem sc_look_at_total : FnScope N_look_at_total ["total"] (defScope s_look_at_total) := ⟨rfl, rfl, rfl, by decide +kernel, rfl, by decide +kernel, by decide +kernel⟩
theorem ok_look_at_total (T : Blt mg) (S : Stands K mg "look_at_total" s_look_at_total ["total"]) {C_NoTotal : Addr} (x_NoTotal : ExF K mg "NoTotal" C_NoTotal) (h_is_from : Has P w K mg base (caOf mg) "is_from" 2 ["thing", "low"] [] true F_is_from) : Has P w K mg base (caOf mg) "look_at_total" 3 ["total"] [] true F_look_at_total :=
  S.has sc_look_at_total (by decide) rfl fun f cdv A outer s H E hr hgd => by
    have tk := takes_of (X := cxOf (L2.CX P w) P w K mg base N_look_at_total "look_at_total" (defScope s_look_at_total) f cdv A outer s H E) (E := E) rfl rfl rfl rfl
    have po := passes_of (X := cxOf (L2.CX P w) P w K mg base N_look_at_total "look_at_total" (defScope s_look_at_total) f cdv A outer s H E) rfl
    exact dss_one (ds_if (dt_not (dt_val (de_callH h_is_from hr (by decide) hgd rfl rfl tk (dc_im (de_var (pv 0)) (dc_im (de_int) (dc_nil)))))) (dss_one (ds_raiseF rfl tk x_NoTotal rfl rfl)) (dss_nil))
abbrev s_demands : Stmt := topS 14
abbrev N_demands : List Str := ["ring", "total", "many", "found", "number", "first", "length", "least", "most", "last", "rounds", "place", "u", "v", "by", "term", "way"]
theorem sc_demands : FnScope N_demands ["ring", "total"] (defScope s_demands) := ⟨rfl, rfl, rfl, by decide +kernel, rfl, by decide +kernel, by decide +kernel⟩
theorem ok_demands (T : Blt mg) (S : Stands K mg "demands" s_demands ["ring", "total"]) : Has P w K mg base (caOf mg) "demands" 1 ["ring", "total"] [] true F_demands :=
  S.has sc_demands (by decide) rfl fun f cdv A outer s H E hr hgd => by
    have tk := takes_of (X := cxOf (L2.CX P w) P w K mg base N_demands "demands" (defScope s_demands) f cdv A outer s H E) (E := E) rfl rfl rfl rfl
    have po := passes_of (X := cxOf (L2.CX P w) P w K mg base N_demands "demands" (defScope s_demands) f cdv A outer s H E) rfl
    exact dss_cons (ds_set (i := 2) sc_demands.nd rfl (.inr rfl) (de_ix xd_ix (de_var (pv 0)) (de_int) (fun _ _ => rfl)) (show 2 ∉ ([] : List Nat) by decide)) (dss_cons (ds_setLcO (i := 3) (own := [("place", 11)]) rfl sc_demands.nd rfl rfl (sw_true rfl rfl rfl (by decide +kernel)) (di_range1 (by rfl) T.range (da_cons (de_var (pv 2)) (da_nil))) (blkOk_by (own := [("place", 11)]) (N := N_demands) (sc := defScope s_demands) (by decide +kernel)) (fun _ _ _ _ _ => dg_name (pg_name (i := 11) sc_demands.nd rfl (.inl rfl)) (show 11 ∉ ([] : List Nat) by decide)) (fun _ _ _ _ _ => dts_nil) (fun _ _ _ _ _ => de_tup (da_cons (de_var (pv 11)) (da_cons (de_op od_mod (de_op od_add (de_var (pv 11)) (de_int)) (de_var (pv 2))) (da_cons (de_int) (da_cons (de_non) (da_cons (de_int) (da_cons (de_op od_fdiv (de_op od_add (de_var (pv 11)) (de_int)) (de_var (pv 2))) (da_nil)))))))) (by decide) (show 3 ∉ ([] : List Nat) by decide)) (dss_cons (ds_for po rfl (di_enum (by rfl) T.enumerate (da_cons (de_ix xd_ix (de_var (pv 0)) (de_int) (fun _ _ => rfl)) (da_nil))) (dg_tup rfl (dgs_cons (dg_name (pg_name (i := 4) sc_demands.nd rfl (.inl rfl)) (show 4 ∉ ([] : List Nat) by decide)) (dgs_cons (dg_tup rfl (dgs_cons (dg_name (pg_name (i := 5) sc_demands.nd rfl (.inl rfl)) (show 5 ∉ ([] : List Nat) by decide)) (dgs_cons (dg_name (pg_name (i := 6) sc_demands.nd rfl (.inl rfl)) (show 6 ∉ ([] : List Nat) by decide)) (dgs_cons (dg_name (pg_name (i := 7) sc_demands.nd rfl (.inl rfl)) (show 7 ∉ ([] : List Nat) by decide)) (dgs_cons (dg_name (pg_name (i := 8) sc_demands.nd rfl (.inl rfl)) (show 8 ∉ ([] : List Nat) by decide)) (dgs_nil)))))) (dgs_nil)))) (dss_cons (ds_par (i := 9) (j := 10) rfl sc_demands.nd rfl rfl (by decide) rfl rfl (da_cons (de_op od_mod (de_op od_add (de_var (pv 5)) (de_var (pv 6))) (de_var (pv 2))) (da_cons (de_op od_fdiv (de_op od_add (de_var (pv 5)) (de_var (pv 6))) (de_var (pv 2))) (da_nil))) (show 9 ∉ ([] : List Nat) by decide) (show 10 ∉ ([] : List Nat) by decide)) (dss_cons (ds_app (pv 3) (de_tup (da_cons (de_var (pv 5)) (da_cons (de_var (pv 9)) (da_cons (de_var (pv 7)) (da_cons (de_var (pv 4)) (da_cons (de_int) (da_cons (de_var (pv 10)) (da_nil))))))))) (dss_one (ds_if (dt_cmp od_isnt (de_var (pv 8)) (de_non) (nomark _)) (dss_one (ds_app (pv 3) (de_tup (da_cons (de_var (pv 9)) (da_cons (de_var (pv 5)) (da_cons (de_un ud_neg (de_var (pv 8))) (da_cons (de_var (pv 4)) (da_cons (de_un ud_neg (de_int)) (da_cons (de_var (pv 10)) (da_nil)))))))))) (dss_nil)))))) (dss_frz (i := 3) (dss_one (ds_ret (de_lc (own := [("u", 12), ("v", 13), ("by", 14), ("term", 15), ("way", 16), ("rounds", 10)]) rfl sc_demands.nd (di_seq (de_var (pv 3))) (blkOk_by (own := [("u", 12), ("v", 13), ("by", 14), ("term", 15), ("way", 16), ("rounds", 10)]) (N := N_demands) (sc := defScope s_demands) (by decide +kernel)) (fun _ _ _ _ _ => dg_tup rfl (dgs_cons (dg_name (pg_name (i := 12) sc_demands.nd rfl (.inl rfl)) (show 12 ∉ ([] : List Nat) by decide)) (dgs_cons (dg_name (pg_name (i := 13) sc_demands.nd rfl (.inl rfl)) (show 13 ∉ ([] : List Nat) by decide)) (dgs_cons (dg_name (pg_name (i := 14) sc_demands.nd rfl (.inl rfl)) (show 14 ∉ ([] : List Nat) by decide)) (dgs_cons (dg_name (pg_name (i := 15) sc_demands.nd rfl (.inl rfl)) (show 15 ∉ ([] : List Nat) by decide)) (dgs_cons (dg_name (pg_name (i := 16) sc_demands.nd rfl (.inl rfl)) (show 16 ∉ ([] : List Nat) by decide)) (dgs_cons (dg_name (pg_name (i := 10) sc_demands.nd rfl (.inl rfl)) (show 10 ∉ ([] : List Nat) by decide)) (dgs_nil)))))))) (fun _ _ _ _ _ => dts_nil) (fun _ _ _ _ _ => de_tup (da_cons (de_var (pv 12)) (da_cons (de_var (pv 13)) (da_cons (de_op od_sub (de_var (pv 14)) (de_op od_mul (de_op od_mul (de_var (pv 16)) (de_var (pv 10))) (de_var (pv 1)))) (da_cons (de_var (pv 15)) (da_cons (de_var (pv 16)) (da_cons (de_var (pv 10)) (da_nil)))))))) (by decide)))) (show 3 ∉ ([] : List Nat) by decide))))
abbrev s_contradiction : Stmt := topS 15
abbrev N_contradiction : List Str := ["many", "edges", "heights", "behind", "last", "turn", "edge", "found"]
theorem sc_contradiction : FnScope N_contradiction ["many", "edges"] (defScope s_contradiction) := ⟨rfl, rfl, rfl, by decide +kernel, rfl, by decide +kernel, by decide +kernel⟩
theorem ok_contradiction (T : Blt mg) (S : Stands K mg "contradiction" s_contradiction ["many", "edges"]) : Has P w K mg base (caOf mg) "contradiction" 1 ["many", "edges"] [] true F_contradiction :=
  S.has sc_contradiction (by decide) rfl fun f cdv A outer s H E hr hgd => by
    have tk := takes_of (X := cxOf (L2.CX P w) P w K mg base N_contradiction "contradiction" (defScope s_contradiction) f cdv A outer s H E) (E := E) rfl rfl rfl rfl
    have po := passes_of (X := cxOf (L2.CX P w) P w K mg base N_contradiction "contradiction" (defScope s_contradiction) f cdv A outer s H E) rfl
    exact dss_cons (ds_setO (i := 2) sc_contradiction.nd rfl (.inl rfl) (de_rep (de_lst (da_cons (de_int) (da_nil))) (de_var (pv 0))) (show 2 ∉ ([] : List Nat) by decide)) (dss_cons (ds_setO (i := 3) sc_contradiction.nd rfl (.inl rfl) (de_rep (de_lst (da_cons (de_non) (da_nil))) (de_var (pv 0))) (show 3 ∉ ([] : List Nat) by decide)) (dss_cons (ds_set (i := 4) sc_contradiction.nd rfl (.inl rfl) (de_non) (show 4 ∉ ([] : List Nat) by decide)) (dss_cons (ds_for po rfl (di_range1 (by rfl) T.range (da_cons (de_op od_add (de_var (pv 0)) (de_int)) (da_nil))) (dg_name (pg_name (i := 5) sc_contradiction.nd rfl (.inl rfl)) (show 5 ∉ ([] : List Nat) by decide)) (dss_cons (ds_set (i := 4) sc_contradiction.nd rfl (.inl rfl) (de_non) (show 4 ∉ ([] : List Nat) by decide)) (dss_one (ds_for po rfl (di_seq (de_var (pv 1))) (dg_name (pg_name (i := 6) sc_contradiction.nd rfl (.inl rfl)) (show 6 ∉ ([] : List Nat) by decide)) (dss_one (ds_if (dt_cmp od_gt (de_op od_add (de_ixO (pv 2) (de_ix xd_ix (de_var (pv 6)) (de_int) (fun _ _ => rfl)) (fun _ _ => rfl)) (de_ix xd_ix (de_var (pv 6)) (de_int) (fun _ _ => rfl))) (de_ixO (pv 2) (de_ix xd_ix (de_var (pv 6)) (de_int) (fun _ _ => rfl)) (fun _ _ => rfl)) (nomark _)) (dss_cons (ds_sto (pv 2) (de_ix xd_ix (de_var (pv 6)) (de_int) (fun _ _ => rfl)) (de_op od_add (de_ixO (pv 2) (de_ix xd_ix (de_var (pv 6)) (de_int) (fun _ _ => rfl)) (fun _ _ => rfl)) (de_ix xd_ix (de_var (pv 6)) (de_int) (fun _ _ => rfl))) (pg_sub (pv 2) (de_ix xd_ix (de_var (pv 6)) (de_int) (fun _ _ => rfl)) set_list)) (dss_cons (ds_sto (pv 3) (de_ix xd_ix (de_var (pv 6)) (de_int) (fun _ _ => rfl)) (de_var (pv 6)) (pg_sub (pv 3) (de_ix xd_ix (de_var (pv 6)) (de_int) (fun _ _ => rfl)) set_list)) (dss_one (ds_set (i := 4) sc_contradiction.nd rfl (.inl rfl) (de_ix xd_ix (de_var (pv 6)) (de_int) (fun _ _ => rfl)) (show 4 ∉ ([] : List Nat) by decide))))) (dss_nil))))))) (dss_cons (ds_if (dt_cmp od_is (de_var (pv 4)) (de_non) (nomark _)) (dss_one (ds_ret (de_non))) (dss_nil)) (dss_cons (ds_for po rfl (di_range1 (by rfl) T.range (da_cons (de_var (pv 0)) (da_nil))) (dg_name (pg_name (i := 5) sc_contradiction.nd rfl (.inl rfl)) (show 5 ∉ ([] : List Nat) by decide)) (dss_one (ds_set (i := 4) sc_contradiction.nd rfl (.inl rfl) (de_ix xd_ix (de_ixO (pv 3) (de_var (pv 4)) (fun _ _ => rfl)) (de_int) (fun _ _ => rfl)) (show 4 ∉ ([] : List Nat) by decide)))) (dss_cons (ds_setO (i := 7) sc_contradiction.nd rfl (.inl rfl) (de_lst (da_cons (de_ixO (pv 3) (de_var (pv 4)) (fun _ _ => rfl)) (da_nil))) (show 7 ∉ ([] : List Nat) by decide)) (dss_cons (ds_while po (dt_cmp (od_ne hr.units) (de_ix xd_ix (de_ixO (pv 7) (de_un ud_neg (de_int)) (fun _ _ => rfl)) (de_int) (fun _ _ => rfl)) (de_var (pv 4)) (nomark _)) (dss_one (ds_app (pv 7) (de_ixO (pv 3) (de_ix xd_ix (de_ixO (pv 7) (de_un ud_neg (de_int)) (fun _ _ => rfl)) (de_int) (fun _ _ => rfl)) (fun _ _ => rfl))))) (dss_one (ds_retO (pv 7) (show 7 ∉ ([] : List Nat) by decide))))))))))
abbrev s_found_bar : Stmt := topS 16
abbrev N_found_bar : List Str := ["ring", "total", "walk", "ups", "downs", "edge"]
theorem sc_found_bar : FnScope N_found_bar ["ring", "total"] (defScope s_found_bar) := ⟨rfl, rfl, rfl, by decide +kernel, rfl, by decide +kernel, by decide +kernel⟩
theorem ok_found_bar (T : Blt mg) (S : Stands K mg "found_bar" s_found_bar ["ring", "total"]) (h_contradiction : Has P w K mg base (caOf mg) "contradiction" 1 ["many", "edges"] [] true F_contradiction) (h_demands : Has P w K mg base (caOf mg) "demands" 1 ["ring", "total"] [] true F_demands) : HasT P w K mg base (caOf mg) "found_bar" 2 ["ring", "total"] [] true F_found_bar 3 1048576 :=
  S.hasT (a := 3) (b := 1048576) sc_found_bar (by decide) rfl fun f cdv A outer s H E hr hgd => by
    have tk := takes_of (X := cxOf (L2.CX P w) P w K mg base N_found_bar "found_bar" (defScope s_found_bar) f cdv A outer s H E) (E := E) rfl rfl rfl rfl
    have po := passes_of (X := cxOf (L2.CX P w) P w K mg base N_found_bar "found_bar" (defScope s_found_bar) f cdv A outer s H E) rfl
    exact dss_cons (ds_set (i := 2) sc_found_bar.nd rfl (.inl rfl) (de_callH h_contradiction hr (by decide) hgd rfl rfl tk (dc_im (de_ix xd_ix (de_var (pv 0)) (de_int) (fun _ _ => rfl)) (dc_im (de_callH h_demands hr (by decide) hgd rfl rfl tk (dc_im (de_var (pv 0)) (dc_im (de_var (pv 1)) (dc_nil)))) (dc_nil)))) (show 2 ∉ ([] : List Nat) by decide)) (dss_cons (ds_if (dt_cmp od_is (de_var (pv 2)) (de_non) (nomark _)) (dss_one (ds_retT rfl (det_flat (n := 3) (m := 1048576) (de_non)))) (dss_nil)) (dss_cons (ds_setO (i := 3) sc_found_bar.nd rfl (.inl rfl) (de_callB (cd_sorted) rfl T.sorted (by decide +kernel) (da_cons (de_lc (own := [("edge", 5)]) rfl sc_found_bar.nd (di_seq (de_var (pv 2))) (blkOk_by (own := [("edge", 5)]) (N := N_found_bar) (sc := defScope s_found_bar) (by decide +kernel)) (fun _ _ _ _ _ => dg_name (pg_name (i := 5) sc_found_bar.nd rfl (.inl rfl)) (show 5 ∉ ([] : List Nat) by decide)) (fun _ _ _ _ _ => dts_one (PW.pt (dw_and (dt_cmp od_isnt (de_ix xd_ix (de_var (pv 5)) (de_int) (fun _ _ => rfl)) (de_non) (nomark _)) (dw_and1 (dt_cmp (od_eq hr.units) (de_ix xd_ix (de_var (pv 5)) (de_int) (fun _ _ => rfl)) (de_int) (nomark _)))))) (fun _ _ _ _ _ => de_ix xd_ix (de_var (pv 5)) (de_int) (fun _ _ => rfl)) (by decide)) (da_nil))) (show 3 ∉ ([] : List Nat) by decide)) (dss_cons (ds_setO (i := 4) sc_found_bar.nd rfl (.inl rfl) (de_callB (cd_sorted) rfl T.sorted (by decide +kernel) (da_cons (de_lc (own := [("edge", 5)]) rfl sc_found_bar.nd (di_seq (de_var (pv 2))) (blkOk_by (own := [("edge", 5)]) (N := N_found_bar) (sc := defScope s_found_bar) (by decide +kernel)) (fun _ _ _ _ _ => dg_name (pg_name (i := 5) sc_found_bar.nd rfl (.inl rfl)) (show 5 ∉ ([] : List Nat) by decide)) (fun _ _ _ _ _ => dts_one (dt_cmp (od_eq hr.units) (de_ix xd_ix (de_var (pv 5)) (de_int) (fun _ _ => rfl)) (de_un ud_neg (de_int)) (nomark _))) (fun _ _ _ _ _ => de_ix xd_ix (de_var (pv 5)) (de_int) (fun _ _ => rfl)) (by decide)) (da_nil))) (show 4 ∉ ([] : List Nat) by decide)) (dss_one (ds_retOO (n := 3) (m := 1048576) rfl (pv 3) (pv 4) (de_callB (cd_sum rfl) rfl T.sum (by decide +kernel) (da_cons (de_lc (own := [("edge", 5)]) rfl sc_found_bar.nd (di_seq (de_var (pv 2))) (blkOk_by (own := [("edge", 5)]) (N := N_found_bar) (sc := defScope s_found_bar) (by decide +kernel)) (fun _ _ _ _ _ => dg_name (pg_name (i := 5) sc_found_bar.nd rfl (.inl rfl)) (show 5 ∉ ([] : List Nat) by decide)) (fun _ _ _ _ _ => dts_nil) (fun _ _ _ _ _ => de_op od_mul (de_ix xd_ix (de_var (pv 5)) (de_int) (fun _ _ => rfl)) (de_ix xd_ix (de_var (pv 5)) (de_int) (fun _ _ => rfl))) (by decide)) (da_nil))) (by decide) (show 3 ∉ ([] : List Nat) by decide) (show 4 ∉ ([] : List Nat) by decide))))))
abbrev s_heights_from : Stmt := topS 17
abbrev N_heights_from : List Str := ["many", "edges", "place", "heights", "turn", "edge", "other"]
theorem sc_heights_from : FnScope N_heights_from ["many", "edges", "place"] (defScope s_heights_from) := ⟨rfl, rfl, rfl, by decide +kernel, rfl, by decide +kernel, by decide +kernel⟩
theorem ok_heights_from (T : Blt mg) (S : Stands K mg "heights_from" s_heights_from ["many", "edges", "place"]) : Has P w K mg base (caOf mg) "heights_from" 1 ["many", "edges", "place"] [] true F_heights_from :=
  S.has sc_heights_from (by decide) rfl fun f cdv A outer s H E hr hgd => by
    have tk := takes_of (X := cxOf (L2.CX P w) P w K mg base N_heights_from "heights_from" (defScope s_heights_from) f cdv A outer s H E) (E := E) rfl rfl rfl rfl
    have po := passes_of (X := cxOf (L2.CX P w) P w K mg base N_heights_from "heights_from" (defScope s_heights_from) f cdv A outer s H E) rfl
    exact dss_cons (ds_setDk (j := 3) (i := 2) (v := .int 0) (c := .int 0) sc_heights_from.nd rfl (.inr rfl) (pv 2) pe_int (fun _ _ => .int 0) (show 3 ∉ ([] : List Nat) by decide)) (dss_cons (ds_for po rfl (di_range1 (by rfl) T.range (da_cons (de_var (pv 0)) (da_nil))) (dg_name (pg_name (i := 4) sc_heights_from.nd rfl (.inl rfl)) (show 4 ∉ ([] : List Nat) by decide)) (dss_one (ds_for po rfl (di_seq (de_var (pv 1))) (dg_name (pg_name (i := 5) sc_heights_from.nd rfl (.inl rfl)) (show 5 ∉ ([] : List Nat) by decide)) (dss_one (ds_if (dt_din (u1 hr) (de_ix xd_ix (de_var (pv 5)) (de_int) (fun _ _ => rfl)) (pv 3)) (dss_cons (ds_set (i := 6) sc_heights_from.nd rfl (.inl rfl) (de_op od_add (de_dix (u1 hr) (pv 3) (de_ix xd_ix (de_var (pv 5)) (de_int) (fun _ _ => rfl)) (fun _ _ => rfl)) (de_ix xd_ix (de_var (pv 5)) (de_int) (fun _ _ => rfl))) (show 6 ∉ ([] : List Nat) by decide)) (dss_one (ds_dsto (u1 hr) (pv 3) (de_ix xd_ix (de_var (pv 5)) (de_int) (fun _ _ => rfl)) (de_callB (cd_max rfl) rfl T.max (by decide +kernel) (da_cons (de_dget2 (u1 hr) (pv 3) (de_ix xd_ix (de_var (pv 5)) (de_int) (fun _ _ => rfl)) (de_var (pv 6)) ⟨rfl, rfl, rfl, rfl⟩) (da_cons (de_var (pv 6)) (da_nil))))))) (dss_nil)))))) (dss_one (ds_ret (de_lc (own := [("other", 6)]) rfl sc_heights_from.nd (di_range1 (by rfl) T.range (da_cons (de_var (pv 0)) (da_nil))) (blkOk_by (own := [("other", 6)]) (N := N_heights_from) (sc := defScope s_heights_from) (by decide +kernel)) (fun _ _ _ _ _ => dg_name (pg_name (i := 6) sc_heights_from.nd rfl (.inl rfl)) (show 6 ∉ ([] : List Nat) by decide)) (fun _ _ _ _ _ => dts_nil) (fun _ _ _ _ _ => de_dix (u1 hr) (pv 3) (de_var (pv 6)) (fun _ _ => rfl)) (by decide)))))
abbrev s_turned : Stmt := topS 18
abbrev N_turned : List Str := ["edges", "u", "v", "by", "term", "way", "rounds"]
theorem sc_turned : FnScope N_turned ["edges"] (defScope s_turned) := ⟨rfl, rfl, rfl, by decide +kernel, rfl, by decide +kernel, by decide +kernel⟩
theorem ok_turned (T : Blt mg) (S : Stands K mg "turned" s_turned ["edges"]) : Has P w K mg base (caOf mg) "turned" 1 ["edges"] [] true F_turned :=
  S.has sc_turned (by decide) rfl fun f cdv A outer s H E hr hgd => by
    have tk := takes_of (X := cxOf (L2.CX P w) P w K mg base N_turned "turned" (defScope s_turned) f cdv A outer s H E) (E := E) rfl rfl rfl rfl
    have po := passes_of (X := cxOf (L2.CX P w) P w K mg base N_turned "turned" (defScope s_turned) f cdv A outer s H E) rfl
    exact dss_one (ds_ret (de_lc (own := [("u", 1), ("v", 2), ("by", 3), ("term", 4), ("way", 5), ("rounds", 6)]) rfl sc_turned.nd (di_seq (de_var (pv 0))) (blkOk_by (own := [("u", 1), ("v", 2), ("by", 3), ("term", 4), ("way", 5), ("rounds", 6)]) (N := N_turned) (sc := defScope s_turned) (by decide +kernel)) (fun _ _ _ _ _ => dg_tup rfl (dgs_cons (dg_name (pg_name (i := 1) sc_turned.nd rfl (.inl rfl)) (show 1 ∉ ([] : List Nat) by decide)) (dgs_cons (dg_name (pg_name (i := 2) sc_turned.nd rfl (.inl rfl)) (show 2 ∉ ([] : List Nat) by decide)) (dgs_cons (dg_name (pg_name (i := 3) sc_turned.nd rfl (.inl rfl)) (show 3 ∉ ([] : List Nat) by decide)) (dgs_cons (dg_name (pg_name (i := 4) sc_turned.nd rfl (.inl rfl)) (show 4 ∉ ([] : List Nat) by decide)) (dgs_cons (dg_name (pg_name (i := 5) sc_turned.nd rfl (.inl rfl)) (show 5 ∉ ([] : List Nat) by decide)) (dgs_cons (dg_name (pg_name (i := 6) sc_turned.nd rfl (.inl rfl)) (show 6 ∉ ([] : List Nat) by decide)) (dgs_nil)))))))) (fun _ _ _ _ _ => dts_nil) (fun _ _ _ _ _ => de_tup (da_cons (de_var (pv 2)) (da_cons (de_var (pv 1)) (da_cons (de_var (pv 3)) (da_cons (de_var (pv 4)) (da_cons (de_var (pv 5)) (da_cons (de_var (pv 6)) (da_nil)))))))) (by decide)))
abbrev s_laid : Stmt := topS 19
abbrev N_laid : List Str := ["sums", "total", "ahead", "after"]
theorem sc_laid : FnScope N_laid ["sums", "total"] (defScope s_laid) := ⟨rfl, rfl, rfl, by decide +kernel, rfl, by decide +kernel, by decide +kernel⟩
theorem ok_laid (T : Blt mg) (S : Stands K mg "laid" s_laid ["sums", "total"]) : Has P w K mg base (caOf mg) "laid" 1 ["sums", "total"] [] true F_laid :=
  S.has sc_laid (by decide) rfl fun f cdv A outer s H E hr hgd => by
    have tk := takes_of (X := cxOf (L2.CX P w) P w K mg base N_laid "laid" (defScope s_laid) f cdv A outer s H E) (E := E) rfl rfl rfl rfl
    have po := passes_of (X := cxOf (L2.CX P w) P w K mg base N_laid "laid" (defScope s_laid) f cdv A outer s H E) rfl
    exact dss_one (ds_ret (de_callTy cd_tuple rfl T.tuple (by decide +kernel) (da_cons (de_lc (own := [("ahead", 2), ("after", 3)]) rfl sc_laid.nd (di_zip2 (by rfl) T.zip (da_cons (de_var (pv 0)) (da_cons (de_lst (da_star (de_slice sd_sl (de_var (pv 0)) (do_some (de_int)) (do_none)) (da_cons (de_var (pv 1)) (da_nil)))) (da_nil)))) (blkOk_by (own := [("ahead", 2), ("after", 3)]) (N := N_laid) (sc := defScope s_laid) (by decide +kernel)) (fun _ _ _ _ _ => dg_tup rfl (dgs_cons (dg_name (pg_name (i := 2) sc_laid.nd rfl (.inl rfl)) (show 2 ∉ ([] : List Nat) by decide)) (dgs_cons (dg_name (pg_name (i := 3) sc_laid.nd rfl (.inl rfl)) (show 3 ∉ ([] : List Nat) by decide)) (dgs_nil)))) (fun _ _ _ _ _ => dts_nil) (fun _ _ _ _ _ => de_op od_sub (de_var (pv 3)) (de_var (pv 2))) (by decide)) (da_nil))))
abbrev s_found_lay : Stmt := topS 20
abbrev N_found_lay : List Str := ["ring", "total", "bar", "edges", "latest", "earliest", "height"]
theorem sc_found_lay : FnScope N_found_lay ["ring", "total"] (defScope s_found_lay) := ⟨rfl, rfl, rfl, by decide +kernel, rfl, by decide +kernel, by decide +kernel⟩
theorem ok_found_lay (T : Blt mg) (S : Stands K mg "found_lay" s_found_lay ["ring", "total"]) (h_found_bar : HasT P w K mg base (caOf mg) "found_bar" 2 ["ring", "total"] [] true F_found_bar 3 1048576) (h_demands : Has P w K mg base (caOf mg) "demands" 1 ["ring", "total"] [] true F_demands) (h_laid : Has P w K mg base (caOf mg) "laid" 1 ["sums", "total"] [] true F_laid) (h_heights_from : Has P w K mg base (caOf mg) "heights_from" 1 ["many", "edges", "place"] [] true F_heights_from) (h_turned : Has P w K mg base (caOf mg) "turned" 1 ["edges"] [] true F_turned) : HasT P w K mg base (caOf mg) "found_lay" 3 ["ring", "total"] [] true F_found_lay 4 4000000 :=
  S.hasT (a := 4) (b := 4000000) sc_found_lay (by decide) rfl fun f cdv A outer s H E hr hgd => by
    have tk := takes_of (X := cxOf (L2.CX P w) P w K mg base N_found_lay "found_lay" (defScope s_found_lay) f cdv A outer s H E) (E := E) rfl rfl rfl rfl
    have po := passes_of (X := cxOf (L2.CX P w) P w K mg base N_found_lay "found_lay" (defScope s_found_lay) f cdv A outer s H E) rfl
    exact dss_found (j := 2) (n := 3) (m := 1048576) sc_found_lay.nd rfl (.inl rfl) (det_callH (n := 3) (m := 1048576) h_found_bar hr (by decide) hgd rfl rfl tk (dc_im (de_var (pv 0)) (dc_im (de_var (pv 1)) (dc_nil)))) (show 2 ∉ ([] : List Nat) by decide) (dsm_ifc (n := 3) (m := 1048576) (dt_cmp od_isnt (de_var (pv 2)) (de_non) (nomark _)) (dsm_ret2 (n' := 4) (m' := 4000000) rfl (de_str) (pv 2)) (nonx_retT _) (dsm_leave (dss_cons (ds_set (i := 3) sc_found_lay.nd rfl (.inl rfl) (de_callH h_demands hr (by decide) hgd rfl rfl tk (dc_im (de_var (pv 0)) (dc_im (de_var (pv 1)) (dc_nil)))) (show 3 ∉ ([] : List Nat) by decide)) (dss_cons (ds_set (i := 4) sc_found_lay.nd rfl (.inl rfl) (de_callH h_laid hr (by decide) hgd rfl rfl tk (dc_im (de_callH h_heights_from hr (by decide) hgd rfl rfl tk (dc_im (de_ix xd_ix (de_var (pv 0)) (de_int) (fun _ _ => rfl)) (dc_im (de_var (pv 3)) (dc_im (de_int) (dc_nil))))) (dc_im (de_var (pv 1)) (dc_nil)))) (show 4 ∉ ([] : List Nat) by decide)) (dss_cons (ds_set (i := 5) sc_found_lay.nd rfl (.inl rfl) (de_callH h_laid hr (by decide) hgd rfl rfl tk (dc_im (de_lc (own := [("height", 6)]) rfl sc_found_lay.nd (di_seq (de_callH h_heights_from hr (by decide) hgd rfl rfl tk (dc_im (de_ix xd_ix (de_var (pv 0)) (de_int) (fun _ _ => rfl)) (dc_im (de_callH h_turned hr (by decide) hgd rfl rfl tk (dc_im (de_var (pv 3)) (dc_nil))) (dc_im (de_int) (dc_nil)))))) (blkOk_by (own := [("height", 6)]) (N := N_found_lay) (sc := defScope s_found_lay) (by decide +kernel)) (fun _ _ _ _ _ => dg_name (pg_name (i := 6) sc_found_lay.nd rfl (.inl rfl)) (show 6 ∉ ([] : List Nat) by decide)) (fun _ _ _ _ _ => dts_nil) (fun _ _ _ _ _ => de_un ud_neg (de_var (pv 6))) (by decide)) (dc_im (de_var (pv 1)) (dc_nil)))) (show 5 ∉ ([] : List Nat) by decide)) (dss_one (ds_retT rfl (det_le (n' := 3) (m' := 1048576) (det_flat (n := 3) (m := 1048576) (de_tup (da_cons (de_str) (da_cons (de_var (pv 4)) (da_cons (de_var (pv 5)) (da_nil))))))))))))))
abbrev s_lay : Stmt := topS 21
abbrev N_lay : List Str := ["ring", "total"]
theorem sc_lay : FnScope N_lay ["ring", "total"] (defScope s_lay) := ⟨rfl, rfl, rfl, by decide +kernel, rfl, by decide +kernel, by decide +kernel⟩
theorem ok_lay (T : Blt mg) (S : Stands K mg "lay" s_lay ["ring", "total"]) (h_look_at_ring : Has P w K mg base (caOf mg) "look_at_ring" 5 ["ring"] [] true F_look_at_ring) (h_look_at_total : Has P w K mg base (caOf mg) "look_at_total" 3 ["total"] [] true F_look_at_total) (h_found_lay : HasT P w K mg base (caOf mg) "found_lay" 3 ["ring", "total"] [] true F_found_lay 4 4000000) : HasT P w K mg base (caOf mg) "lay" 6 ["ring", "total"] [] true F_lay 4 4000000 :=
  S.hasT (a := 4) (b := 4000000) sc_lay (by decide) rfl fun f cdv A outer s H E hr hgd => by
    have tk := takes_of (X := cxOf (L2.CX P w) P w K mg base N_lay "lay" (defScope s_lay) f cdv A outer s H E) (E := E) rfl rfl rfl rfl
    have po := passes_of (X := cxOf (L2.CX P w) P w K mg base N_lay "lay" (defScope s_lay) f cdv A outer s H E) rfl
    exact dss_cons (ds_expr (de_callH h_look_at_ring hr (by decide) hgd rfl rfl tk (dc_im (de_var (pv 0)) (dc_nil)))) (dss_cons (ds_expr (de_callH h_look_at_total hr (by decide) hgd rfl rfl tk (dc_im (de_var (pv 1)) (dc_nil)))) (dss_one (ds_retT rfl (det_callH (n := 4) (m := 4000000) h_found_lay hr (by decide) hgd rfl rfl tk (dc_im (de_var (pv 0)) (dc_im (de_var (pv 1)) (dc_nil)))))))
abbrev s_eased : Stmt := topS 23
abbrev N_eased : List Str := ["ring", "by", "terms", "first", "length", "least", "most"]
theorem sc_eased : FnScope N_eased ["ring", "by"] (defScope s_eased) := ⟨rfl, rfl, rfl, by decide +kernel, rfl, by decide +kernel, by decide +kernel⟩
theorem ok_eased (T : Blt mg) (S : Stands K mg "eased" s_eased ["ring", "by"]) : Has P w K mg base (caOf mg) "eased" 1 ["ring", "by"] [] true F_eased :=
  S.has sc_eased (by decide) rfl fun f cdv A outer s H E hr hgd => by
    have tk := takes_of (X := cxOf (L2.CX P w) P w K mg base N_eased "eased" (defScope s_eased) f cdv A outer s H E) (E := E) rfl rfl rfl rfl
    have po := passes_of (X := cxOf (L2.CX P w) P w K mg base N_eased "eased" (defScope s_eased) f cdv A outer s H E) rfl
    exact dss_cons (ds_setO (i := 2) sc_eased.nd rfl (.inl rfl) (de_lst (da_nil)) (show 2 ∉ ([] : List Nat) by decide)) (dss_cons (ds_for po rfl (di_seq (de_ix xd_ix (de_var (pv 0)) (de_int) (fun _ _ => rfl))) (dg_tup rfl (dgs_cons (dg_name (pg_name (i := 3) sc_eased.nd rfl (.inl rfl)) (show 3 ∉ ([] : List Nat) by decide)) (dgs_cons (dg_name (pg_name (i := 4) sc_eased.nd rfl (.inl rfl)) (show 4 ∉ ([] : List Nat) by decide)) (dgs_cons (dg_name (pg_name (i := 5) sc_eased.nd rfl (.inl rfl)) (show 5 ∉ ([] : List Nat) by decide)) (dgs_cons (dg_name (pg_name (i := 6) sc_eased.nd rfl (.inl rfl)) (show 6 ∉ ([] : List Nat) by decide)) (dgs_nil)))))) (dss_one (ds_app (pv 2) (de_tup (da_cons (de_var (pv 3)) (da_cons (de_var (pv 4)) (da_cons (de_callB (cd_max rfl) rfl T.max (by decide +kernel) (da_cons (de_int) (da_cons (de_op od_sub (de_var (pv 5)) (de_var (pv 1))) (da_nil)))) (da_cons (de_if (dt_cmp od_is (de_var (pv 6)) (de_non) (nomark _)) (de_var (pv 6)) (de_op od_add (de_var (pv 6)) (de_var (pv 1)))) (da_nil))))))))) (dss_frz (i := 2) (dss_one (ds_ret (de_tup (da_cons (de_ix xd_ix (de_var (pv 0)) (de_int) (fun _ _ => rfl)) (da_cons (de_callTy cd_tuple rfl T.tuple (by decide +kernel) (da_cons (de_var (pv 2)) (da_nil))) (da_nil)))))) (show 2 ∉ ([] : List Nat) by decide)))
abbrev s_ease : Stmt := topS 24
abbrev N_ease : List Str := ["ring", "total", "low", "high", "middle", "term"]
theorem sc_ease : FnScope N_ease ["ring", "total"] (defScope s_ease) := ⟨rfl, rfl, rfl, by decide +kernel, rfl, by decide +kernel, by decide +kernel⟩
theorem ok_ease (T : Blt mg) (S : Stands K mg "ease" s_ease ["ring", "total"]) (h_look_at_ring : Has P w K mg base (caOf mg) "look_at_ring" 5 ["ring"] [] true F_look_at_ring) (h_look_at_total : Has P w K mg base (caOf mg) "look_at_total" 3 ["total"] [] true F_look_at_total) (h_found_bar : HasT P w K mg base (caOf mg) "found_bar" 2 ["ring", "total"] [] true F_found_bar 3 1048576) (h_eased : Has P w K mg base (caOf mg) "eased" 1 ["ring", "by"] [] true F_eased) : HasT P w K mg base (caOf mg) "ease" 6 ["ring", "total"] [] true F_ease 4 4000000 :=
  S.hasT (a := 4) (b := 4000000) sc_ease (by decide) rfl fun f cdv A outer s H E hr hgd => by
    have tk := takes_of (X := cxOf (L2.CX P w) P w K mg base N_ease "ease" (defScope s_ease) f cdv A outer s H E) (E := E) rfl rfl rfl rfl
    have po := passes_of (X := cxOf (L2.CX P w) P w K mg base N_ease "ease" (defScope s_ease) f cdv A outer s H E) rfl
    exact dss_cons (ds_expr (de_callH h_look_at_ring hr (by decide) hgd rfl rfl tk (dc_im (de_var (pv 0)) (dc_nil)))) (dss_cons (ds_expr (de_callH h_look_at_total hr (by decide) hgd rfl rfl tk (dc_im (de_var (pv 1)) (dc_nil)))) (dss_cons (ds_par (i := 2) (j := 3) rfl sc_ease.nd rfl rfl (by decide) rfl rfl (da_cons (de_un ud_neg (de_int)) (da_cons (de_callB (cd_max rfl) rfl T.max (by decide +kernel) (da_cons (de_op od_add (de_lst (da_cons (de_var (pv 1)) (da_nil))) (de_lc (own := [("term", 5)]) rfl sc_ease.nd (di_seq (de_ix xd_ix (de_var (pv 0)) (de_int) (fun _ _ => rfl))) (blkOk_by (own := [("term", 5)]) (N := N_ease) (sc := defScope s_ease) (by decide +kernel)) (fun _ _ _ _ _ => dg_name (pg_name (i := 5) sc_ease.nd rfl (.inl rfl)) (show 5 ∉ ([] : List Nat) by decide)) (fun _ _ _ _ _ => dts_nil) (fun _ _ _ _ _ => de_ix xd_ix (de_var (pv 5)) (de_int) (fun _ _ => rfl)) (by decide))) (da_nil))) (da_nil))) (show 2 ∉ ([] : List Nat) by decide) (show 3 ∉ ([] : List Nat) by decide)) (dss_cons (ds_while po (dt_cmp od_gt (de_op od_sub (de_var (pv 3)) (de_var (pv 2))) (de_int) (nomark _)) (dss_cons (ds_set (i := 4) sc_ease.nd rfl (.inl rfl) (de_op od_fdiv (de_op od_add (de_var (pv 2)) (de_var (pv 3))) (de_int)) (show 4 ∉ ([] : List Nat) by decide)) (dss_one (ds_if (dt_cmp od_is (de_callH h_found_bar.has hr (by decide) hgd rfl rfl tk (dc_im (de_callH h_eased hr (by decide) hgd rfl rfl tk (dc_im (de_var (pv 0)) (dc_im (de_var (pv 4)) (dc_nil)))) (dc_im (de_var (pv 1)) (dc_nil)))) (de_non) (nomark _)) (dss_one (ds_set (i := 3) sc_ease.nd rfl (.inl rfl) (de_var (pv 4)) (show 3 ∉ ([] : List Nat) by decide))) (dss_one (ds_set (i := 2) sc_ease.nd rfl (.inl rfl) (de_var (pv 4)) (show 2 ∉ ([] : List Nat) by decide))))))) (dss_one (ds_retT rfl (det_le (n' := 4) (m' := 2097155) (det_tup (n := 3) (m := 2097154) (n' := 4) (m' := 2097155) (dat_cons (n := 3) (m := 1048576) (m' := 1048577) (k := 2097154) (det_flat (n := 3) (m := 1048576) (de_var (pv 3))) (dat_cons (n := 3) (m := 1048576) (m' := 0) (k := 1048577) (det_if (n := 3) (m := 1048576) (dt_cmp od_gt (de_var (pv 3)) (de_int) (nomark _)) (det_callH (n := 3) (m := 1048576) h_found_bar hr (by decide) hgd rfl rfl tk (dc_im (de_callH h_eased hr (by decide) hgd rfl rfl tk (dc_im (de_var (pv 0)) (dc_im (de_op od_sub (de_var (pv 3)) (de_int)) (dc_nil)))) (dc_im (de_var (pv 1)) (dc_nil)))) (det_flat (n := 3) (m := 1048576) (de_non))) (dat_nil (n := 3) (m := 0)))))))))))
abbrev s_law_once : Stmt := topS 27
abbrev N_law_once : List Str := ["_law_some", "_law_kept", "_law_one"]
theorem sc_law_once : FnScope N_law_once ["_law_some"] (defScope s_law_once) := ⟨rfl, rfl, rfl, by decide +kernel, rfl, by decide +kernel, by decide +kernel⟩
theorem ok_law_once (T : Blt mg) (S : Stands K mg "_law_once" s_law_once ["_law_some"]) : Has P w K mg base (caOf mg) "_law_once" 1 ["_law_some"] [] true F_law_once :=
  S.has sc_law_once (by decide) rfl fun f cdv A outer s H E hr hgd => by
    have tk := takes_of (X := cxOf (L2.CX P w) P w K mg base N_law_once "_law_once" (defScope s_law_once) f cdv A outer s H E) (E := E) rfl rfl rfl rfl
    have po := passes_of (X := cxOf (L2.CX P w) P w K mg base N_law_once "_law_once" (defScope s_law_once) f cdv A outer s H E) rfl
    exact dss_cons (ds_setDk0 (j := 1) sc_law_once.nd rfl (.inl rfl) (show 1 ∉ ([] : List Nat) by decide)) (dss_cons (ds_for po rfl (di_seq (de_var (pv 0))) (dg_name (pg_name (i := 2) sc_law_once.nd rfl (.inl rfl)) (show 2 ∉ ([] : List Nat) by decide)) (dss_one (ds_dsto (u1 hr) (pv 1) (de_var (pv 2)) (de_bl)))) (dss_one (ds_ret (de_dkeys (i := 1) (j := 2) rfl sc_law_once.nd (pv 1) (blkOk_by (own := [("_law_one", 2)]) (N := N_law_once) (sc := defScope s_law_once) (by decide +kernel)) rfl (fun _ _ _ _ _ => pg_name (i := 2) sc_law_once.nd rfl (.inl rfl)) (fun _ _ _ _ _ => pv 2)))))
abbrev s_law_short : Stmt := topS 28
abbrev N_law_short : List Str := ["_law_ring_here", "_law_bar"]
theorem sc_law_short : FnScope N_law_short ["_law_ring_here", "_law_bar"] (defScope s_law_short) := ⟨rfl, rfl, rfl, by decide +kernel, rfl, by decide +kernel, by decide +kernel⟩
theorem ok_law_short (T : Blt mg) (S : Stands K mg "_law_short" s_law_short ["_law_ring_here", "_law_bar"]) (h_law_once : Has P w K mg base (caOf mg) "_law_once" 1 ["_law_some"] [] true F_law_once) : Has P w K mg base (caOf mg) "_law_short" 2 ["_law_ring_here", "_law_bar"] [] true F_law_short :=
  S.has sc_law_short (by decide) rfl fun f cdv A outer s H E hr hgd => by
    have tk := takes_of (X := cxOf (L2.CX P w) P w K mg base N_law_short "_law_short" (defScope s_law_short) f cdv A outer s H E) (E := E) rfl rfl rfl rfl
    have po := passes_of (X := cxOf (L2.CX P w) P w K mg base N_law_short "_law_short" (defScope s_law_short) f cdv A outer s H E) rfl
    exact dss_cons (ds_if (PW.pt (dw_or (dt_cmp od_lt (de_callB (cd_len) rfl T.len (by decide +kernel) (da_cons (de_callH h_law_once hr (by decide) hgd rfl rfl tk (dc_im (de_ix xd_ix (de_var (pv 1)) (de_int) (fun _ _ => rfl)) (dc_nil))) (da_nil))) (de_callB (cd_len) rfl T.len (by decide +kernel) (da_cons (de_ix xd_ix (de_var (pv 1)) (de_int) (fun _ _ => rfl)) (da_nil))) (nomark _)) (dw_or1 (dt_cmp od_lt (de_callB (cd_len) rfl T.len (by decide +kernel) (da_cons (de_callH h_law_once hr (by decide) hgd rfl rfl tk (dc_im (de_ix xd_ix (de_var (pv 1)) (de_int) (fun _ _ => rfl)) (dc_nil))) (da_nil))) (de_callB (cd_len) rfl T.len (by decide +kernel) (da_cons (de_ix xd_ix (de_var (pv 1)) (de_int) (fun _ _ => rfl)) (da_nil))) (nomark _))))) (dss_one (ds_ret (de_bl))) (dss_nil)) (dss_one (ds_ret (de_cmp od_le (de_callB (cd_len) rfl T.len (by decide +kernel) (da_cons (de_op od_add (de_ix xd_ix (de_var (pv 1)) (de_int) (fun _ _ => rfl)) (de_ix xd_ix (de_var (pv 1)) (de_int) (fun _ _ => rfl))) (da_nil))) (de_ix xd_ix (de_var (pv 0)) (de_int) (fun _ _ => rfl)) (nomark _))))
abbrev s_law_mixed : Stmt := topS 29
abbrev N_law_mixed : List Str := ["_law_cell", "_law_k", "_law_number"]
theorem sc_law_mixed : FnScope N_law_mixed ["_law_cell", "_law_k"] (defScope s_law_mixed) := ⟨rfl, rfl, rfl, by decide +kernel, rfl, by decide +kernel, by decide +kernel⟩
theorem ok_law_mixed (T : Blt mg) (S : Stands K mg "_law_mixed" s_law_mixed ["_law_cell", "_law_k"]) : Has P w K mg base (caOf mg) "_law_mixed" 1 ["_law_cell", "_law_k"] [] true F_law_mixed :=
  S.has sc_law_mixed (by decide) rfl fun f cdv A outer s H E hr hgd => by
    have tk := takes_of (X := cxOf (L2.CX P w) P w K mg base N_law_mixed "_law_mixed" (defScope s_law_mixed) f cdv A outer s H E) (E := E) rfl rfl rfl rfl
    have po := passes_of (X := cxOf (L2.CX P w) P w K mg base N_law_mixed "_law_mixed" (defScope s_law_mixed) f cdv A outer s H E) rfl
    exact dss_cons (ds_set (i := 2) sc_law_mixed.nd rfl (.inl rfl) (de_op od_mod (de_callTy cd_int rfl T.int (by decide +kernel) (da_cons (de_op od_add (de_op od_add (de_op od_mul (de_op od_mod (de_callTy cd_int rfl T.int (by decide +kernel) (da_cons (de_var (pv 0)) (da_nil))) (de_int)) (de_int)) (de_op od_mul (de_var (pv 1)) (de_int))) (de_int)) (da_nil))) (de_int)) (show 2 ∉ ([] : List Nat) by decide)) (dss_cons (ds_set (i := 2) sc_law_mixed.nd rfl (.inl rfl) (de_op od_mod (de_callTy cd_int rfl T.int (by decide +kernel) (da_cons (de_op od_mul (de_var (pv 2)) (de_var (pv 2))) (da_nil))) (de_int)) (show 2 ∉ ([] : List Nat) by decide)) (dss_one (ds_ret (de_op od_mod (de_callTy cd_int rfl T.int (by decide +kernel) (da_cons (de_op od_mul (de_var (pv 2)) (de_op od_add (de_var (pv 2)) (de_int))) (da_nil))) (de_int)))))
abbrev s_law_pile : Stmt := topS 30
abbrev N_law_pile : List Str := ["_law_script", "_law_k", "_law_cell", "_law_found", "_law_j"]
theorem sc_law_pile : FnScope N_law_pile ["_law_script", "_law_k"] (defScope s_law_pile) := ⟨rfl, rfl, rfl, by decide +kernel, rfl, by decide +kernel, by decide +kernel⟩
theorem ok_law_pile (T : Blt mg) (S : Stands K mg "_law_pile" s_law_pile ["_law_script", "_law_k"]) (h_law_mixed : Has P w K mg base (caOf mg) "_law_mixed" 1 ["_law_cell", "_law_k"] [] true F_law_mixed) : Has P w K mg base (caOf mg) "_law_pile" 2 ["_law_script", "_law_k"] [] true F_law_pile :=
  S.has sc_law_pile (by decide) rfl fun f cdv A outer s H E hr hgd => by
    have tk := takes_of (X := cxOf (L2.CX P w) P w K mg base N_law_pile "_law_pile" (defScope s_law_pile) f cdv A outer s H E) (E := E) rfl rfl rfl rfl
    have po := passes_of (X := cxOf (L2.CX P w) P w K mg base N_law_pile "_law_pile" (defScope s_law_pile) f cdv A outer s H E) rfl
    exact dss_cons (ds_set (i := 2) sc_law_pile.nd rfl (.inl rfl) (de_int) (show 2 ∉ ([] : List Nat) by decide)) (dss_cons (ds_if (dt_cmp od_lt (de_var (pv 1)) (de_callB (cd_len) rfl T.len (by decide +kernel) (da_cons (de_var (pv 0)) (da_nil))) (nomark _)) (dss_one (ds_set (i := 2) sc_law_pile.nd rfl (.inl rfl) (de_ix xd_ix (de_var (pv 0)) (de_var (pv 1)) (fun _ _ => rfl)) (show 2 ∉ ([] : List Nat) by decide))) (dss_nil)) (dss_cons (ds_if (dt_cmp od_ge (de_var (pv 2)) (de_op od_pow (de_int) (de_int)) (nomark _)) (dss_one (ds_ret (de_lst (da_cons (de_op od_mod (de_callTy cd_int rfl T.int (by decide +kernel) (da_cons (de_op od_sub (de_var (pv 2)) (de_op od_pow (de_int) (de_int))) (da_nil))) (de_op od_mul (de_op od_mul (de_op od_mul (de_op od_pow (de_int) (de_int)) (de_op od_pow (de_int) (de_int))) (de_op od_pow (de_int) (de_int))) (de_op od_pow (de_int) (de_int)))) (da_nil))))) (dss_nil)) (dss_cons (ds_set (i := 3) sc_law_pile.nd rfl (.inl rfl) (de_int) (show 3 ∉ ([] : List Nat) by decide)) (dss_cons (ds_for po rfl (di_range1 (by rfl) T.range (da_cons (de_int) (da_nil))) (dg_name (pg_name (i := 4) sc_law_pile.nd rfl (.inl rfl)) (show 4 ∉ ([] : List Nat) by decide)) (dss_one (ds_set (i := 3) sc_law_pile.nd rfl (.inl rfl) (de_op od_add (de_op od_mul (de_var (pv 3)) (de_int)) (de_callH h_law_mixed hr (by decide) hgd rfl rfl tk (dc_im (de_var (pv 2)) (dc_im (de_op od_add (de_op od_add (de_op od_mul (de_int) (de_var (pv 1))) (de_op od_mul (de_int) (de_var (pv 4)))) (de_op od_mul (de_var (pv 4)) (de_var (pv 4)))) (dc_nil))))) (show 3 ∉ ([] : List Nat) by decide)))) (dss_one (ds_ret (de_lst (da_cons (de_var (pv 3)) (da_nil)))))))))
abbrev s_law_take : Stmt := topS 31
abbrev N_law_take : List Str := ["_law_pile_here", "_law_size", "_law_digit"]
theorem sc_law_take : FnScope N_law_take ["_law_pile_here", "_law_size"] (defScope s_law_take) := ⟨rfl, rfl, rfl, by decide +kernel, rfl, by decide +kernel, by decide +kernel⟩
theorem ok_law_take (T : Blt mg) (S : Stands K mg "_law_take" s_law_take ["_law_pile_here", "_law_size"]) : Has P w K mg base (caOf mg) "_law_take" 1 ["_law_pile_here", "_law_size"] [0] false F_law_take :=
  S.has sc_law_take (by decide) rfl fun f cdv A outer s H E hr hgd => by
    have tk := takes_of (X := cxOf (L2.CX P w) P w K mg base N_law_take "_law_take" (defScope s_law_take) f cdv A outer s H E) (E := E) rfl rfl rfl rfl
    have po := passes_of (X := cxOf (L2.CX P w) P w K mg base N_law_take "_law_take" (defScope s_law_take) f cdv A outer s H E) rfl
    exact dss_cons (ds_set (i := 2) sc_law_take.nd rfl (.inl rfl) (de_op od_mod (de_callTy cd_int rfl T.int (by decide +kernel) (da_cons (de_ixO (pv 0) (de_int) (fun _ _ => rfl)) (da_nil))) (de_var (pv 1))) (show 2 ∉ ([0] : List Nat) by decide)) (dss_cons (ds_sto (pv 0) (de_int) (de_op od_fdiv (de_ixO (pv 0) (de_int) (fun _ _ => rfl)) (de_var (pv 1))) (pg_sub (pv 0) (de_int) set_list)) (dss_one (ds_ret (de_var (pv 2)))))
abbrev s_law_whole : Stmt := topS 32
abbrev N_law_whole : List Str := ["_law_thing"]
theorem sc_law_whole : FnScope N_law_whole ["_law_thing"] (defScope s_law_whole) := ⟨rfl, rfl, rfl, by decide +kernel, rfl, by decide +kernel, by decide +kernel⟩
theorem ok_law_whole (T : Blt mg) (S : Stands K mg "_law_whole" s_law_whole ["_law_thing"]) : Has P w K mg base (caOf mg) "_law_whole" 1 ["_law_thing"] [] true F_law_whole :=
  S.has sc_law_whole (by decide) rfl fun f cdv A outer s H E hr hgd => by
    have tk := takes_of (X := cxOf (L2.CX P w) P w K mg base N_law_whole "_law_whole" (defScope s_law_whole) f cdv A outer s H E) (E := E) rfl rfl rfl rfl
    have po := passes_of (X := cxOf (L2.CX P w) P w K mg base N_law_whole "_law_whole" (defScope s_law_whole) f cdv A outer s H E) rfl
    exact dss_one (ds_ret (de_and (de_isi (T := "int") (de_var (pv 0)) rfl T.isinstance rfl T.int (by decide +kernel)) (de_one (de_not (de_isi (T := "bool") (de_var (pv 0)) rfl T.isinstance rfl T.bool (by decide +kernel))))))
abbrev s_law_lists : Stmt := topS 33
abbrev N_law_lists : List Str := ["_law_thing", "_law_found", "_law_part"]
theorem sc_law_lists : FnScope N_law_lists ["_law_thing"] (defScope s_law_lists) := ⟨rfl, rfl, rfl, by decide +kernel, rfl, by decide +kernel, by decide +kernel⟩
theorem okr_law_lists (T : Blt mg) (S : Stands K mg "_law_lists" s_law_lists ["_law_thing"]) (i : Nat) : HasV P w K mg base "_law_lists" i ["_law_thing"] (spL K i) := by
  induction i with
  | zero => exact S.hasV0 0 fun vs H Q E h => by obtain ⟨v, d, as, _, _, h, _⟩ := h; omega
  | succ i h_law_lists =>
    exact S.hasV sc_law_lists (by decide) fun f cdv A outer s H E Q vs hr hgd hl hsp => by
      have tk := takes_of (X := cxOf (L2.CX P w) P w K mg base N_law_lists "_law_lists" (defScope s_law_lists) f cdv A outer s H E) (E := E) rfl rfl rfl rfl
      have po := passes_of (X := cxOf (L2.CX P w) P w K mg base N_law_lists "_law_lists" (defScope s_law_lists) f cdv A outer s H E) rfl
      refine ⟨tLists K (spL K i) _ ⟨caOf mg, [], fun c d _ H => E c d H, fun _ _ _ _ _ => True⟩, ?_, lists_sem (EE := WE fun c d _ H => E c d H) hsp⟩
      exact pss_cons (ps_if (dt_val (de_isi (T := "tuple") (de_var (pv 0)) rfl T.isinstance rfl T.tuple (by decide +kernel))) (pss_cons (ps_set (i := 1) sc_law_lists.nd rfl (.inl rfl) (pe_lst pa_nil)) (pss_cons (ps_for po rfl (pi_seq (pv 0)) (pg_name (i := 2) sc_law_lists.nd rfl (.inl rfl)) (pss_one (ps_set (i := 1) sc_law_lists.nd rfl (.inl rfl) (pe_op op_catL (pv 1) (pe_callV h_law_lists hr (Nat.le_refl _) hgd rfl rfl tk (pa_cons (pv 2) pa_nil rfl)))))) (pss_one (ps_ret (pv 1))))) pss_nil)
        (pss_cons (ps_if (dt_not (dt_val (de_isi (T := "list") (de_var (pv 0)) rfl T.isinstance rfl T.list (by decide +kernel)))) (pss_one (ps_ret (pe_lst pa_nil))) pss_nil)
        (pss_cons (ps_set (i := 1) sc_law_lists.nd rfl (.inl rfl) (pe_lst (pa_cons (pv 0) pa_nil rfl))) (pss_cons (ps_for po rfl (pi_seq (pv 0)) (pg_name (i := 2) sc_law_lists.nd rfl (.inl rfl)) (pss_one (ps_set (i := 1) sc_law_lists.nd rfl (.inl rfl) (pe_op op_catL (pv 1) (pe_callV h_law_lists hr (Nat.le_refl _) hgd rfl rfl tk (pa_cons (pv 2) pa_nil rfl)))))) (pss_one (ps_ret (pv 1))))))
theorem ok_law_lists (T : Blt mg) (S : Stands K mg "_law_lists" s_law_lists ["_law_thing"]) : HasV P w K mg base "_law_lists" 8 ["_law_thing"] (spL K 8) := okr_law_lists T S 8
abbrev s_law_lists_apart : Stmt := topS 26
abbrev N_law_lists_apart : List Str := ["_law_found", "_law_some", "_law_sizes", "_law_one", "_law_size"]
theorem sc_law_lists_apart : FnScope N_law_lists_apart ["_law_found"] (defScope s_law_lists_apart) := ⟨rfl, rfl, rfl, by decide +kernel, rfl, by decide +kernel, by decide +kernel⟩
theorem ok_law_lists_apart (T : Blt mg) (S : Stands K mg "_law_lists_apart" s_law_lists_apart ["_law_found"]) (h_law_lists : HasV P w K mg base "_law_lists" 8 ["_law_thing"] (spL K 8)) : HasV P w K mg base "_law_lists_apart" 9 ["_law_found"] (spA K) :=
  S.hasV sc_law_lists_apart (by decide) fun f cdv A outer s H E Q vs hr hgd hl hsp => by
    have tk := takes_of (X := cxOf (L2.CX P w) P w K mg base N_law_lists_apart "_law_lists_apart" (defScope s_law_lists_apart) f cdv A outer s H E) (E := E) rfl rfl rfl rfl
    have po := passes_of (X := cxOf (L2.CX P w) P w K mg base N_law_lists_apart "_law_lists_apart" (defScope s_law_lists_apart) f cdv A outer s H E) rfl
    refine ⟨tApart K 8 _ ⟨caOf mg, [1], fun c d _ H => E c d H, fun _ _ _ _ _ => True⟩, ?_, apart_sem (EE := WE fun c d _ H => E c d H) rfl (by decide) hsp⟩
    exact pss_cons (ps_set (i := 1) sc_law_lists_apart.nd rfl (.inl rfl) (pe_callV h_law_lists hr (by decide) hgd rfl rfl tk (pa_cons (pv 0) pa_nil rfl)))
      (pss_cons (ds_setLcO (i := 2) (own := [("_law_one", 3)]) rfl sc_law_lists_apart.nd rfl rfl (sw_true rfl rfl rfl (by decide +kernel)) (di_seq (de_var (pv 1))) (blkOk_by (own := [("_law_one", 3)]) (N := N_law_lists_apart) (sc := defScope s_law_lists_apart) (by decide +kernel)) (fun _ _ _ _ _ => dg_name (pg_name (i := 3) sc_law_lists_apart.nd rfl (.inl rfl)) (show 3 ∉ ([1] : List Nat) by decide)) (fun _ _ _ _ _ => dts_nil) (fun _ _ _ _ _ => de_callB (cd_len) rfl T.len (by decide +kernel) (da_cons (de_var (pv 3)) (da_nil))) (by decide) (show 2 ∉ ([1] : List Nat) by decide)) (pss_cons (ps_for po rfl (pi_seq (pv 1)) (pg_name (i := 3) sc_law_lists_apart.nd rfl (.inl rfl)) (pss_one (ps_expr (pe_bm PySem.F.plainAttrs_list PySem.F.slot_list_append PySem.F.type_list_append mt_append (pv 3) (pa_cons pe_non pa_nil rfl) rfl rfl rfl rfl rfl) rfl))) (pss_one (ds_ret (de_cmp (od_eq hr.units) (de_lc (own := [("_law_one", 3)]) rfl sc_law_lists_apart.nd (di_seq (de_var (pv 1))) (blkOk_by (own := [("_law_one", 3)]) (N := N_law_lists_apart) (sc := defScope s_law_lists_apart) (by decide +kernel)) (fun _ _ _ _ _ => dg_name (pg_name (i := 3) sc_law_lists_apart.nd rfl (.inl rfl)) (show 3 ∉ ([1] : List Nat) by decide)) (fun _ _ _ _ _ => dts_nil) (fun _ _ _ _ _ => de_callB (cd_len) rfl T.len (by decide +kernel) (da_cons (de_var (pv 3)) (da_nil))) (by decide)) (de_lc (own := [("_law_size", 4)]) rfl sc_law_lists_apart.nd (di_seq (de_var (pv 2))) (blkOk_by (own := [("_law_size", 4)]) (N := N_law_lists_apart) (sc := defScope s_law_lists_apart) (by decide +kernel)) (fun _ _ _ _ _ => dg_name (pg_name (i := 4) sc_law_lists_apart.nd rfl (.inl rfl)) (show 4 ∉ ([1] : List Nat) by decide)) (fun _ _ _ _ _ => dts_nil) (fun _ _ _ _ _ => de_op od_add (de_var (pv 4)) (de_int)) (by decide)) (nomark _))))))
abbrev s_law_places : Stmt := topS 34
abbrev N_law_places : List Str := ["_law_many", "_law_first", "_law_length", "_law_step"]
theorem sc_law_places : FnScope N_law_places ["_law_many", "_law_first", "_law_length"] (defScope s_law_places) := ⟨rfl, rfl, rfl, by decide +kernel, rfl, by decide +kernel, by decide +kernel⟩
theorem ok_law_places (T : Blt mg) (S : Stands K mg "_law_places" s_law_places ["_law_many", "_law_first", "_law_length"]) : Has P w K mg base (caOf mg) "_law_places" 1 ["_law_many", "_law_first", "_law_length"] [] true F_law_places :=
  S.has sc_law_places (by decide) rfl fun f cdv A outer s H E hr hgd => by
    have tk := takes_of (X := cxOf (L2.CX P w) P w K mg base N_law_places "_law_places" (defScope s_law_places) f cdv A outer s H E) (E := E) rfl rfl rfl rfl
    have po := passes_of (X := cxOf (L2.CX P w) P w K mg base N_law_places "_law_places" (defScope s_law_places) f cdv A outer s H E) rfl
    exact dss_one (ds_ret (de_lc (own := [("_law_step", 3)]) rfl sc_law_places.nd (di_range1 (by rfl) T.range (da_cons (de_var (pv 2)) (da_nil))) (blkOk_by (own := [("_law_step", 3)]) (N := N_law_places) (sc := defScope s_law_places) (by decide +kernel)) (fun _ _ _ _ _ => dg_name (pg_name (i := 3) sc_law_places.nd rfl (.inl rfl)) (show 3 ∉ ([] : List Nat) by decide)) (fun _ _ _ _ _ => dts_nil) (fun _ _ _ _ _ => de_op od_mod (de_callTy cd_int rfl T.int (by decide +kernel) (da_cons (de_op od_add (de_var (pv 1)) (de_var (pv 3))) (da_nil))) (de_var (pv 0))) (by decide)))
abbrev s_law_stones : Stmt := topS 35
abbrev N_law_stones : List Str := ["_law_laying", "_law_first", "_law_length", "_law_found", "_law_place"]
theorem sc_law_stones : FnScope N_law_stones ["_law_laying", "_law_first", "_law_length"] (defScope s_law_stones) := ⟨rfl, rfl, rfl, by decide +kernel, rfl, by decide +kernel, by decide +kernel⟩
theorem ok_law_stones (T : Blt mg) (S : Stands K mg "_law_stones" s_law_stones ["_law_laying", "_law_first", "_law_length"]) (h_law_places : Has P w K mg base (caOf mg) "_law_places" 1 ["_law_many", "_law_first", "_law_length"] [] true F_law_places) : Has P w K mg base (caOf mg) "_law_stones" 2 ["_law_laying", "_law_first", "_law_length"] [] false F_law_stones :=
  S.has sc_law_stones (by decide) rfl fun f cdv A outer s H E hr hgd => by
    have tk := takes_of (X := cxOf (L2.CX P w) P w K mg base N_law_stones "_law_stones" (defScope s_law_stones) f cdv A outer s H E) (E := E) rfl rfl rfl rfl
    have po := passes_of (X := cxOf (L2.CX P w) P w K mg base N_law_stones "_law_stones" (defScope s_law_stones) f cdv A outer s H E) rfl
    exact dss_cons (ds_set (i := 3) sc_law_stones.nd rfl (.inl rfl) (de_int) (show 3 ∉ ([] : List Nat) by decide)) (dss_cons (ds_for po rfl (di_seq (de_callH h_law_places hr (by decide) hgd rfl rfl tk (dc_im (de_callB (cd_len) rfl T.len (by decide +kernel) (da_cons (de_var (pv 0)) (da_nil))) (dc_im (de_var (pv 1)) (dc_im (de_var (pv 2)) (dc_nil)))))) (dg_name (pg_name (i := 4) sc_law_stones.nd rfl (.inl rfl)) (show 4 ∉ ([] : List Nat) by decide)) (dss_one (ds_set (i := 3) sc_law_stones.nd rfl (.inl rfl) (de_op od_add (de_var (pv 3)) (de_ix xd_ix (de_var (pv 0)) (de_var (pv 4)) (fun _ _ => rfl))) (show 3 ∉ ([] : List Nat) by decide)))) (dss_one (ds_ret (de_var (pv 3)))))
abbrev s_law_drawn : Stmt := topS 36
abbrev N_law_drawn : List Str := ["_law_pile_here", "_law_many", "_law_total", "_law_found", "_law_stone"]
theorem sc_law_drawn : FnScope N_law_drawn ["_law_pile_here", "_law_many", "_law_total"] (defScope s_law_drawn) := ⟨rfl, rfl, rfl, by decide +kernel, rfl, by decide +kernel, by decide +kernel⟩
theorem ok_law_drawn (T : Blt mg) (S : Stands K mg "_law_drawn" s_law_drawn ["_law_pile_here", "_law_many", "_law_total"]) (h_law_take : Has P w K mg base (caOf mg) "_law_take" 1 ["_law_pile_here", "_law_size"] [0] false F_law_take) : Has P w K mg base (caOf mg) "_law_drawn" 2 ["_law_pile_here", "_law_many", "_law_total"] [0] true F_law_drawn :=
  S.has sc_law_drawn (by decide) rfl fun f cdv A outer s H E hr hgd => by
    have tk := takes_of (X := cxOf (L2.CX P w) P w K mg base N_law_drawn "_law_drawn" (defScope s_law_drawn) f cdv A outer s H E) (E := E) rfl rfl rfl rfl
    have po := passes_of (X := cxOf (L2.CX P w) P w K mg base N_law_drawn "_law_drawn" (defScope s_law_drawn) f cdv A outer s H E) rfl
    exact dss_cons (ds_setO (i := 3) sc_law_drawn.nd rfl (.inl rfl) (de_rep (de_lst (da_cons (de_int) (da_nil))) (de_var (pv 1))) (show 3 ∉ ([0] : List Nat) by decide)) (dss_cons (ds_for po rfl (di_range1 (by rfl) T.range (da_cons (de_var (pv 2)) (da_nil))) (dg_name (pg_name (i := 4) sc_law_drawn.nd rfl (.inl rfl)) (show 4 ∉ ([0] : List Nat) by decide)) (dss_one (ds_augS (pv 3) (de_callH h_law_take hr (by decide) hgd rfl rfl tk (dc_sl (pv 0) (dc_im (de_var (pv 1)) (dc_nil)))) (de_int) ip_add))) (dss_frz (i := 3) (dss_one (ds_ret (de_callTy cd_tuple rfl T.tuple (by decide +kernel) (da_cons (de_var (pv 3)) (da_nil))))) (show 3 ∉ ([0] : List Nat) by decide)))
abbrev s_law_ring : Stmt := topS 37
abbrev N_law_ring : List Str := ["_law_pile_here", "_law_places_here", "_law_count", "_law_wide", "_law_many", "_law_way", "_law_base", "_law_terms", "_law_k", "_law_first", "_law_length", "_law_here", "_law_least", "_law_most", "_law_term"]
theorem sc_law_ring : FnScope N_law_ring ["_law_pile_here", "_law_places_here", "_law_count", "_law_wide"] (defScope s_law_ring) := ⟨rfl, rfl, rfl, by decide +kernel, rfl, by decide +kernel, by decide +kernel⟩
theorem ok_law_ring (T : Blt mg) (S : Stands K mg "_law_ring" s_law_ring ["_law_pile_here", "_law_places_here", "_law_count", "_law_wide"]) (h_law_take : Has P w K mg base (caOf mg) "_law_take" 1 ["_law_pile_here", "_law_size"] [0] false F_law_take) (h_law_drawn : Has P w K mg base (caOf mg) "_law_drawn" 2 ["_law_pile_here", "_law_many", "_law_total"] [0] true F_law_drawn) (h_law_stones : Has P w K mg base (caOf mg) "_law_stones" 2 ["_law_laying", "_law_first", "_law_length"] [] false F_law_stones) : Has P w K mg base (caOf mg) "_law_ring" 3 ["_law_pile_here", "_law_places_here", "_law_count", "_law_wide"] [0] true F_law_ring :=
  S.has sc_law_ring (by decide) rfl fun f cdv A outer s H E hr hgd => by
    have tk := takes_of (X := cxOf (L2.CX P w) P w K mg base N_law_ring "_law_ring" (defScope s_law_ring) f cdv A outer s H E) (E := E) rfl rfl rfl rfl
    have po := passes_of (X := cxOf (L2.CX P w) P w K mg base N_law_ring "_law_ring" (defScope s_law_ring) f cdv A outer s H E) rfl
    exact dss_cons (ds_set (i := 4) sc_law_ring.nd rfl (.inl rfl) (de_op od_add (de_int) (de_callH h_law_take hr (by decide) hgd rfl rfl tk (dc_sl (pv 0) (dc_im (de_var (pv 1)) (dc_nil))))) (show 4 ∉ ([0] : List Nat) by decide)) (dss_cons (ds_set (i := 5) sc_law_ring.nd rfl (.inl rfl) (de_callH h_law_take hr (by decide) hgd rfl rfl tk (dc_sl (pv 0) (dc_im (de_int) (dc_nil)))) (show 5 ∉ ([0] : List Nat) by decide)) (dss_cons (ds_set (i := 6) sc_law_ring.nd rfl (.inl rfl) (de_callH h_law_drawn hr (by decide) hgd rfl rfl tk (dc_sl (pv 0) (dc_im (de_var (pv 4)) (dc_im (de_callH h_law_take hr (by decide) hgd rfl rfl tk (dc_sl (pv 0) (dc_im (de_op od_add (de_var (pv 3)) (de_int)) (dc_nil)))) (dc_nil))))) (show 6 ∉ ([0] : List Nat) by decide)) (dss_cons (ds_setO (i := 7) sc_law_ring.nd rfl (.inl rfl) (de_lst (da_nil)) (show 7 ∉ ([0] : List Nat) by decide)) (dss_cons (ds_for po rfl (di_range1 (by rfl) T.range (da_cons (de_callH h_law_take hr (by decide) hgd rfl rfl tk (dc_sl (pv 0) (dc_im (de_op od_add (de_var (pv 2)) (de_int)) (dc_nil)))) (da_nil))) (dg_name (pg_name (i := 8) sc_law_ring.nd rfl (.inl rfl)) (show 8 ∉ ([0] : List Nat) by decide)) (dss_cons (ds_par (i := 9) (j := 10) rfl sc_law_ring.nd rfl rfl (by decide) rfl rfl (da_cons (de_callH h_law_take hr (by decide) hgd rfl rfl tk (dc_sl (pv 0) (dc_im (de_var (pv 4)) (dc_nil)))) (da_cons (de_op od_add (de_int) (de_callH h_law_take hr (by decide) hgd rfl rfl tk (dc_sl (pv 0) (dc_im (de_var (pv 4)) (dc_nil))))) (da_nil))) (show 9 ∉ ([0] : List Nat) by decide) (show 10 ∉ ([0] : List Nat) by decide)) (dss_cons (ds_set (i := 11) sc_law_ring.nd rfl (.inl rfl) (de_callH h_law_stones hr (by decide) hgd rfl rfl tk (dc_im (de_var (pv 6)) (dc_im (de_var (pv 9)) (dc_im (de_var (pv 10)) (dc_nil))))) (show 11 ∉ ([0] : List Nat) by decide)) (dss_cons (ds_par (i := 12) (j := 13) rfl sc_law_ring.nd rfl rfl (by decide) rfl rfl (da_cons (de_op od_sub (de_var (pv 11)) (de_callH h_law_take hr (by decide) hgd rfl rfl tk (dc_sl (pv 0) (dc_im (de_int) (dc_nil))))) (da_cons (de_op od_add (de_var (pv 11)) (de_callH h_law_take hr (by decide) hgd rfl rfl tk (dc_sl (pv 0) (dc_im (de_int) (dc_nil))))) (da_nil))) (show 12 ∉ ([0] : List Nat) by decide) (show 13 ∉ ([0] : List Nat) by decide)) (dss_cons (ds_if (dt_cmp (od_eq hr.units) (de_var (pv 5)) (de_int) (nomark _)) (dss_one (ds_par (i := 12) (j := 13) rfl sc_law_ring.nd rfl rfl (by decide) rfl rfl (da_cons (de_callH h_law_take hr (by decide) hgd rfl rfl tk (dc_sl (pv 0) (dc_im (de_var (pv 3)) (dc_nil)))) (da_cons (de_callH h_law_take hr (by decide) hgd rfl rfl tk (dc_sl (pv 0) (dc_im (de_op od_add (de_var (pv 3)) (de_int)) (dc_nil)))) (da_nil))) (show 12 ∉ ([0] : List Nat) by decide) (show 13 ∉ ([0] : List Nat) by decide))) (dss_nil)) (dss_cons (ds_if (PW.pt (dw_and (dt_cmp (od_eq hr.units) (de_var (pv 5)) (de_int) (nomark _)) (dw_and1 (dt_cmp (od_eq hr.units) (de_callH h_law_take hr (by decide) hgd rfl rfl tk (dc_sl (pv 0) (dc_im (de_int) (dc_nil)))) (de_int) (nomark _))))) (dss_one (ds_set (i := 12) sc_law_ring.nd rfl (.inl rfl) (de_op od_add (de_var (pv 11)) (de_int)) (show 12 ∉ ([0] : List Nat) by decide))) (dss_nil)) (dss_cons (ds_if (dt_cmp (od_eq hr.units) (de_callH h_law_take hr (by decide) hgd rfl rfl tk (dc_sl (pv 0) (dc_im (de_int) (dc_nil)))) (de_int) (nomark _)) (dss_one (ds_set (i := 13) sc_law_ring.nd rfl (.inl rfl) (de_non) (show 13 ∉ ([0] : List Nat) by decide))) (dss_nil)) (dss_cons (ds_if (dt_cmp (od_eq hr.units) (de_callH h_law_take hr (by decide) hgd rfl rfl tk (dc_sl (pv 0) (dc_im (de_int) (dc_nil)))) (de_int) (nomark _)) (dss_one (ds_set (i := 12) sc_law_ring.nd rfl (.inl rfl) (de_int) (show 12 ∉ ([0] : List Nat) by decide))) (dss_nil)) (dss_one (ds_app (pv 7) (de_tup (da_cons (de_var (pv 9)) (da_cons (de_var (pv 10)) (da_cons (de_ix xd_ix (de_lst (da_cons (de_int) (da_cons (de_var (pv 12)) (da_nil)))) (de_callTy cd_int rfl T.int (by decide +kernel) (da_cons (de_cmp od_gt (de_var (pv 12)) (de_int) (nomark _)) (da_nil))) (fun _ _ => rfl)) (da_cons (de_var (pv 13)) (da_nil)))))))))))))))) (dss_frz (i := 7) (dss_one (ds_ret (de_tup (da_cons (de_var (pv 4)) (da_cons (de_callTy cd_tuple rfl T.tuple (by decide +kernel) (da_cons (de_lc (own := [("_law_term", 14)]) rfl sc_law_ring.nd (di_seq (de_var (pv 7))) (blkOk_by (own := [("_law_term", 14)]) (N := N_law_ring) (sc := defScope s_law_ring) (by decide +kernel)) (fun _ _ _ _ _ => dg_name (pg_name (i := 14) sc_law_ring.nd rfl (.inl rfl)) (show 14 ∉ ([0] : List Nat) by decide)) (fun _ _ _ _ _ => dts_one (PW.pt (dw_or (dt_cmp od_is (de_ix xd_ix (de_var (pv 14)) (de_int) (fun _ _ => rfl)) (de_non) (nomark _)) (dw_or1 (dt_cmp od_ge (de_ix xd_ix (de_var (pv 14)) (de_int) (fun _ _ => rfl)) (de_int) (nomark _)))))) (fun _ _ _ _ _ => de_var (pv 14)) (by decide)) (da_nil))) (da_nil)))))) (show 7 ∉ ([0] : List Nat) by decide))))))
abbrev s_law_is_from : Stmt := topS 38
abbrev N_law_is_from : List Str := ["_law_thing", "_law_low"]
theorem sc_law_is_from : FnScope N_law_is_from ["_law_thing", "_law_low"] (defScope s_law_is_from) := ⟨rfl, rfl, rfl, by decide +kernel, rfl, by decide +kernel, by decide +kernel⟩
theorem ok_law_is_from (T : Blt mg) (S : Stands K mg "_law_is_from" s_law_is_from ["_law_thing", "_law_low"]) (h_law_whole : Has P w K mg base (caOf mg) "_law_whole" 1 ["_law_thing"] [] true F_law_whole) : Has P w K mg base (caOf mg) "_law_is_from" 2 ["_law_thing", "_law_low"] [] true F_law_is_from :=
  S.has sc_law_is_from (by decide) rfl fun f cdv A outer s H E hr hgd => by
    have tk := takes_of (X := cxOf (L2.CX P w) P w K mg base N_law_is_from "_law_is_from" (defScope s_law_is_from) f cdv A outer s H E) (E := E) rfl rfl rfl rfl
    have po := passes_of (X := cxOf (L2.CX P w) P w K mg base N_law_is_from "_law_is_from" (defScope s_law_is_from) f cdv A outer s H E) rfl
    exact dss_one (ds_ret (de_and (de_callH h_law_whole hr (by decide) hgd rfl rfl tk (dc_im (de_var (pv 0)) (dc_nil))) (de_one (de_cmp od_ge (de_var (pv 0)) (de_var (pv 1)) (nomark _)))))
abbrev s_law_is_bar : Stmt := topS 39
abbrev N_law_is_bar : List Str := ["_law_ring_here", "_law_total", "_law_thing", "_law_part", "_law_t", "_law_times", "_law_demand", "_law_place", "_law_k"]
theorem sc_law_is_bar : FnScope N_law_is_bar ["_law_ring_here", "_law_total", "_law_thing"] (defScope s_law_is_bar) := ⟨rfl, rfl, rfl, by decide +kernel, rfl, by decide +kernel, by decide +kernel⟩
theorem ok_law_is_bar (T : Blt mg) (S : Stands K mg "_law_is_bar" s_law_is_bar ["_law_ring_here", "_law_total", "_law_thing"]) (h_law_whole : Has P w K mg base (caOf mg) "_law_whole" 1 ["_law_thing"] [] true F_law_whole) (h_law_is_from : Has P w K mg base (caOf mg) "_law_is_from" 2 ["_law_thing", "_law_low"] [] true F_law_is_from) (h_law_places : Has P w K mg base (caOf mg) "_law_places" 1 ["_law_many", "_law_first", "_law_length"] [] true F_law_places) : Has P w K mg base (caOf mg) "_law_is_bar" 3 ["_law_ring_here", "_law_total", "_law_thing"] [] true F_law_is_bar :=
  S.has sc_law_is_bar (by decide) rfl fun f cdv A outer s H E hr hgd => by
    have tk := takes_of (X := cxOf (L2.CX P w) P w K mg base N_law_is_bar "_law_is_bar" (defScope s_law_is_bar) f cdv A outer s H E) (E := E) rfl rfl rfl rfl
    have po := passes_of (X := cxOf (L2.CX P w) P w K mg base N_law_is_bar "_law_is_bar" (defScope s_law_is_bar) f cdv A outer s H E) rfl
    exact dss_cons (ds_if (PW.pt (dw_or (dt_not (dt_val (de_isi (T := "tuple") (de_var (pv 2)) rfl T.isinstance rfl T.tuple (by decide +kernel)))) (dw_or (dt_cmp (od_ne hr.units) (de_callB (cd_len) rfl T.len (by decide +kernel) (da_cons (de_var (pv 2)) (da_nil))) (de_int) (nomark _)) (dw_or1 (dt_not (dt_val (de_callH h_law_whole hr (by decide) hgd rfl rfl tk (dc_im (de_ix xd_ix (de_var (pv 2)) (de_int) (fun _ _ => rfl)) (dc_nil))))))))) (dss_one (ds_ret (de_bl))) (dss_nil)) (dss_cons (ds_for po rfl (di_seq (de_slice sd_sl (de_var (pv 2)) (do_none) (do_some (de_int)))) (dg_name (pg_name (i := 3) sc_law_is_bar.nd rfl (.inr rfl)) (show 3 ∉ ([] : List Nat) by decide)) (dss_cons (ds_if (dt_not (dt_val (de_isi (T := "list") (de_var (pv 3)) rfl T.isinstance rfl T.list (by decide +kernel)))) (dss_one (ds_ret (de_bl))) (dss_nil)) (dss_cons (ds_for po rfl (di_seq (de_var (pv 3))) (dg_name (pg_name (i := 4) sc_law_is_bar.nd rfl (.inl rfl)) (show 4 ∉ ([] : List Nat) by decide)) (dss_one (ds_if (PW.pt (dw_or (dt_not (dt_val (de_callH h_law_is_from hr (by decide) hgd rfl rfl tk (dc_im (de_var (pv 4)) (dc_im (de_int) (dc_nil)))))) (dw_or1 (dt_cmp od_ge (de_var (pv 4)) (de_callB (cd_len) rfl T.len (by decide +kernel) (da_cons (de_ix xd_ix (de_var (pv 0)) (de_int) (fun _ _ => rfl)) (da_nil))) (nomark _))))) (dss_one (ds_ret (de_bl))) (dss_nil)))) (dss_one (ds_if (dt_cmp (od_ne hr.units) (de_lc (own := [("_law_k", 8)]) rfl sc_law_is_bar.nd (di_range2 (by rfl) T.range (da_cons (de_int) (da_cons (de_callB (cd_len) rfl T.len (by decide +kernel) (da_cons (de_var (pv 3)) (da_nil))) (da_nil)))) (blkOk_by (own := [("_law_k", 8)]) (N := N_law_is_bar) (sc := defScope s_law_is_bar) (by decide +kernel)) (fun _ _ _ _ _ => dg_name (pg_name (i := 8) sc_law_is_bar.nd rfl (.inl rfl)) (show 8 ∉ ([] : List Nat) by decide)) (fun _ _ _ _ _ => dts_one (dt_cmp od_gt (de_ix xd_ix (de_var (pv 3)) (de_op od_sub (de_var (pv 8)) (de_int)) (fun _ _ => rfl)) (de_ix xd_ix (de_var (pv 3)) (de_var (pv 8)) (fun _ _ => rfl)) (nomark _))) (fun _ _ _ _ _ => de_var (pv 8)) (by decide)) (de_lst (da_nil)) (nomark _)) (dss_one (ds_ret (de_bl))) (dss_nil)))))) (dss_cons (ds_if (dt_cmp (od_ne hr.units) (de_lc (own := [("_law_t", 4)]) rfl sc_law_is_bar.nd (di_seq (de_ix xd_ix (de_var (pv 2)) (de_int) (fun _ _ => rfl))) (blkOk_by (own := [("_law_t", 4)]) (N := N_law_is_bar) (sc := defScope s_law_is_bar) (by decide +kernel)) (fun _ _ _ _ _ => dg_name (pg_name (i := 4) sc_law_is_bar.nd rfl (.inl rfl)) (show 4 ∉ ([] : List Nat) by decide)) (fun _ _ _ _ _ => dts_one (dt_cmp od_is (de_ix xd_ix (de_ix xd_ix (de_ix xd_ix (de_var (pv 0)) (de_int) (fun _ _ => rfl)) (de_var (pv 4)) (fun _ _ => rfl)) (de_int) (fun _ _ => rfl)) (de_non) (nomark _))) (fun _ _ _ _ _ => de_var (pv 4)) (by decide)) (de_lst (da_nil)) (nomark _)) (dss_one (ds_ret (de_bl))) (dss_nil)) (dss_cons (ds_setO (i := 5) sc_law_is_bar.nd rfl (.inl rfl) (de_rep (de_lst (da_cons (de_int) (da_nil))) (de_ix xd_ix (de_var (pv 0)) (de_int) (fun _ _ => rfl))) (show 5 ∉ ([] : List Nat) by decide)) (dss_cons (ds_set (i := 6) sc_law_is_bar.nd rfl (.inl rfl) (de_int) (show 6 ∉ ([] : List Nat) by decide)) (dss_cons (ds_for po rfl (di_seq (de_ix xd_ix (de_var (pv 2)) (de_int) (fun _ _ => rfl))) (dg_name (pg_name (i := 4) sc_law_is_bar.nd rfl (.inl rfl)) (show 4 ∉ ([] : List Nat) by decide)) (dss_cons (ds_set (i := 6) sc_law_is_bar.nd rfl (.inl rfl) (de_op od_add (de_var (pv 6)) (de_ix xd_ix (de_ix xd_ix (de_ix xd_ix (de_var (pv 0)) (de_int) (fun _ _ => rfl)) (de_var (pv 4)) (fun _ _ => rfl)) (de_int) (fun _ _ => rfl))) (show 6 ∉ ([] : List Nat) by decide)) (dss_one (ds_for po rfl (di_seq (de_callH h_law_places hr (by decide) hgd rfl rfl tk (dc_im (de_ix xd_ix (de_var (pv 0)) (de_int) (fun _ _ => rfl)) (dc_im (de_ix xd_ix (de_ix xd_ix (de_ix xd_ix (de_var (pv 0)) (de_int) (fun _ _ => rfl)) (de_var (pv 4)) (fun _ _ => rfl)) (de_int) (fun _ _ => rfl)) (dc_im (de_ix xd_ix (de_ix xd_ix (de_ix xd_ix (de_var (pv 0)) (de_int) (fun _ _ => rfl)) (de_var (pv 4)) (fun _ _ => rfl)) (de_int) (fun _ _ => rfl)) (dc_nil)))))) (dg_name (pg_name (i := 7) sc_law_is_bar.nd rfl (.inl rfl)) (show 7 ∉ ([] : List Nat) by decide)) (dss_one (ds_augS (pv 5) (de_var (pv 7)) (de_int) ip_add)))))) (dss_cons (ds_for po rfl (di_seq (de_ix xd_ix (de_var (pv 2)) (de_int) (fun _ _ => rfl))) (dg_name (pg_name (i := 4) sc_law_is_bar.nd rfl (.inl rfl)) (show 4 ∉ ([] : List Nat) by decide)) (dss_cons (ds_set (i := 6) sc_law_is_bar.nd rfl (.inl rfl) (de_op od_sub (de_var (pv 6)) (de_ix xd_ix (de_ix xd_ix (de_ix xd_ix (de_var (pv 0)) (de_int) (fun _ _ => rfl)) (de_var (pv 4)) (fun _ _ => rfl)) (de_int) (fun _ _ => rfl))) (show 6 ∉ ([] : List Nat) by decide)) (dss_one (ds_for po rfl (di_seq (de_callH h_law_places hr (by decide) hgd rfl rfl tk (dc_im (de_ix xd_ix (de_var (pv 0)) (de_int) (fun _ _ => rfl)) (dc_im (de_ix xd_ix (de_ix xd_ix (de_ix xd_ix (de_var (pv 0)) (de_int) (fun _ _ => rfl)) (de_var (pv 4)) (fun _ _ => rfl)) (de_int) (fun _ _ => rfl)) (dc_im (de_ix xd_ix (de_ix xd_ix (de_ix xd_ix (de_var (pv 0)) (de_int) (fun _ _ => rfl)) (de_var (pv 4)) (fun _ _ => rfl)) (de_int) (fun _ _ => rfl)) (dc_nil)))))) (dg_name (pg_name (i := 7) sc_law_is_bar.nd rfl (.inl rfl)) (show 7 ∉ ([] : List Nat) by decide)) (dss_one (ds_augS (pv 5) (de_var (pv 7)) (de_int) ip_sub)))))) (dss_frz (i := 5) (dss_one (ds_ret (de_and (de_cmp od_le (de_callB (cd_max rfl) rfl T.max (by decide +kernel) (da_cons (de_var (pv 5)) (da_nil))) (de_ix xd_ix (de_var (pv 2)) (de_int) (fun _ _ => rfl)) (nomark _)) (de_one (de_cmp od_gt (de_var (pv 6)) (de_op od_mul (de_ix xd_ix (de_var (pv 2)) (de_int) (fun _ _ => rfl)) (de_var (pv 1))) (nomark _)))))) (show 5 ∉ ([] : List Nat) by decide))))))))
abbrev s_law_eased : Stmt := topS 40
abbrev N_law_eased : List Str := ["_law_ring_here", "_law_by", "_law_terms", "_law_first", "_law_length", "_law_least", "_law_most"]
theorem sc_law_eased : FnScope N_law_eased ["_law_ring_here", "_law_by"] (defScope s_law_eased) := ⟨rfl, rfl, rfl, by decide +kernel, rfl, by decide +kernel, by decide +kernel⟩
theorem ok_law_eased (T : Blt mg) (S : Stands K mg "_law_eased" s_law_eased ["_law_ring_here", "_law_by"]) : Has P w K mg base (caOf mg) "_law_eased" 1 ["_law_ring_here", "_law_by"] [] true F_law_eased :=
  S.has sc_law_eased (by decide) rfl fun f cdv A outer s H E hr hgd => by
    have tk := takes_of (X := cxOf (L2.CX P w) P w K mg base N_law_eased "_law_eased" (defScope s_law_eased) f cdv A outer s H E) (E := E) rfl rfl rfl rfl
    have po := passes_of (X := cxOf (L2.CX P w) P w K mg base N_law_eased "_law_eased" (defScope s_law_eased) f cdv A outer s H E) rfl
    exact dss_cons (ds_setO (i := 2) sc_law_eased.nd rfl (.inl rfl) (de_lst (da_nil)) (show 2 ∉ ([] : List Nat) by decide)) (dss_cons (ds_for po rfl (di_seq (de_ix xd_ix (de_var (pv 0)) (de_int) (fun _ _ => rfl))) (dg_tup rfl (dgs_cons (dg_name (pg_name (i := 3) sc_law_eased.nd rfl (.inl rfl)) (show 3 ∉ ([] : List Nat) by decide)) (dgs_cons (dg_name (pg_name (i := 4) sc_law_eased.nd rfl (.inl rfl)) (show 4 ∉ ([] : List Nat) by decide)) (dgs_cons (dg_name (pg_name (i := 5) sc_law_eased.nd rfl (.inl rfl)) (show 5 ∉ ([] : List Nat) by decide)) (dgs_cons (dg_name (pg_name (i := 6) sc_law_eased.nd rfl (.inl rfl)) (show 6 ∉ ([] : List Nat) by decide)) (dgs_nil)))))) (dss_cons (ds_if (dt_cmp od_isnt (de_var (pv 6)) (de_non) (nomark _)) (dss_one (ds_set (i := 6) sc_law_eased.nd rfl (.inl rfl) (de_op od_add (de_var (pv 6)) (de_var (pv 1))) (show 6 ∉ ([] : List Nat) by decide))) (dss_nil)) (dss_one (ds_app (pv 2) (de_tup (da_cons (de_var (pv 3)) (da_cons (de_var (pv 4)) (da_cons (de_ix xd_ix (de_lst (da_cons (de_int) (da_cons (de_op od_sub (de_var (pv 5)) (de_var (pv 1))) (da_nil)))) (de_callTy cd_int rfl T.int (by decide +kernel) (da_cons (de_cmp od_gt (de_var (pv 5)) (de_var (pv 1)) (nomark _)) (da_nil))) (fun _ _ => rfl)) (da_cons (de_var (pv 6)) (da_nil)))))))))) (dss_frz (i := 2) (dss_one (ds_ret (de_tup (da_cons (de_ix xd_ix (de_var (pv 0)) (de_int) (fun _ _ => rfl)) (da_cons (de_callTy cd_tuple rfl T.tuple (by decide +kernel) (da_cons (de_var (pv 2)) (da_nil))) (da_nil)))))) (show 2 ∉ ([] : List Nat) by decide)))
abbrev s_law_good : Stmt := topS 41
abbrev N_law_good : List Str := ["_law_ring_here", "_law_total", "_law_kept", "_law_found", "_law_by", "_law_bar", "_law_less", "_law_told"]
theorem sc_law_good : FnScope N_law_good ["_law_ring_here", "_law_total"] (defScope s_law_good) := ⟨rfl, rfl, rfl, by decide +kernel, rfl, by decide +kernel, by decide +kernel⟩
theorem ok_law_good (T : Blt mg) (S : Stands K mg "_law_good" s_law_good ["_law_ring_here", "_law_total"]) (h_ease : HasT P w K mg base (caOf mg) "ease" 6 ["ring", "total"] [] true F_ease 4 4000000) (h_law_is_from : Has P w K mg base (caOf mg) "_law_is_from" 2 ["_law_thing", "_law_low"] [] true F_law_is_from) (h_lay : HasT P w K mg base (caOf mg) "lay" 6 ["ring", "total"] [] true F_lay 4 4000000) (h_law_eased : Has P w K mg base (caOf mg) "_law_eased" 1 ["_law_ring_here", "_law_by"] [] true F_law_eased) (h_law_is_bar : Has P w K mg base (caOf mg) "_law_is_bar" 3 ["_law_ring_here", "_law_total", "_law_thing"] [] true F_law_is_bar) (h_law_short : Has P w K mg base (caOf mg) "_law_short" 2 ["_law_ring_here", "_law_bar"] [] true F_law_short) (h_law_lists_apart : HasV P w K mg base "_law_lists_apart" 9 ["_law_found"] (spA K)) : Has P w K mg base (caOf mg) "_law_good" 10 ["_law_ring_here", "_law_total"] [] true F_law_good :=
  S.has sc_law_good (by decide) rfl fun f cdv A outer s H E hr hgd => by
    have tk := takes_of (X := cxOf (L2.CX P w) P w K mg base N_law_good "_law_good" (defScope s_law_good) f cdv A outer s H E) (E := E) rfl rfl rfl rfl
    have po := passes_of (X := cxOf (L2.CX P w) P w K mg base N_law_good "_law_good" (defScope s_law_good) f cdv A outer s H E) rfl
    exact dss_cons (ds_set (i := 2) sc_law_good.nd rfl (.inl rfl) (de_callB (cd_repr hgd (u66 hr)) rfl T.repr (by decide +kernel) (da_cons (de_var (pv 0)) (da_nil))) (show 2 ∉ ([] : List Nat) by decide)) (dss_found (j := 3) (n := 4) (m := 4000000) sc_law_good.nd rfl (.inl rfl) (det_callH (n := 4) (m := 4000000) h_ease hr (by decide) hgd rfl rfl tk (dc_im (de_var (pv 0)) (dc_im (de_var (pv 1)) (dc_nil)))) (show 3 ∉ ([] : List Nat) by decide) (dsm_cons (ds_if (PW.pt (dw_or (dt_not (dt_val (de_isi (T := "tuple") (de_var (pv 3)) rfl T.isinstance rfl T.tuple (by decide +kernel)))) (dw_or (dt_cmp (od_ne hr.units) (de_callB (cd_len) rfl T.len (by decide +kernel) (da_cons (de_var (pv 3)) (da_nil))) (de_int) (nomark _)) (dw_or (dt_not (dt_val (de_callH h_law_is_from hr (by decide) hgd rfl rfl tk (dc_im (de_ix xd_ix (de_var (pv 3)) (de_int) (fun _ _ => rfl)) (dc_im (de_int) (dc_nil)))))) (dw_or1 (dt_cmp (od_ne hr.units) (de_callB (cd_repr hgd (u66 hr)) rfl T.repr (by decide +kernel) (da_cons (de_var (pv 0)) (da_nil))) (de_var (pv 2)) (nomark _))))))) (dss_one (ds_ret (de_bl))) (dss_nil)) (dsm_cons (ds_asg (de_var (pv 3)) (dg_tup rfl (dgs_cons (dg_name (pg_name (i := 4) sc_law_good.nd rfl (.inl rfl)) (show 4 ∉ ([3] : List Nat) by decide)) (dgs_cons (dg_name (pg_name (i := 5) sc_law_good.nd rfl (.inl rfl)) (show 5 ∉ ([3] : List Nat) by decide)) (dgs_nil))))) (dsm_cons (ds_if (PW.pt (dw_or (dt_cmp (od_ne hr.units) (de_ix xd_ix (de_callH h_lay.has hr (by decide) hgd rfl rfl tk (dc_im (de_callH h_law_eased hr (by decide) hgd rfl rfl tk (dc_im (de_var (pv 0)) (dc_im (de_var (pv 4)) (dc_nil)))) (dc_im (de_var (pv 1)) (dc_nil)))) (de_int) (fun _ _ => rfl)) (de_str) (nomark _)) (dw_or1 (dt_cmp (od_ne hr.units) (de_cmp (od_eq hr.units) (de_var (pv 4)) (de_int) (nomark _)) (de_cmp (od_eq hr.units) (de_ix xd_ix (de_callH h_lay.has hr (by decide) hgd rfl rfl tk (dc_im (de_var (pv 0)) (dc_im (de_var (pv 1)) (dc_nil)))) (de_int) (fun _ _ => rfl)) (de_str) (nomark _)) (nomark _))))) (dss_one (ds_ret (de_bl))) (dss_nil)) (dsm_cons (ds_if (dt_cmp (od_ne hr.units) (de_cmp od_is (de_var (pv 5)) (de_non) (nomark _)) (de_cmp (od_eq hr.units) (de_var (pv 4)) (de_int) (nomark _)) (nomark _)) (dss_one (ds_ret (de_bl))) (dss_nil)) (dsm_cons (ds_if (dt_cmp od_gt (de_var (pv 4)) (de_int) (nomark _)) (dss_cons (ds_set (i := 6) sc_law_good.nd rfl (.inl rfl) (de_callH h_law_eased hr (by decide) hgd rfl rfl tk (dc_im (de_var (pv 0)) (dc_im (de_op od_sub (de_var (pv 4)) (de_int)) (dc_nil)))) (show 6 ∉ ([3] : List Nat) by decide)) (dss_one (ds_if (PW.pt (dw_or (dt_not (dt_val (de_callH h_law_is_bar hr (by decide) hgd rfl rfl tk (dc_im (de_var (pv 6)) (dc_im (de_var (pv 1)) (dc_im (de_var (pv 5)) (dc_nil))))))) (dw_or1 (dt_not (dt_val (de_callH h_law_short hr (by decide) hgd rfl rfl tk (dc_im (de_var (pv 0)) (dc_im (de_var (pv 5)) (dc_nil))))))))) (dss_one (ds_ret (de_bl))) (dss_nil)))) (dss_nil)) (dsm_cons (ds_set (i := 7) sc_law_good.nd rfl (.inl rfl) (de_callB (cd_repr hgd (u66 hr)) rfl T.repr (by decide +kernel) (da_cons (de_var (pv 3)) (da_nil))) (show 7 ∉ ([3] : List Nat) by decide)) (dsm_apart (n := 4) (m := 4000000) (pe_callV h_law_lists_apart hr (by decide) hgd rfl rfl tk (pa_cons (pv 3) pa_nil rfl)) (pss_one (ps_ret pe_bl)) (dss_one (ds_ret (de_cmp (od_eq hr.units) (de_callB (cd_repr hgd (u66 hr)) rfl T.repr (by decide +kernel) (da_cons (de_callH h_ease.has hr (by decide) hgd rfl rfl tk (dc_im (de_var (pv 0)) (dc_im (de_var (pv 1)) (dc_nil)))) (da_nil))) (de_var (pv 7)) (nomark _))))))))))))
abbrev s_law : Stmt := topS 42
abbrev N_law : List Str := ["_law_script", "_law_k", "_law_pile_here", "_law_ring_here", "_law_total"]
theorem sc_law : FnScope N_law ["_law_script"] (defScope s_law) := ⟨rfl, rfl, rfl, by decide +kernel, rfl, by decide +kernel, by decide +kernel⟩
theorem ok_law (T : Blt mg) (S : Stands K mg "law" s_law ["_law_script"]) (h_law_pile : Has P w K mg base (caOf mg) "_law_pile" 2 ["_law_script", "_law_k"] [] true F_law_pile) (h_law_ring : Has P w K mg base (caOf mg) "_law_ring" 3 ["_law_pile_here", "_law_places_here", "_law_count", "_law_wide"] [0] true F_law_ring) (h_law_take : Has P w K mg base (caOf mg) "_law_take" 1 ["_law_pile_here", "_law_size"] [0] false F_law_take) (h_law_good : Has P w K mg base (caOf mg) "_law_good" 10 ["_law_ring_here", "_law_total"] [] true F_law_good) (h_ease : HasT P w K mg base (caOf mg) "ease" 6 ["ring", "total"] [] true F_ease 4 4000000) : Has P w K mg base (caOf mg) "law" 11 ["_law_script"] [] true F_law :=
  S.has sc_law (by decide) rfl fun f cdv A outer s H E hr hgd => by
    have tk := takes_of (X := cxOf (L2.CX P w) P w K mg base N_law "law" (defScope s_law) f cdv A outer s H E) (E := E) rfl rfl rfl rfl
    have po := passes_of (X := cxOf (L2.CX P w) P w K mg base N_law "law" (defScope s_law) f cdv A outer s H E) rfl
    exact dss_cons (ds_for po rfl (di_range1 (by rfl) T.range (da_cons (de_callB (cd_max rfl) rfl T.max (by decide +kernel) (da_cons (de_int) (da_cons (de_callB (cd_min rfl) rfl T.min (by decide +kernel) (da_cons (de_callB (cd_len) rfl T.len (by decide +kernel) (da_cons (de_var (pv 0)) (da_nil))) (da_cons (de_int) (da_nil)))) (da_nil)))) (da_nil))) (dg_name (pg_name (i := 1) sc_law.nd rfl (.inl rfl)) (show 1 ∉ ([] : List Nat) by decide)) (dss_cons (ds_setO (i := 2) sc_law.nd rfl (.inl rfl) (de_callH h_law_pile hr (by decide) hgd rfl rfl tk (dc_im (de_var (pv 0)) (dc_im (de_var (pv 1)) (dc_nil)))) (show 2 ∉ ([] : List Nat) by decide)) (dss_cons (ds_set (i := 3) sc_law.nd rfl (.inl rfl) (de_callH h_law_ring hr (by decide) hgd rfl rfl tk (dc_sl (pv 2) (dc_im (de_int) (dc_im (de_int) (dc_im (de_int) (dc_nil)))))) (show 3 ∉ ([] : List Nat) by decide)) (dss_one (ds_for po rfl (di_seq (de_lst (da_cons (de_int) (da_cons (de_callH h_law_take hr (by decide) hgd rfl rfl tk (dc_sl (pv 2) (dc_im (de_int) (dc_nil)))) (da_cons (de_callH h_law_take hr (by decide) hgd rfl rfl tk (dc_sl (pv 2) (dc_im (de_int) (dc_nil)))) (da_nil)))))) (dg_name (pg_name (i := 4) sc_law.nd rfl (.inl rfl)) (show 4 ∉ ([] : List Nat) by decide)) (dss_one (ds_if (dt_not (dt_val (de_callH h_law_good hr (by decide) hgd rfl rfl tk (dc_im (de_var (pv 3)) (dc_im (de_var (pv 4)) (dc_nil)))))) (dss_one (ds_ret (de_bl))) (dss_nil)))))))) (dss_cons (ds_if (dt_cmp (od_ne hr.units) (de_ix xd_ix (de_callH h_ease.has hr (by decide) hgd rfl rfl tk (dc_im (de_tup (da_cons (de_int) (da_cons (de_tup (da_cons (de_tup (da_cons (de_int) (da_cons (de_int) (da_cons (de_int) (da_cons (de_non) (da_nil)))))) (da_nil))) (da_nil)))) (dc_im (de_int) (dc_nil)))) (de_int) (fun _ _ => rfl)) (de_int) (nomark _)) (dss_one (ds_ret (de_bl))) (dss_nil)) (dss_cons (ds_if (PW.pt (dw_or (dt_cmp (od_ne hr.units) (de_ix xd_ix (de_callH h_ease.has hr (by decide) hgd rfl rfl tk (dc_im (de_tup (da_cons (de_int) (da_cons (de_tup (da_cons (de_tup (da_cons (de_int) (da_cons (de_int) (da_cons (de_int) (da_cons (de_int) (da_nil)))))) (da_nil))) (da_nil)))) (dc_im (de_int) (dc_nil)))) (de_int) (fun _ _ => rfl)) (de_int) (nomark _)) (dw_or1 (dt_cmp (od_ne hr.units) (de_ix xd_ix (de_callH h_ease.has hr (by decide) hgd rfl rfl tk (dc_im (de_tup (da_cons (de_int) (da_cons (de_tup (da_cons (de_tup (da_cons (de_int) (da_cons (de_int) (da_cons (de_int) (da_cons (de_non) (da_nil)))))) (da_nil))) (da_nil)))) (dc_im (de_int) (dc_nil)))) (de_int) (fun _ _ => rfl)) (de_int) (nomark _))))) (dss_one (ds_ret (de_bl))) (dss_nil)) (dss_one (ds_ret (de_cmp (od_eq hr.units) (de_ix xd_ix (de_callH h_ease.has hr (by decide) hgd rfl rfl tk (dc_im (de_tup (da_cons (de_int) (da_cons (de_tup (da_cons (de_tup (da_cons (de_int) (da_cons (de_int) (da_cons (de_int) (da_cons (de_int) (da_nil)))))) (da_cons (de_tup (da_cons (de_int) (da_cons (de_int) (da_cons (de_int) (da_cons (de_int) (da_nil)))))) (da_nil)))) (da_nil)))) (dc_im (de_int) (dc_nil)))) (de_int) (fun _ _ => rfl)) (de_int) (nomark _))))))
end
end DL
namespace DL
open PySem PySem.Spec PyProof.Rows L2
local macro_rules | `(tactic| walk_at "mir0") => `(tactic| first
  | with_reducible refine es_seq ?_
  | with_reducible refine es_set ?_
  | with_reducible refine es_ret ?_
  | with_reducible refine ev_var rfl ?_
  | with_reducible refine ev_c ?_
  | with_reducible refine ev_op ?_
  | with_reducible refine ev_nil ?_
  | with_reducible refine ev_ok ?_
  | with_reducible refine ev_cons ?_
  | with_reducible refine ev_star ?_
  | with_reducible refine ev_ca ?_
  | with_reducible refine ev_cNil ?_
  | with_reducible refine ev_cIm ?_
  | with_reducible refine ev_cSl rfl rfl ?_
  | with_reducible refine ev_call ?_
  | (with_reducible apply callAs_mk); (focus repeat (first | exact res_nil | apply res_im | ((apply res_sl); rfl; rfl))); rfl; exact of_decide_eq_true rfl; rfl
  | with_reducible refine ev_bool ?_
  | with_reducible refine ev_notT ?_
  | with_reducible refine ev_andT ?_
  | with_reducible refine ev_orT ?_
  | with_reducible refine ev_andV ?_
  | with_reducible refine ev_orV ?_
  | with_reducible refine ev_if ?_
  | with_reducible refine ev_un ?_
  | with_reducible refine ev_chain ?_
  | with_reducible refine ev_tup ?_
  | with_reducible refine ev_lst ?_
  | with_reducible refine ⟨Nat.le_trans (Nat.le_of_ble_eq_true rfl) (sizeLine_lt 1000 (by decide)), ?_⟩
  | with_reducible refine ev_isi ?_
  | with_reducible refine ev_isE ?_
  | with_reducible refine ev_mt ?_
  | with_reducible refine ev_ixO rfl ?_
  | with_reducible refine ev_lenO rfl ?_
  | with_reducible refine ev_reprO rfl ?_
  | with_reducible refine ev_isiO rfl ?_
  | with_reducible refine ev_opL rfl ?_
  | with_reducible refine ev_opR ?_
  | with_reducible refine ev_items ?_
  | with_reducible refine ev_lend rfl ?_
  | with_reducible refine ev_lendF rfl ?_
  | with_reducible refine ev_walk ?_
  | with_reducible refine ev_sl ?_
  | with_reducible refine ev_part ?_
  | with_reducible refine es_nil ?_
  | with_reducible refine es_expr ?_
  | with_reducible refine es_retN ?_
  | with_reducible refine es_retO rfl ?_
  | with_reducible refine es_asg ?_
  | with_reducible refine es_setO ?_
  | with_reducible refine es_frz rfl ?_
  | with_reducible refine es_app rfl ?_
  | with_reducible refine es_sto ?_
  | with_reducible refine es_augS rfl ?_
  | with_reducible refine es_aug rfl ?_
  | with_reducible refine es_par ?_
  | with_reducible refine es_par3 ?_
  | with_reducible refine es_for ?_
  | with_reducible refine es_raise ?_
  | with_reducible refine es_while ?_
  | with_reducible refine Par2.mk ?_
  | with_reducible refine Par3.mk ?_
  | with_reducible refine tt_mk ?_
  | with_reducible refine nt_mk ?_
  | with_reducible refine nf_mk ?_
  | with_reducible refine ff_mk ?_)
local macro_rules | `(tactic| walk_at "mir2") => `(tactic| first
  | with_reducible refine ev_o (addD_int _ _) ?_
  | with_reducible refine ev_o (subD_int _ _) ?_
  | with_reducible refine ev_o (negD_int _) ?_
  | with_reducible refine ev_o (intD_int _) ?_
  | with_reducible refine ev_o (ltD_int _ _) ?_
  | with_reducible refine ev_o (leD_int _ _) ?_
  | with_reducible refine ev_o (gtD_int _ _) ?_
  | with_reducible refine ev_o (geD_int _ _) ?_
  | with_reducible refine ev_o (neD_int _ _) ?_
  | with_reducible refine ev_o (eqD_int _ _) ?_
  | with_reducible refine ev_o (lenD_lmap _ _) ?_
  | with_reducible refine ev_o (lenD_tmap _ _) ?_
  | with_reducible refine ev_o (lenD_list _) ?_
  | with_reducible refine ev_o (lenD_tuple _) ?_
  | with_reducible refine ev_o (itemsD_list _) ?_
  | with_reducible refine ev_o (itemsD_tuple _) ?_
  | with_reducible refine ev_o (notD_bool _) ?_
  | with_reducible refine ev_o (modD_pos (by omega)) ?_
  | with_reducible refine ev_o (fdivD_pos (by omega) (by omega)) ?_
  | with_reducible refine ev_o (mulD_l (by omega) (by omega)) ?_
  | with_reducible refine ev_o (mulD_r (by omega) (by omega)) ?_
  | with_reducible refine ev_o (rangeD1_int (by omega) (by omega)) ?_
  | with_reducible refine ev_o (rangeD2_int (by omega) (by omega) (by omega) (by omega)) ?_
  | with_reducible refine ev_o (tupleD_list _) ?_
  | with_reducible refine ev_o (listD_list _) ?_
  | with_reducible refine ev_o (listD_tuple _) ?_
  | with_reducible refine ev_o (maxD2 _ _) ?_
  | with_reducible refine ev_o (minD2 _ _) ?_
  | refine ev_o rfl ?_
  | (with_reducible apply ex_mk); rfl)
local macro_rules | `(tactic| walk_at "mir1") => `(tactic| first | walk_at "mir0" | with_reducible refine es_if ?_ | with_reducible refine es_tryK ?_)
local macro_rules | `(tactic| walk_at "mir") => `(tactic| repeat' (first | walk_at "mir1" | walk_at "mir2"))
local macro_rules | `(tactic| walk_at "mirn") => `(tactic| repeat' (first | walk_at "mir0" | walk_at "mir2"))
/-! ### what is a ring -/
def wholeD : D → Bool
  | .int _ => true
  | _ => false
def withinD (d : D) (lo hi : Int) : Bool := match d with
  | .int i => decide (lo ≤ i) && decide (i ≤ hi)
  | _ => false
def fromD (d : D) (lo : Int) : Bool := match d with
  | .int i => decide (lo ≤ i)
  | _ => false
theorem F_is_whole_eq (d : D) : F_is_whole [.im d] = .ok (.bool (wholeD d), [.im d]) := by cases d <;> rfl
theorem F_is_within_eq (d : D) (lo hi : Int) : F_is_within [.im d, .im (.int lo), .im (.int hi)] = .ok (.bool (withinD d lo hi), [.im d, .im (.int lo), .im (.int hi)]) := by
  refine ev_eqs (ev_fun ?_)
  unfold g_is_within
  walk_at "mir"
  refine ev_of (F_is_whole_eq d) ?_
  walk_at "mir"
  cases d with
  | int i =>
    refine ⟨fun _ => ?_, fun h => nomatch h⟩
    walk_at "mir"
    refine ⟨fun h => ?_, fun h => ?_⟩
    · walk_at "mir"
      simp only [withinD, h, Bool.true_and, true_and]; rfl
    · simp only [withinD, h, Bool.false_and, true_and]; rfl
  | _ => exact ⟨(fun h => nomatch h), fun _ => ⟨rfl, rfl⟩⟩
theorem F_is_within_true {i lo hi : Int} (h1 : lo ≤ i) (h2 : i ≤ hi) : F_is_within [.im (.int i), .im (.int lo), .im (.int hi)] = .ok (.bool true, [.im (.int i), .im (.int lo), .im (.int hi)]) := by
  rw [F_is_within_eq]; simp only [withinD, decide_eq_true h1, decide_eq_true h2, Bool.and_self]
theorem F_is_from_eq (d : D) (lo : Int) : F_is_from [.im d, .im (.int lo)] = .ok (.bool (fromD d lo), [.im d, .im (.int lo)]) := by
  refine ev_eqs (ev_fun ?_)
  unfold g_is_from
  walk_at "mir"
  refine ev_of (F_is_whole_eq d) ?_
  walk_at "mir"
  cases d with
  | int i =>
    refine ⟨fun _ => ?_, fun h => nomatch h⟩
    walk_at "mir"
    exact ⟨rfl, rfl⟩
  | _ => exact ⟨(fun h => nomatch h), fun _ => ⟨rfl, rfl⟩⟩
/-- a term, for m places -/
def termD (m : Int) (d : D) : Bool := match d with
  | .tuple [a, b, c, e] => withinD a 0 (m - 1) && withinD b 1 m && fromD c 0 && (match e with | .none => true | _ => fromD e 0)
  | _ => false
theorem isTy_tuple_of {d : D} : isTy "tuple" d = some (.bool (match d with | .tuple _ => true | _ => false)) := by cases d <;> rfl
theorem F_is_term_eq (m : Int) (d : D) : ∃ s, F_is_term [.im (.int m), .im d] = .ok (.bool (termD m d), s) := by
  suffices h : Ev (F_is_term [.im (.int m), .im d]) (fun x t => x = .bool (termD m d)) fun _ _ => False by
    obtain ⟨x, t, e, rfl⟩ := ev_eq h; exact ⟨t, e⟩
  refine ev_fun ?_
  unfold g_is_term
  walk_at "mir"
  refine ev_o isTy_tuple_of ?_
  walk_at "mir"
  cases d with
  | tuple xs =>
    refine ⟨(fun h => nomatch h), fun _ => ?_⟩
    walk_at "mir"
    refine ⟨fun h => ?_, fun h => ?_⟩
    · walk_at "mir"
      match xs, h with
      | [], _ => rfl
      | [_], _ => rfl
      | [_, _], _ => rfl
      | [_, _, _], _ => rfl
      | [_, _, _, _], h => simp at h
      | _ :: _ :: _ :: _ :: _ :: _, _ => rfl
    · have hl : (xs.length : Int) = 4 := by simpa using h
      match xs, hl with
      | [], hl => simp at hl
      | [_], hl => simp at hl
      | [_, _], hl => simp at hl
      | [_, _, _], hl => simp at hl
      | _ :: _ :: _ :: _ :: _ :: r, hl => simp at hl; omega
      | [a, b, c, e], _ =>
      walk_at "mir"
      refine ev_of (F_is_within_eq _ _ _) ?_
      walk_at "mir"
      refine ⟨fun h1 => ?_, fun h1 => ?_⟩
      · walk_at "mir"
        simp only [termD]
        rw [Bool.not_eq_true'] at h1
        rw [h1]; rfl
      · rw [Bool.not_eq_false'] at h1
        walk_at "mir"
        refine ev_of (F_is_within_eq _ _ _) ?_
        walk_at "mir"
        refine ⟨fun h2 => ?_, fun h2 => ?_⟩
        · walk_at "mir"
          rw [Bool.not_eq_true'] at h2
          simp only [termD]
          rw [h1, h2]; rfl
        · rw [Bool.not_eq_false'] at h2
          walk_at "mir"
          refine ev_of (F_is_from_eq _ _) ?_
          walk_at "mir"
          simp only [termD, h1, h2, Bool.true_and]
          refine ⟨fun h3 => ?_, fun h3 => ?_⟩
          · walk_at "mir"
            simp only [h3, Bool.true_and]
            cases e <;> (walk_at "mir"; first | rfl | exact ev_of (F_is_from_eq _ _) rfl)
          · simp only [h3, Bool.false_and]
  | _ =>
    refine ⟨(fun h => ?_), fun h => nomatch h⟩
    walk_at "mir"
    rfl
/-- a ring -/
def ringD (d : D) : Bool := match d with
  | .tuple [.int m, .tuple xs] => decide (1 ≤ m) && decide (m ≤ 40) && xs.all (termD m)
  | _ => false
theorem allD_map (f : D → Bool) (ds : List D) : allD [.list (ds.map fun x => .bool (f x))] = some (.bool (ds.all f)) := by
  rw [show (ds.map fun x => PyData.bool (f x)) = (ds.map f).map .bool by rw [List.map_map]; rfl, allD_list, List.all_map]; rfl
theorem F_is_right_ring_eq (d : D) (hs : ∀ m xs, d = .tuple [m, .tuple xs] → xs.length ≤ sizeLine) : ∃ s, F_is_right_ring [.im d] = .ok (.bool (ringD d), s) := by
  suffices h : Ev (F_is_right_ring [.im d]) (fun x t => x = .bool (ringD d)) fun _ _ => False by
    obtain ⟨x, t, e, rfl⟩ := ev_eq h; exact ⟨t, e⟩
  refine ev_fun ?_
  unfold g_is_right_ring
  walk_at "mir"
  refine ev_o isTy_tuple_of ?_
  walk_at "mir"
  cases d with
  | tuple xs =>
    refine ⟨(fun h => nomatch h), fun _ => ?_⟩
    walk_at "mir"
    refine ⟨fun h => ?_, fun h => ?_⟩
    · walk_at "mir"
      match xs, h with
      | [], _ => rfl
      | [_], _ => simp [ringD]
      | [_, _], h => simp at h
      | _ :: _ :: _ :: _, _ => simp [ringD]
    · have hl : (xs.length : Int) = 2 := by simpa using h
      match xs, hl, hs with
      | [], hl, _ => simp at hl
      | [_], hl, _ => simp at hl
      | _ :: _ :: _ :: r, hl, _ => simp at hl; omega
      | [m, ts], _, hs =>
      walk_at "mir"
      refine ev_of (F_is_within_eq _ _ _) ?_
      walk_at "mir"
      refine ⟨fun h1 => ?_, fun h1 => ?_⟩
      · walk_at "mir"
        rw [Bool.not_eq_true'] at h1
        cases m with
        | int i => cases ts <;> simp only [ringD]
                   simp only [withinD] at h1
                   rw [h1]; rfl
        | _ => rfl
      · rw [Bool.not_eq_false'] at h1
        walk_at "mir"
        refine ev_o isTy_tuple_of ?_
        walk_at "mir"
        cases m with
        | int i =>
          cases ts with
          | tuple xs =>
            refine ⟨fun _ => ?_, (fun h => nomatch h)⟩
            walk_at "mir"
            refine ev_lcm (v := fun x => .bool (termD i x)) ?_
            walk_at "mir"
            refine ⟨rfl, hs _ _ rfl, fun d hd => ?_, ?_⟩
            · walk_at "mir"
              obtain ⟨s, e⟩ := F_is_term_eq i d
              refine ev_of e ?_
              rw [back_ims rfl]
              exact ⟨rfl, rfl, rfl⟩
            · refine ev_ok (ev_o (allD_map _ _) ?_)
              simp only [withinD] at h1
              simp only [ringD, h1, Bool.true_and]
          | _ => exact ⟨(fun h => nomatch h), fun _ => rfl⟩
        | _ => exact nomatch h1
  | _ =>
    refine ⟨(fun h => ?_), fun h => nomatch h⟩
    walk_at "mir"
    rfl
/-- a laying on m places -/
def layD (m : Int) (d : D) : Bool := match d with
  | .tuple xs => decide ((xs.length : Int) = m) && xs.all fun x => fromD x 0
  | _ => false
theorem F_look_at_ring_ok {d : D} (hs : ∀ m xs, d = .tuple [m, .tuple xs] → xs.length ≤ sizeLine) (h : ringD d = true) : F_look_at_ring [.im d] = .ok (.none, [.im d]) := by
  refine ev_eqs (ev_fun ?_)
  unfold g_look_at_ring
  walk_at "mir"
  obtain ⟨s, e⟩ := F_is_right_ring_eq d hs
  rw [h] at e
  refine ev_of e ?_
  walk_at "mir"
  exact ⟨rfl, by rw [back_ims rfl]; rfl⟩
theorem F_look_at_ring_no {d : D} (hs : ∀ m xs, d = .tuple [m, .tuple xs] → xs.length ≤ sizeLine) (h : ringD d = false) : F_look_at_ring [.im d] = .err ⟨"NoRing", []⟩ [.im d] := by
  refine ev_err (ev_fun ?_)
  unfold g_look_at_ring
  walk_at "mir"
  obtain ⟨s, e⟩ := F_is_right_ring_eq d hs
  rw [h] at e
  refine ev_of e ?_
  walk_at "mir"
  exact ⟨rfl, by rw [back_ims rfl]; rfl⟩
/-! ### stretches -/
/-- a term -/
structure Tm where
  s : Int
  l : Int
  lo : Int
  hi : Option Int
def oI : Option Int → D
  | none => .none
  | some i => .int i
def Tm.d (t : Tm) : D := .tuple [.int t.s, .int t.l, .int t.lo, oI t.hi]
structure Tm.ok (m : Int) (t : Tm) : Prop where
  s0 : 0 ≤ t.s
  s1 : t.s < m
  l0 : 1 ≤ t.l
  l1 : t.l ≤ m
  lo0 : 0 ≤ t.lo
  hi0 : ∀ h, t.hi = some h → 0 ≤ h
def rgD (m : Int) (ts : List Tm) : D := .tuple [.int m, .tuple (ts.map Tm.d)]
def vI (xs : List Int) : D := .tuple (xs.map .int)
def lI (xs : List Int) : D := .list (xs.map .int)
theorem termD_ok {m : Int} {t : Tm} (h : t.ok m) : termD m t.d = true := by
  obtain ⟨a, b, c, d, e, f⟩ := h
  simp only [Tm.d, termD, withinD, fromD, decide_eq_true (show (0 : Int) ≤ t.s from a), decide_eq_true (show t.s ≤ m - 1 by omega), decide_eq_true (show 1 ≤ t.l from c), decide_eq_true d, decide_eq_true e, Bool.true_and]
  cases hh : t.hi with
  | none => rfl
  | some h => simp only [oI, fromD, decide_eq_true (f h hh)]
theorem ringD_ok {m : Int} {ts : List Tm} (h1 : 1 ≤ m) (h2 : m ≤ 40) (h : ∀ t ∈ ts, t.ok m) : ringD (rgD m ts) = true := by
  simp only [ringD, rgD, decide_eq_true h1, decide_eq_true h2, Bool.true_and, List.all_eq_true, List.mem_map]
  rintro _ ⟨t, ht, rfl⟩
  exact termD_ok (h t ht)
theorem layD_ok {m : Int} {xs : List Int} (h1 : (xs.length : Int) = m) (h : ∀ x ∈ xs, 0 ≤ x) : layD m (vI xs) = true := by
  simp only [layD, vI, List.length_map, decide_eq_true h1, Bool.true_and, List.all_eq_true, List.mem_map]
  rintro _ ⟨t, ht, rfl⟩
  simp only [fromD, decide_eq_true (h t ht)]
/-- the places of a stretch -/
def plc (n s l : Int) : List Int := (List.range l.toNat).map fun k => (s + (k : Nat)) % n
theorem plc_lt {n s l p : Int} (hn : 0 < n) (h : p ∈ plc n s l) : 0 ≤ p ∧ p < n := by
  simp only [plc, List.mem_map] at h
  obtain ⟨k, _, rfl⟩ := h
  exact ⟨Int.emod_nonneg _ (by omega), Int.emod_lt_of_pos _ hn⟩
theorem plc_length (n s l : Int) : (plc n s l).length = l.toNat := by simp [plc]
theorem rangeL_map (g : Int → D) (lo : Int) (n : Nat) (v : D → D) (hv : ∀ i : Nat, i < n → v (.int (lo + i)) = g (lo + i)) : (rangeL lo n).map v = ((List.range n).map fun i => g (lo + (i : Nat))) := by
  simp only [rangeL, List.map_map]
  apply List.map_congr_left
  intro i hi
  exact hv i (List.mem_range.mp hi)
theorem rangeL_mem {lo : Int} {n : Nat} {d : D} (h : d ∈ rangeL lo n) : ∃ i : Nat, i < n ∧ d = .int (lo + i) := by
  simp only [rangeL, List.mem_map, List.mem_range] at h
  obtain ⟨i, hi, rfl⟩ := h
  exact ⟨i, hi, rfl⟩
theorem rangeL_get {lo : Int} {n k : Nat} {d : D} (h : (rangeL lo n)[k]? = some d) : k < n ∧ d = .int (lo + k) := by
  simp only [rangeL, List.getElem?_map, Option.map_eq_some_iff] at h
  obtain ⟨a, ha, rfl⟩ := h
  rw [List.getElem?_eq_some_iff] at ha
  obtain ⟨h1, h2⟩ := ha
  simp only [List.length_range] at h1
  simp only [List.getElem_range] at h2
  subst h2
  exact ⟨h1, rfl⟩
theorem rangeL_length (lo : Int) (n : Nat) : (rangeL lo n).length = n := by simp [rangeL]
def modAt (n s : Int) : D → D
  | .int i => .int ((s + i) % n)
  | _ => .none
theorem short_of {m : Int} {ts : List Tm} (hs : ts.length ≤ 1000000) : ∀ m' xs, rgD m ts = .tuple [m', .tuple xs] → xs.length ≤ sizeLine := by
  intro m' xs h
  simp only [rgD, PyData.tuple.injEq, List.cons.injEq, and_true] at h
  rw [← h.2, List.length_map]
  exact sizeLine_lt _ (by omega)
theorem shortI_of {xs : List Int} (hs : xs.length ≤ 1000000) : ∀ ys, vI xs = .tuple ys → ys.length ≤ sizeLine := by
  intro ys h
  simp only [vI, PyData.tuple.injEq] at h
  rw [← h, List.length_map]
  exact sizeLine_lt _ (by omega)
/-- the stones in a stretch -/
def stn (xs : List Int) (s l : Int) : Int := ((plc xs.length s l).map fun p => xs.getD p.toNat 0).sum
def atD (xs : List Int) : D → D
  | .int i => .int (xs.getD i.toNat 0)
  | _ => .none
theorem atI_int {xs : List Int} {p : Int} (h0 : 0 ≤ p) (h1 : p < xs.length) : atI (xs.map PyData.int) p = some (.int (xs.getD p.toNat 0)) := by
  refine atI_nat' h0 ?_
  rw [List.getElem?_map, List.getElem?_eq_getElem (by omega), List.getD_eq_getElem?_getD, List.getElem?_eq_getElem (by omega)]
  rfl
/-! ### broken terms -/
def badT (t : Tm) (v : Int) : Bool := decide (v < t.lo) || (match t.hi with | some h => decide (h < v) | none => false)
def brk1 (xs : List Int) (ts : List Tm) (k : Nat) : List D := match ts[k]? with
  | some t => if badT t (stn xs t.s t.l) = true then [.tuple [.int k, .int (stn xs t.s t.l)]] else []
  | none => []
def brkN (xs : List Int) (ts : List Tm) (k : Nat) : List D := (List.range k).flatMap (brk1 xs ts)
def brk (xs : List Int) (ts : List Tm) : List D := brkN xs ts ts.length
theorem brk1_length (xs : List Int) (ts : List Tm) (k : Nat) : (brk1 xs ts k).length ≤ 1 := by
  unfold brk1; split
  · split <;> simp
  · simp
theorem brkN_succ (xs : List Int) (ts : List Tm) (k : Nat) : brkN xs ts (k + 1) = brkN xs ts k ++ brk1 xs ts k := by
  simp only [brkN, List.range_succ, List.flatMap_append, List.flatMap_cons, List.flatMap_nil, List.append_nil]
theorem brkN_length (xs : List Int) (ts : List Tm) : ∀ k : Nat, (brkN xs ts k).length ≤ k
  | 0 => by simp [brkN]
  | k + 1 => by
    have := brkN_length xs ts k
    have := brk1_length xs ts k
    rw [brkN_succ, List.length_append]; omega
theorem es_badIf {N : En → Prop} {P : D → En → Prop} {B C : En → Prop} {E : Exn → En → Prop} {r x : Option Sl} {acc : List D} {k s l v : Int} {t : Tm} (ha : acc.length < 1000000)
    (q : N [r, x, some (.ow (acc ++ if badT t v = true then [.tuple [.int k, .int v]] else [])), some (.im (.int k)), some (.im (.int s)), some (.im (.int l)), some (.im (.int t.lo)), some (.im (oI t.hi)), some (.im (.int v))]) :
    Es (sIf (fOrT (fBool (fOp ltD (fVar 8) (fVar 6))) (fAndT (fBool (fOp isntD (fVar 7) (fC .none))) (fBool (fOp gtD (fVar 8) (fVar 7))))) (sApp 2 (fTup (fCons (fVar 3) (fCons (fVar 8) ((fun env => .ok ([], env))))))) (sNil)
      [r, x, some (.ow acc), some (.im (.int k)), some (.im (.int s)), some (.im (.int l)), some (.im (.int t.lo)), some (.im (oI t.hi)), some (.im (.int v))]) N P B C E := by
  have ha : acc.length < sizeLine := Nat.lt_of_lt_of_le ha (sizeLine_lt _ (by decide))
  by_cases hb : badT t v = true
  · rw [if_pos hb] at q
    unfold badT at hb
    walk_at "mir"
    refine ⟨fun h => ?_, fun h => ?_⟩
    · walk_at "mir"
      exact ⟨ha, q⟩
    · rw [h, Bool.false_or] at hb
      cases hh : t.hi with
      | none => rw [hh] at hb; exact nomatch hb
      | some i =>
        rw [hh] at hb q
        have hb : decide (i < v) = true := hb
        unfold oI
        walk_at "mir"
        refine ⟨fun _ => ?_, fun h => ?_⟩
        · walk_at "mir"
          exact ⟨ha, q⟩
        · rw [h] at hb; exact nomatch hb
  · rw [if_neg hb, List.append_nil] at q
    rw [Bool.not_eq_true] at hb
    unfold badT at hb
    rw [Bool.or_eq_false_iff] at hb
    walk_at "mir"
    rw [hb.1]
    walk_at "mir"
    cases hh : t.hi with
    | none =>
      rw [hh] at q
      unfold oI
      walk_at "mir"
      exact q
    | some i =>
      rw [hh] at hb q
      unfold oI
      walk_at "mir"
      have h2 : decide (i < v) = false := hb.2
      rw [h2]
      walk_at "mir"
      exact q
/-! ### the law's own digits -/
theorem F_law_mixed_eq (v s : Int) : ∃ r t, 0 ≤ r ∧ F_law_mixed [.im (.int v), .im (.int s)] = .ok (.int r, t) := by
  suffices h : Ev (F_law_mixed [.im (.int v), .im (.int s)]) (fun x t => ∃ r, x = .int r ∧ 0 ≤ r) fun _ _ => False by
    obtain ⟨x, t, e, r, rfl, h⟩ := ev_eq h; exact ⟨r, t, h, e⟩
  refine ev_fun ?_
  unfold g_law_mixed
  walk_at "mir"
  exact Int.emod_nonneg _ (by decide)
theorem pow10_60 : powD (.int 10) (.int 60) = some (.int (10 ^ 60)) := powD_int (by decide) (by decide) (by decide)
theorem nat60 : ((10 : Int) ^ 60).natAbs < 2 ^ 200 := by decide
theorem F_law_pile_eq (ns : List Int) {k : Int} (hk : 0 ≤ k) : ∃ p t, 0 ≤ p ∧ F_law_pile [.im (lI ns), .im (.int k)] = .ok (.list [.int p], t) := by
  suffices h : Ev (F_law_pile [.im (lI ns), .im (.int k)]) (fun x t => ∃ p, x = .list [.int p] ∧ 0 ≤ p) fun _ _ => False by
    obtain ⟨x, t, e, r, rfl, h⟩ := ev_eq h; exact ⟨r, t, h, e⟩
  refine ev_fun ?_
  unfold g_law_pile lI
  have hcut : ∀ v, Es (sSeq (sIf (fBool (fOp geD (fVar 2) (fOp powD (fC (.int 10)) (fC (.int 18))))) (sRet (fLst (fCons (fOp modD (fCall intD (fCons (fOp subD (fVar 2) (fOp powD (fC (.int 10)) (fC (.int 18)))) ((fun env => .ok ([], env))))) (fOp mulD (fOp mulD (fOp mulD (fOp powD (fC (.int 10)) (fC (.int 60))) (fOp powD (fC (.int 10)) (fC (.int 60)))) (fOp powD (fC (.int 10)) (fC (.int 60)))) (fOp powD (fC (.int 10)) (fC (.int 60))))) ((fun env => .ok ([], env)))))) (sNil)) (sSeq (sSet 3 (fC (.int 0))) (sSeq (sFor (fWalk rangeD1 (fCons (fC (.int 24)) ((fun env => .ok ([], env))))) (tN 4) (sSet 3 (fOp addD (fOp mulD (fVar 3) (fC (.int 2147483579))) (fCallF 2 [] F_law_mixed (cIm (fVar 2) (cIm (fOp addD (fOp addD (fOp mulD (fC (.int 7)) (fVar 1)) (fOp mulD (fC (.int 100)) (fVar 4))) (fOp mulD (fVar 4) (fVar 4))) (cNil))))))) (sRet (fLst (fCons (fVar 3) ((fun env => .ok ([], env)))))))) [some (.im (lI ns)), some (.im (.int k)), some (.im (.int v)), none, none])
      (fun _ => ∃ p, PyData.none = .list [.int p] ∧ 0 ≤ p) (fun x e => ∃ p, x = .list [.int p] ∧ 0 ≤ p) (fun _ => False) (fun _ => False) fun _ _ => False := by
    intro v
    walk_at "mir"
    refine ⟨fun h => ?_, fun h => ?_⟩
    · walk_at "mir"
      have hp : (0 : Int) < 10 ^ Int.toNat 60 := by decide
      have hq := Int.mul_pos (Int.mul_pos (Int.mul_pos hp hp) hp) hp
      rw [Int.fmod_eq_emod_of_nonneg _ (Int.le_of_lt hq)]
      exact Int.emod_nonneg _ (by omega)
    · walk_at "mir"
      refine es_forK (fun j e => ∃ a c, 0 ≤ a ∧ e = [some (.im (lI ns)), some (.im (.int k)), some (.im (.int v)), some (.im (.int a)), c]) ⟨0, _, by decide, rfl⟩ ?_ ?_
      · rintro j d e hj ⟨a, c, ha, rfl⟩
        obtain ⟨hj, rfl⟩ := rangeL_get hj
        walk_at "mir"
        obtain ⟨r, t, hr, e⟩ := F_law_mixed_eq v (7 * k + 100 * (0 + (j : Int)) + (0 + (j : Int)) * (0 + (j : Int)))
        refine ev_of e ?_
        rw [back_ims rfl]
        walk_at "mir"
        exact ⟨_, _, by omega, rfl⟩
      · rintro e ⟨a, c, ha, rfl⟩
        walk_at "mir"
        exact ha
  walk_at "mir"
  refine ⟨fun h => ?_, fun h => ?_⟩
  · rw [decide_eq_true_eq] at h
    walk_at "mir"
    refine ev_o (atI_int hk h) ?_
    exact hcut _
  · exact es_nil (hcut _)
theorem F_law_take_eq {p k : Int} (h1 : 0 < k) (h2 : k < 1073741824) : F_law_take [.ow [.int p], .im (.int k)] = .ok (.int (p % k), [.ow [.int (p / k)], .im (.int k)]) := by
  refine ev_eqs (ev_fun ?_)
  unfold g_law_take
  walk_at "mir"
  exact ⟨rfl, rfl⟩
theorem F_law_places_eq {n s l : Int} (hn : 0 < n) (hl : l ≤ 1000000) (hl0 : 0 ≤ l) : ∃ t, F_law_places [.im (.int n), .im (.int s), .im (.int l)] = .ok (lI (plc n s l), t) := by
  suffices h : Ev (F_law_places [.im (.int n), .im (.int s), .im (.int l)]) (fun x t => x = lI (plc n s l)) fun _ _ => False by
    obtain ⟨x, t, e, rfl⟩ := ev_eq h; exact ⟨t, e⟩
  refine ev_fun ?_
  unfold g_law_places
  walk_at "mir"
  refine ev_lcm (v := modAt n s) ?_
  walk_at "mir"
  refine ⟨rfl, ?_, fun d hd => ?_, ?_⟩
  · rw [rangeL_length]; exact sizeLine_lt _ (by omega)
  · obtain ⟨i, hi, rfl⟩ := rangeL_mem hd
    walk_at "mir"
    exact ⟨rfl, rfl, rfl⟩
  · rw [rangeL_map (fun i => .int ((s + i) % n)) 0 l.toNat _ fun _ _ => rfl]
    simp only [lI, plc, List.map_map]
    congr 1
    apply List.map_congr_left
    intro i _
    simp only [Function.comp, Int.zero_add]
theorem take_succ_sum (xs : List Int) (k : Nat) (h : k < xs.length) : (xs.take (k + 1)).sum = (xs.take k).sum + xs[k] := by
  rw [List.take_succ_eq_append_getElem h, List.sum_append, List.sum_cons, List.sum_nil]; omega
theorem F_law_stones_eq {xs : List Int} {s l : Int} (hn : xs ≠ []) (hl : l ≤ 1000000) (hl0 : 0 ≤ l) : ∃ t, F_law_stones [.im (vI xs), .im (.int s), .im (.int l)] = .ok (.int (stn xs s l), t) := by
  suffices h : Ev (F_law_stones [.im (vI xs), .im (.int s), .im (.int l)]) (fun x t => x = .int (stn xs s l)) fun _ _ => False by
    obtain ⟨x, t, e, rfl⟩ := ev_eq h; exact ⟨t, e⟩
  have hp : (0 : Int) < xs.length := by have := List.length_pos_iff.mpr hn; omega
  refine ev_fun ?_
  unfold g_law_stones vI
  walk_at "mir"
  obtain ⟨t, e⟩ := F_law_places_eq (n := (xs.length : Int)) (s := s) (l := l) hp hl hl0
  refine ev_of e ?_
  rw [back_ims rfl]
  unfold lI
  walk_at "mir"
  refine es_forK (fun j e => ∃ c, e = [some (.im (vI xs)), some (.im (.int s)), some (.im (.int l)), some (.im (.int (((plc xs.length s l).map fun p => xs.getD p.toNat 0).take j).sum)), c]) ⟨_, rfl⟩ ?_ ?_
  · rintro j d e hj ⟨c, rfl⟩
    rw [List.getElem?_map, Option.map_eq_some_iff] at hj
    obtain ⟨p, hj, rfl⟩ := hj
    have hm := plc_lt hp (List.mem_of_getElem? hj)
    unfold vI
    walk_at "mir"
    refine ev_o (atI_int hm.1 hm.2) ?_
    walk_at "mir"
    rw [List.getElem?_eq_some_iff] at hj
    obtain ⟨h1, h2⟩ := hj
    rw [take_succ_sum _ _ (by rw [List.length_map]; exact h1), List.getElem_map, h2]
    exact ⟨_, rfl⟩
  · rintro e ⟨c, rfl⟩
    walk_at "mir"
    rw [List.length_map, List.take_of_length_le (by rw [List.length_map]; exact Nat.le_refl _)]
    rfl
/-! ### drawn layings -/
theorem rep_zero (k : Nat) : (List.replicate k ([PyData.int 0] : List D)).flatten = (List.replicate k (0 : Int)).map PyData.int := by
  induction k with
  | zero => rfl
  | succ n ih => rw [List.replicate_succ, List.flatten_cons, ih, List.replicate_succ, List.map_cons]; rfl
theorem repD_zero {n : Int} (h0 : 0 ≤ n) (h1 : n ≤ 1000000) : repD (.list [.int 0]) (.int n) = some (.list ((List.replicate n.toNat (0 : Int)).map .int)) := by
  simp only [repD]
  rw [if_pos ⟨by omega, by omega, by simp only [List.length_cons, List.length_nil]; exact sizeLine_lt _ (by omega)⟩, rep_zero]
theorem sum_set_add : ∀ (xs : List Int) (i : Nat) (h : i < xs.length), (xs.set i (xs[i] + 1)).sum = xs.sum + 1
  | [], _, h => nomatch h
  | x :: xs, 0, _ => by simp only [List.set_cons_zero, List.sum_cons, List.getElem_cons_zero]; omega
  | x :: xs, i + 1, h => by
    have := sum_set_add xs i (by simpa using h)
    simp only [List.set_cons_succ, List.sum_cons, List.getElem_cons_succ, this]; omega
theorem sum_rep0 (n : Nat) : (List.replicate n (0 : Int)).sum = 0 := by induction n with
  | zero => rfl
  | succ n ih => rw [List.replicate_succ, List.sum_cons, ih]; rfl
theorem le_sum_of : ∀ {xs : List Int}, (∀ x ∈ xs, 0 ≤ x) → (0 ≤ xs.sum ∧ ∀ x ∈ xs, x ≤ xs.sum)
  | [], _ => ⟨by simp, by simp⟩
  | y :: ys, h => by
    obtain ⟨h1, h2⟩ := le_sum_of (xs := ys) fun x hx => h x (by simp [hx])
    have hy := h y (by simp)
    simp only [List.sum_cons]
    refine ⟨by omega, fun x hx => ?_⟩
    rcases List.mem_cons.mp hx with rfl | hx
    · omega
    · have := h2 x hx; omega
theorem F_law_drawn_eq {p n c : Int} (hp : 0 ≤ p) (hn : 0 < n) (hn1 : n ≤ 1000000) (hc : 0 ≤ c) (hc1 : c ≤ 1000000) :
    ∃ p' xs, 0 ≤ p' ∧ xs.length = n.toNat ∧ (∀ x ∈ xs, 0 ≤ x) ∧ xs.sum = c ∧ F_law_drawn [.ow [.int p], .im (.int n), .im (.int c)] = .ok (vI xs, [.ow [.int p'], .im (.int n), .im (.int c)]) := by
  suffices h : Ev (F_law_drawn [.ow [.int p], .im (.int n), .im (.int c)]) (fun x t => ∃ p' xs, 0 ≤ p' ∧ xs.length = n.toNat ∧ (∀ x ∈ xs, 0 ≤ x) ∧ xs.sum = c ∧ x = vI xs ∧ t = [.ow [.int p'], .im (.int n), .im (.int c)]) fun _ _ => False by
    obtain ⟨x, t, e, p', xs, h1, h2, h3, h4, rfl, rfl⟩ := ev_eq h; exact ⟨p', xs, h1, h2, h3, h4, e⟩
  refine ev_fun ?_
  unfold g_law_drawn
  walk_at "mir"
  refine ev_o (repD_zero (by omega) hn1) ?_
  walk_at "mir"
  refine es_forK (fun k e => ∃ p' xs a, 0 ≤ p' ∧ xs.length = n.toNat ∧ (∀ x ∈ xs, 0 ≤ x) ∧ xs.sum = (k : Int) ∧ e = [some (.ow [.int p']), some (.im (.int n)), some (.im (.int c)), some (.ow (xs.map .int)), a])
    ⟨p, List.replicate n.toNat 0, _, hp, by simp, by simp only [List.mem_replicate]; omega, sum_rep0 _, rfl⟩ ?_ ?_
  · rintro k d e hk ⟨p', xs, a, h1, h2, h3, h4, rfl⟩
    obtain ⟨hk, rfl⟩ := rangeL_get hk
    walk_at "mir"
    refine ev_of (F_law_take_eq hn (by omega)) ?_
    walk_at "mir"
    have hi0 : 0 ≤ p' % n := Int.emod_nonneg _ (by omega)
    have hi1 : p' % n < n := Int.emod_lt_of_pos _ hn
    have hl : (p' % n).toNat < xs.length := by omega
    refine ⟨hi0, xs[(p' % n).toNat], by rw [List.getElem?_map, List.getElem?_eq_getElem hl]; rfl, ?_⟩
    walk_at "mir"
    refine ⟨by rw [List.length_map]; exact hl, ?_⟩
    refine ⟨p' / n, xs.set (p' % n).toNat (xs[(p' % n).toNat] + 1), _, Int.ediv_nonneg h1 (by omega), by rw [List.length_set]; exact h2, ?_, ?_, by rw [List.map_set]; rfl⟩
    · intro x hx
      rcases List.mem_or_eq_of_mem_set hx with hx | rfl
      · exact h3 x hx
      · have := h3 _ (List.getElem_mem hl); omega
    · rw [sum_set_add _ _ hl, h4]; omega
  · rintro e ⟨p', xs, a, h1, h2, h3, h4, rfl⟩
    rw [rangeL_length] at h4
    walk_at "mir"
    exact ⟨p', xs, h1, h2, h3, by omega, rfl, rfl⟩
/-- the stones of a stretch are not more than so many -/
theorem sum_le_of : ∀ {xs : List Int} {b : Int}, 0 ≤ b → (∀ x ∈ xs, x ≤ b) → xs.sum ≤ b * xs.length
  | [], b, _, _ => by simp
  | y :: ys, b, hb, h => by
    have h1 := sum_le_of (xs := ys) hb fun x hx => h x (by simp [hx])
    have h2 := h y (by simp)
    simp only [List.sum_cons, List.length_cons]
    rw [Int.natCast_add, Int.mul_add]
    omega
theorem stn_bound {xs : List Int} {s l b : Int} (h0 : ∀ x ∈ xs, 0 ≤ x) (hb : 0 ≤ b) (h1 : ∀ x ∈ xs, x ≤ b) (hl : 0 ≤ l) : 0 ≤ stn xs s l ∧ stn xs s l ≤ b * l := by
  have hg : ∀ p : Int, 0 ≤ xs.getD p.toNat 0 ∧ xs.getD p.toNat 0 ≤ b := by
    intro p
    rw [List.getD_eq_getElem?_getD]
    cases h : xs[p.toNat]? with
    | none => exact ⟨Int.le_refl _, hb⟩
    | some x => exact ⟨h0 x (List.mem_of_getElem? h), h1 x (List.mem_of_getElem? h)⟩
  constructor
  · exact (le_sum_of (xs := (plc xs.length s l).map fun p => xs.getD p.toNat 0) (by
      intro x hx
      obtain ⟨p, _, rfl⟩ := List.mem_map.mp hx
      exact (hg p).1)).1
  · have := sum_le_of (xs := (plc xs.length s l).map fun p => xs.getD p.toNat 0) hb (by
      intro x hx
      obtain ⟨p, _, rfl⟩ := List.mem_map.mp hx
      exact (hg p).2)
    rw [List.length_map, plc_length, Int.toNat_of_nonneg hl] at this
    exact this
/-! ### drawn rings -/
structure RawT (m : Int) (t : Tm) : Prop where
  s0 : 0 ≤ t.s
  s1 : t.s < m
  l0 : 1 ≤ t.l
  l1 : t.l ≤ m
  lo0 : 0 ≤ t.lo
  lo1 : t.lo ≤ 1000000
  hi0 : ∀ h, t.hi = some h → -1000000 ≤ h ∧ h ≤ 1000000
def hiOk (t : Tm) : Bool := match t.hi with
  | none => true
  | some h => decide (0 ≤ h)
theorem RawT.ok {m : Int} {t : Tm} (h : RawT m t) (q : hiOk t = true) : t.ok m := by
  refine ⟨h.s0, h.s1, h.l0, h.l1, h.lo0, fun i hi => ?_⟩
  unfold hiOk at q
  rw [hi] at q
  exact of_decide_eq_true q
def hiD : D → Bool
  | .tuple [_, _, _, .int h] => decide (0 ≤ h)
  | _ => true
theorem hiD_d (t : Tm) : hiD t.d = hiOk t := by
  unfold Tm.d hiOk
  cases t.hi <;> rfl
theorem filter_hi (ts : List Tm) : (ts.map Tm.d).filter hiD = (ts.filter hiOk).map Tm.d := by
  rw [List.filter_map]
  congr 1
  apply List.filter_congr
  intro t _
  exact hiD_d t
theorem F_law_ring_eq {p a b c : Int} (hp : 0 ≤ p) (ha : 1 ≤ a) (ha1 : a ≤ 40) (hb : 0 ≤ b) (hb1 : b ≤ 1000) (hc : 1 ≤ c) (hc1 : c ≤ 1000) :
    ∃ p' m ts, 0 ≤ p' ∧ 1 ≤ m ∧ m ≤ a ∧ (ts.length : Int) ≤ b ∧ (∀ t ∈ ts, RawT m t ∧ hiOk t = true) ∧ F_law_ring [.ow [.int p], .im (.int a), .im (.int b), .im (.int c)] = .ok (rgD m ts, [.ow [.int p'], .im (.int a), .im (.int b), .im (.int c)]) := by
  suffices h : Ev (F_law_ring [.ow [.int p], .im (.int a), .im (.int b), .im (.int c)]) (fun x t => ∃ p' m ts, 0 ≤ p' ∧ 1 ≤ m ∧ m ≤ a ∧ (ts.length : Int) ≤ b ∧ (∀ t ∈ ts, RawT m t ∧ hiOk t = true) ∧ x = rgD m ts ∧ t = [.ow [.int p'], .im (.int a), .im (.int b), .im (.int c)]) fun _ _ => False by
    obtain ⟨x, t, e, p', m, ts, h1, h2, h3, h4, h5, rfl, rfl⟩ := ev_eq h; exact ⟨p', m, ts, h1, h2, h3, h4, h5, e⟩
  refine ev_fun ?_
  unfold g_law_ring
  walk_at "mirn"
  refine ev_of (F_law_take_eq (by omega) (by omega)) ?_
  walk_at "mirn"
  refine ev_of (F_law_take_eq (by omega) (by omega)) ?_
  walk_at "mirn"
  refine ev_of (F_law_take_eq (by omega) (by omega)) ?_
  walk_at "mirn"
  have q0 : 0 ≤ p % a := Int.emod_nonneg _ (by omega)
  have q1 : p % a < a := Int.emod_lt_of_pos _ (by omega)
  generalize p % a = r at q0 q1
  have q2 : 0 ≤ p / a := Int.ediv_nonneg hp (by omega)
  generalize p / a = p1 at q2
  have q3 : 0 ≤ p1 / 4 := Int.ediv_nonneg q2 (by omega)
  generalize p1 % 4 = v
  generalize p1 / 4 = p2 at q3
  have q4 : 0 ≤ p2 / (c + 1) := Int.ediv_nonneg q3 (by omega)
  have q5 : 0 ≤ p2 % (c + 1) := Int.emod_nonneg _ (by omega)
  have q6 : p2 % (c + 1) < c + 1 := Int.emod_lt_of_pos _ (by omega)
  generalize p2 / (c + 1) = p3 at q4
  generalize p2 % (c + 1) = tot at q5 q6
  obtain ⟨p4, xs, x1, x2, x3, x4, e⟩ := F_law_drawn_eq (p := p3) (n := 1 + r) (c := tot) q4 (by omega) (by omega) (by omega) (by omega)
  refine ev_of e ?_
  walk_at "mirn"
  refine ev_of (F_law_take_eq (by omega) (by omega)) ?_
  walk_at "mirn"
  have y1 : 0 ≤ p4 / (b + 1) := Int.ediv_nonneg x1 (by omega)
  have y2 : 0 ≤ p4 % (b + 1) := Int.emod_nonneg _ (by omega)
  have y3 : p4 % (b + 1) < b + 1 := Int.emod_lt_of_pos _ (by omega)
  generalize p4 / (b + 1) = p5 at y1
  generalize p4 % (b + 1) = n at y2 y3
  refine ev_o (rangeD1_int (by omega) (by omega)) ?_
  have hxl : (xs.length : Int) = 1 + r := by omega
  have hxn : xs ≠ [] := by rintro rfl; simp at hxl; omega
  have hxb : ∀ x ∈ xs, x ≤ 1000 := fun x hx => by have := (le_sum_of x3).2 x hx; omega
  have hm0 : 1 ≤ 1 + r := by omega
  have hm2 : 1 + r ≤ a := by omega
  generalize 1 + r = m at hxl x2 hm0 hm2
  have hm1 : m ≤ 40 := by omega
  refine es_forK (fun k e => ∃ p' ts a8 a9 a10 a11 a12 a13, 0 ≤ p' ∧ ts.length = k ∧ (∀ t ∈ ts, RawT m t) ∧ e = [some (.ow [.int p']), some (.im (.int a)), some (.im (.int b)), some (.im (.int c)), some (.im (.int m)), some (.im (.int v)), some (.im (vI xs)), some (.ow (ts.map Tm.d)), a8, a9, a10, a11, a12, a13, none])
    ⟨p5, [], _, _, _, _, _, _, y1, rfl, by simp, rfl⟩ ?_ ?_
  · rintro k d e hk ⟨p', ts, a8, a9, a10, a11, a12, a13, h1, h2, h3, rfl⟩
    obtain ⟨hk, rfl⟩ := rangeL_get hk
    walk_at "mirn"
    refine ev_of (F_law_take_eq (by omega) (by omega)) ?_
    walk_at "mirn"
    refine ev_of (F_law_take_eq (by omega) (by omega)) ?_
    walk_at "mirn"
    have z1 : 0 ≤ p' % m := Int.emod_nonneg _ (by omega)
    have z2 : p' % m < m := Int.emod_lt_of_pos _ (by omega)
    generalize p' % m = s0 at z1 z2
    have z3 : 0 ≤ p' / m := Int.ediv_nonneg h1 (by omega)
    generalize p' / m = p6 at z3
    have z4 : 0 ≤ p6 % m := Int.emod_nonneg _ (by omega)
    have z5 : p6 % m < m := Int.emod_lt_of_pos _ (by omega)
    have z6 : 0 ≤ p6 / m := Int.ediv_nonneg z3 (by omega)
    generalize p6 / m = p7 at z6
    have z7 : 1 ≤ 1 + p6 % m := by omega
    have z8 : 1 + p6 % m ≤ m := by omega
    generalize 1 + p6 % m = l0 at z7 z8
    obtain ⟨t1, e1⟩ := F_law_stones_eq (xs := xs) (s := s0) (l := l0) hxn (by omega) (by omega)
    refine ev_of e1 ?_
    rw [back_ims rfl]
    obtain ⟨w1, w2⟩ := stn_bound (xs := xs) (s := s0) (l := l0) (b := 1000) x3 (by omega) hxb (by omega)
    generalize stn xs s0 l0 = st at w1 w2
    walk_at "mirn"
    refine ev_of (F_law_take_eq (by omega) (by omega)) ?_
    walk_at "mirn"
    refine ev_of (F_law_take_eq (by omega) (by omega)) ?_
    walk_at "mirn"
    have v1 : 0 ≤ p7 % 3 := Int.emod_nonneg _ (by omega)
    have v2 : p7 % 3 < 3 := Int.emod_lt_of_pos _ (by omega)
    have v3 : 0 ≤ p7 / 3 := Int.ediv_nonneg z6 (by omega)
    generalize p7 / 3 = p8 at v3
    have v4 : 0 ≤ p8 % 3 := Int.emod_nonneg _ (by omega)
    have v5 : p8 % 3 < 3 := Int.emod_lt_of_pos _ (by omega)
    have v6 : 0 ≤ p8 / 3 := Int.ediv_nonneg v3 (by omega)
    let Mid : En → Prop := fun e => ∃ p' lo hi, 0 ≤ p' ∧ -1000000 ≤ lo ∧ lo ≤ 1000000 ∧ (∀ h, hi = some h → -1000000 ≤ h ∧ h ≤ 1000000) ∧
      e = [some (.ow [.int p']), some (.im (.int a)), some (.im (.int b)), some (.im (.int c)), some (.im (.int m)), some (.im (.int v)), some (.im (vI xs)), some (.ow (ts.map Tm.d)), some (.im (.int (0 + (k : Int)))), some (.im (.int s0)), some (.im (.int l0)), some (.im (.int st)), some (.im (.int lo)), some (.im (oI hi)), none]
    have hi1 : ∀ {x : Int}, -1000000 ≤ x → x ≤ 1000000 → ∀ h, some x = some h → -1000000 ≤ h ∧ h ≤ 1000000 := by
      intro x u1 u2 h hh; cases hh; exact ⟨u1, u2⟩
    refine es_imp1 (N := Mid) ?_ ?_
    · walk_at "mir"
      refine ⟨fun _ => ?_, fun _ => ?_⟩
      · walk_at "mirn"
        refine ev_of (F_law_take_eq (by omega) (by omega)) ?_
        walk_at "mirn"
        refine ev_of (F_law_take_eq (by omega) (by omega)) ?_
        walk_at "mirn"
        have u1 : 0 ≤ p8 / 3 % c := Int.emod_nonneg _ (by omega)
        have u2 : p8 / 3 % c < c := Int.emod_lt_of_pos _ (by omega)
        have u3 : 0 ≤ p8 / 3 / c := Int.ediv_nonneg v6 (by omega)
        have u4 : 0 ≤ p8 / 3 / c % (c + 2) := Int.emod_nonneg _ (by omega)
        have u5 : p8 / 3 / c % (c + 2) < c + 2 := Int.emod_lt_of_pos _ (by omega)
        exact ⟨p8 / 3 / c / (c + 2), p8 / 3 % c, some (p8 / 3 / c % (c + 2)), Int.ediv_nonneg u3 (by omega), by omega, by omega, hi1 (by omega) (by omega), rfl⟩
      · walk_at "mirn"
        exact ⟨p8 / 3, st - p7 % 3, some (st + p8 % 3), v6, by omega, by omega, hi1 (by omega) (by omega), rfl⟩
    rintro _ ⟨p9, lo, hi, g1, g2, g3, g4, rfl⟩
    walk_at "mirn"
    refine es_imp1 (N := Mid) ?_ ?_
    · walk_at "mir"
      refine ⟨fun _ => ?_, fun _ => ?_⟩
      · walk_at "mir"
        refine ev_of (F_law_take_eq (by omega) (by omega)) ?_
        walk_at "mir"
        have u3 : 0 ≤ p9 / 4 := Int.ediv_nonneg g1 (by omega)
        refine ⟨fun _ => ?_, fun _ => ?_⟩
        · walk_at "mir"
          exact ⟨p9 / 4, st + 1, hi, u3, by omega, by omega, g4, rfl⟩
        · walk_at "mir"
          exact ⟨p9 / 4, lo, hi, u3, by omega, by omega, g4, rfl⟩
      · walk_at "mir"
        exact ⟨p9, lo, hi, g1, by omega, by omega, g4, rfl⟩
    clear g1 g2 g3 g4
    rintro _ ⟨p9, lo, hi, g1, g2, g3, g4, rfl⟩
    walk_at "mirn"
    refine es_imp1 (N := Mid) ?_ ?_
    · walk_at "mir"
      refine ev_of (F_law_take_eq (by omega) (by omega)) ?_
      walk_at "mir"
      have u3 : 0 ≤ p9 / 3 := Int.ediv_nonneg g1 (by omega)
      refine ⟨fun _ => ?_, fun _ => ?_⟩
      · walk_at "mir"
        exact ⟨p9 / 3, lo, none, u3, by omega, by omega, (fun h q => nomatch q), rfl⟩
      · walk_at "mir"
        exact ⟨p9 / 3, lo, hi, u3, by omega, by omega, g4, rfl⟩
    clear g1 g2 g3 g4
    rintro _ ⟨p9, lo, hi, g1, g2, g3, g4, rfl⟩
    walk_at "mirn"
    refine es_imp1 (N := Mid) ?_ ?_
    · walk_at "mir"
      refine ev_of (F_law_take_eq (by omega) (by omega)) ?_
      walk_at "mir"
      have u3 : 0 ≤ p9 / 4 := Int.ediv_nonneg g1 (by omega)
      refine ⟨fun _ => ?_, fun _ => ?_⟩
      · walk_at "mir"
        exact ⟨p9 / 4, 0, hi, u3, by omega, by omega, g4, rfl⟩
      · walk_at "mir"
        exact ⟨p9 / 4, lo, hi, u3, by omega, by omega, g4, rfl⟩
    clear g1 g2 g3 g4
    rintro _ ⟨p9, lo, hi, g1, g2, g3, g4, rfl⟩
    walk_at "mirn"
    by_cases hlo : 0 < lo
    · rw [decide_eq_true hlo]
      walk_at "mirn"
      refine ⟨by rw [List.length_map]; exact Nat.lt_of_lt_of_le (show ts.length < 100000 by omega) (sizeLine_lt _ (by decide)), ?_⟩
      refine ⟨p9, ts ++ [⟨s0, l0, lo, hi⟩], _, _, _, _, _, _, g1, by rw [List.length_append, h2]; rfl, ?_, by rw [List.map_append]; rfl⟩
      intro t ht
      rcases List.mem_append.mp ht with ht | ht
      · exact h3 t ht
      · rw [List.mem_singleton] at ht
        subst ht
        exact ⟨z1, z2, z7, z8, by show 0 ≤ lo; omega, g3, g4⟩
    · rw [decide_eq_false hlo]
      walk_at "mirn"
      refine ⟨by rw [List.length_map]; exact Nat.lt_of_lt_of_le (show ts.length < 100000 by omega) (sizeLine_lt _ (by decide)), ?_⟩
      refine ⟨p9, ts ++ [⟨s0, l0, 0, hi⟩], _, _, _, _, _, _, g1, by rw [List.length_append, h2]; rfl, ?_, by rw [List.map_append]; rfl⟩
      intro t ht
      rcases List.mem_append.mp ht with ht | ht
      · exact h3 t ht
      · rw [List.mem_singleton] at ht
        subst ht
        exact ⟨z1, z2, z7, z8, by show (0 : Int) ≤ 0; omega, by show (0 : Int) ≤ 1000000; omega, g4⟩
  · rintro e ⟨p', ts, a8, a9, a10, a11, a12, a13, h1, h2, h3, rfl⟩
    rw [rangeL_length] at h2
    walk_at "mirn"
    refine ev_lc (b := hiD) (v := id) (P0 := fun _ _ => True) ?_
    walk_at "mirn"
    refine ⟨rfl, by rw [List.length_map]; exact sizeLine_lt _ (by omega), fun d hd => ?_, ?_⟩
    · obtain ⟨t, ht, rfl⟩ := List.mem_map.mp hd
      rw [hiD_d]
      unfold Tm.d hiOk
      cases hh : t.hi with
      | none =>
        unfold oI
        walk_at "mirn"
        exact ⟨rfl, fun _ => ev_var rfl ⟨rfl, rfl, rfl⟩, fun q => nomatch q⟩
      | some i =>
        unfold oI
        walk_at "mirn"
        exact ⟨rfl, fun _ => ev_var rfl ⟨rfl, rfl, rfl⟩, fun _ => ⟨rfl, rfl⟩⟩
    · rw [filter_hi, List.map_id]
      walk_at "mirn"
      refine ⟨p', m, ts.filter hiOk, h1, hm0, hm2, ?_, ?_, rfl, rfl⟩
      · have := List.length_filter_le hiOk ts
        omega
      · intro t ht
        obtain ⟨q1, q2⟩ := List.mem_filter.mp ht
        exact ⟨h3 t q1, q2⟩
/-! ### demands without contradiction: the plain law -/
structure Eg where
  u : Nat
  v : Nat
  w : Int
  t : Option Nat
  way : Int
  r : Int
def updF {α : Type} (f : Nat → α) (x : Nat) (a : α) : Nat → α := fun y => if y = x then a else f y
theorem updF_same {α : Type} {f : Nat → α} {x : Nat} {a : α} : updF f x a x = a := by unfold updF; rw [if_pos rfl]
theorem updF_ne {α : Type} {f : Nat → α} {x y : Nat} {a : α} (h : y ≠ x) : updF f x a y = f y := by unfold updF; rw [if_neg h]
/-- in round r, when the demands in done were looked at; rd, tm: the round, the time of a place's last rise -/
structure BF (es : List Eg) (r : Nat) (done : List Eg) (h : Nat → Int) (b : Nat → Option Eg) (rd tm : Nat → Nat) (clk : Nat) : Prop where
  rd_le : ∀ x, rd x ≤ r
  mem : ∀ x e, b x = some e → e ∈ es ∧ e.v = x
  one : ∀ x, b x = none → rd x = 0
  back : ∀ x e, b x = some e → rd x ≤ rd e.u + 1
  le : ∀ x e, b x = some e → h x ≤ h e.u + e.w
  lt : ∀ x e, b x = some e → tm x < tm e.u → h x < h e.u + e.w
  self : ∀ x e, b x = some e → e.u = x → 0 < e.w
  time : ∀ x, b x ≠ none → tm x < clk
  old : ∀ x, b x = none → tm x = 0
  pos : ∀ x, b x ≠ none → 0 < tm x
  clk0 : 0 < clk
  inj : ∀ x y, b x ≠ none → b y ≠ none → tm x = tm y → x = y
  prev : ∀ e ∈ es, rd e.u + 1 < r → h e.u + e.w ≤ h e.v
  cur : ∀ e ∈ done, rd e.u < r → h e.u + e.w ≤ h e.v
theorem BF.start (es : List Eg) (h : Nat → Int) : BF es 1 [] h (fun _ => none) (fun _ => 0) (fun _ => 0) 1 where
  rd_le := fun _ => Nat.zero_le _
  mem := fun _ _ q => nomatch q
  one := fun _ _ => rfl
  back := fun _ _ q => nomatch q
  le := fun _ _ q => nomatch q
  lt := fun _ _ q => nomatch q
  self := fun _ _ q => nomatch q
  time := fun _ q => absurd rfl q
  old := fun _ _ => rfl
  pos := fun _ q => absurd rfl q
  clk0 := Nat.one_pos
  inj := fun _ _ q => absurd rfl q
  prev := fun _ _ q => by omega
  cur := fun _ q => by simp at q
theorem BF.next {es done : List Eg} {r : Nat} {h : Nat → Int} {b : Nat → Option Eg} {rd tm : Nat → Nat} {clk : Nat} (I : BF es r done h b rd tm clk) (hd : ∀ e ∈ es, e ∈ done) : BF es (r + 1) [] h b rd tm clk :=
  ⟨fun x => Nat.le_succ_of_le (I.rd_le x), I.mem, I.one, I.back, I.le, I.lt, I.self, I.time, I.old, I.pos, I.clk0, I.inj, fun e he q => I.cur e (hd e he) (by omega), fun e he => by simp at he⟩
theorem BF.skip {es done : List Eg} {r : Nat} {h : Nat → Int} {b : Nat → Option Eg} {rd tm : Nat → Nat} {clk : Nat} {e : Eg} (I : BF es r done h b rd tm clk) (hn : ¬ h e.v < h e.u + e.w) : BF es r (done ++ [e]) h b rd tm clk :=
  ⟨I.rd_le, I.mem, I.one, I.back, I.le, I.lt, I.self, I.time, I.old, I.pos, I.clk0, I.inj, I.prev, fun e' he q => by
    rcases List.mem_append.mp he with he | he
    · exact I.cur e' he q
    · rw [List.mem_singleton] at he
      subst he
      omega⟩
theorem BF.rise {es done : List Eg} {r : Nat} {h : Nat → Int} {b : Nat → Option Eg} {rd tm : Nat → Nat} {clk : Nat} {e : Eg} (I : BF es r done h b rd tm clk) (hr : 1 ≤ r) (he : e ∈ es) (hn : h e.v < h e.u + e.w) :
    BF es r (done ++ [e]) (updF h e.v (h e.u + e.w)) (updF b e.v (some e)) (updF rd e.v r) (updF tm e.v clk) (clk + 1) := by
  have late : r ≤ rd e.u + 1 := by
    apply Nat.le_of_not_lt
    intro q
    have := I.prev e he q
    omega
  have up : ∀ x, h x ≤ updF h e.v (h e.u + e.w) x := fun x => by
    by_cases q : x = e.v
    · rw [q, updF_same]; omega
    · rw [updF_ne q]; exact Int.le_refl _
  have rup : ∀ x, rd x ≤ updF rd e.v r x := fun x => by
    by_cases q : x = e.v
    · rw [q, updF_same]; exact I.rd_le _
    · rw [updF_ne q]; exact Nat.le_refl _
  refine ⟨fun x => ?_, fun x e' q => ?_, fun x q => ?_, fun x e' q => ?_, fun x e' q => ?_, fun x e' q s => ?_, fun x e' q s => ?_, fun x q => ?_, fun x q => ?_, fun x q => ?_, by omega, fun x y q1 q2 s => ?_, fun e' q s => ?_, fun e' q s => ?_⟩
  · by_cases q : x = e.v
    · rw [q, updF_same]; exact Nat.le_refl _
    · rw [updF_ne q]; exact I.rd_le x
  · by_cases k : x = e.v
    · rw [k, updF_same] at q; cases q; exact ⟨he, k.symm⟩
    · rw [updF_ne k] at q; exact I.mem x e' q
  · by_cases k : x = e.v
    · rw [k, updF_same] at q; cases q
    · rw [updF_ne k] at q ⊢; exact I.one x q
  · by_cases k : x = e.v
    · rw [k, updF_same] at q; cases q
      rw [k, updF_same]
      exact Nat.le_trans late (Nat.succ_le_succ (rup _))
    · rw [updF_ne k] at q
      rw [updF_ne k]
      exact Nat.le_trans (I.back x e' q) (Nat.succ_le_succ (rup _))
  · by_cases k : x = e.v
    · rw [k, updF_same] at q; cases q
      rw [k, updF_same]
      have := up e.u
      omega
    · rw [updF_ne k] at q
      rw [updF_ne k]
      have := I.le x e' q
      have := up e'.u
      omega
  · by_cases k : x = e.v
    · rw [k, updF_same] at q; cases q
      rw [k, updF_same] at s ⊢
      by_cases k2 : e.u = e.v
      · rw [k2, updF_same] at s; omega
      · rw [updF_ne k2] at s
        by_cases k3 : b e.u = none
        · have := I.old e.u k3; omega
        · have := I.time e.u k3; omega
    · rw [updF_ne k] at q s ⊢
      by_cases k2 : e'.u = e.v
      · rw [k2, updF_same]
        have := I.le x e' q
        rw [k2] at this
        omega
      · rw [updF_ne k2] at s ⊢
        exact I.lt x e' q s
  · by_cases k : x = e.v
    · rw [k, updF_same] at q; cases q
      rw [k] at s
      rw [s] at hn
      omega
    · rw [updF_ne k] at q
      exact I.self x e' q s
  · by_cases k : x = e.v
    · rw [k, updF_same]; omega
    · rw [updF_ne k] at q ⊢
      have := I.time x q; omega
  · by_cases k : x = e.v
    · rw [k, updF_same] at q; cases q
    · rw [updF_ne k] at q ⊢
      exact I.old x q
  · by_cases k : x = e.v
    · rw [k, updF_same]; exact I.clk0
    · rw [updF_ne k] at q ⊢
      exact I.pos x q
  · by_cases k : x = e.v
    · by_cases k2 : y = e.v
      · rw [k, k2]
      · rw [k, updF_same, updF_ne k2] at s
        rw [updF_ne k2] at q2
        have := I.time y q2; omega
    · by_cases k2 : y = e.v
      · rw [k2, updF_same, updF_ne k] at s
        rw [updF_ne k] at q1
        have := I.time x q1; omega
      · rw [updF_ne k] at q1 s
        rw [updF_ne k2] at q2 s
        exact I.inj x y q1 q2 s
  · have k : e'.u ≠ e.v := fun k => by rw [k, updF_same] at s; omega
    rw [updF_ne k] at s ⊢
    have := I.prev e' q s
    have := up e'.v
    omega
  · have k : e'.u ≠ e.v := fun k => by rw [k, updF_same] at s; omega
    rw [updF_ne k] at s ⊢
    rcases List.mem_append.mp q with q | q
    · have := I.cur e' q s
      have := up e'.v
      omega
    · rw [List.mem_singleton] at q
      subst q
      rw [updF_same]
      exact Int.le_refl _
/-- walking back from a place that rose in the last round -/
def par (b : Nat → Option Eg) (x : Nat) : Nat := match b x with
  | some e => e.u
  | none => x
def bk (b : Nat → Option Eg) (x : Nat) : Nat → Nat
  | 0 => x
  | k + 1 => par b (bk b x k)
theorem bk_add (b : Nat → Option Eg) (x j : Nat) : ∀ k, bk b x (j + k) = bk b (bk b x j) k
  | 0 => rfl
  | k + 1 => by
    show par b (bk b x (j + k)) = par b (bk b (bk b x j) k)
    rw [bk_add b x j k]
theorem pigeon : ∀ {n : Nat} (f : Nat → Nat), (∀ k, k ≤ n → f k < n) → ∃ i j, i < j ∧ j ≤ n ∧ f i = f j := by
  intro n
  induction n with
  | zero => intro f h; exact absurd (h 0 (Nat.le_refl _)) (Nat.not_lt_zero _)
  | succ n ih =>
    intro f h
    by_cases q : ∃ i, i ≤ n ∧ f i = f (n + 1)
    · obtain ⟨i, hi, e⟩ := q
      exact ⟨i, n + 1, by omega, Nat.le_refl _, e⟩
    · have q : ∀ i, i ≤ n → f i ≠ f (n + 1) := fun i hi e => q ⟨i, hi, e⟩
      obtain ⟨i, j, h1, h2, h3⟩ := ih (fun k => if f k = n then f (n + 1) else f k) fun k hk => by
        have a := h k (by omega)
        have c := h (n + 1) (Nat.le_refl _)
        have d := q k hk
        show (if f k = n then f (n + 1) else f k) < n
        split
        · rename_i e; omega
        · omega
      have h3 : (if f i = n then f (n + 1) else f i) = (if f j = n then f (n + 1) else f j) := h3
      refine ⟨i, j, h1, by omega, ?_⟩
      have qi := q i (by omega)
      have qj := q j h2
      split at h3
      · rename_i ei
        split at h3
        · rename_i ej; omega
        · exact absurd h3.symm qj
      · split at h3
        · exact absurd h3 qi
        · exact h3
theorem sum_map_lt {n : Nat} (f g : Nat → Int) (h : ∀ k, k < n → f k ≤ g k) (hs : ∃ k, k < n ∧ f k < g k) : ((List.range n).map f).sum < ((List.range n).map g).sum := by
  have le : ∀ m, m ≤ n → ((List.range m).map f).sum ≤ ((List.range m).map g).sum := by
    intro m
    induction m with
    | zero => intro _; exact Int.le_refl _
    | succ m ih =>
      intro hm
      have := ih (by omega)
      have := h m (by omega)
      rw [List.range_succ, List.map_append, List.map_append, List.sum_append, List.sum_append]
      simp only [List.map_cons, List.map_nil, List.sum_cons, List.sum_nil]
      omega
  obtain ⟨k, hk, hlt⟩ := hs
  have up : ∀ m, m ≤ n → k < m → ((List.range m).map f).sum < ((List.range m).map g).sum := by
    intro m
    induction m with
    | zero => intro _ q; omega
    | succ m ih =>
      intro hm q
      rw [List.range_succ, List.map_append, List.map_append, List.sum_append, List.sum_append]
      simp only [List.map_cons, List.map_nil, List.sum_cons, List.sum_nil]
      by_cases e : k = m
      · have := le m (by omega)
        subst e; omega
      · have := ih (by omega) (by omega)
        have := h m (by omega)
        omega
  exact up n (Nat.le_refl _) hk
theorem tele (f : Nat → Int) : ∀ n, ((List.range n).map fun k => f k - f (k + 1)).sum = f 0 - f n
  | 0 => by simp
  | n + 1 => by
    rw [List.range_succ, List.map_append, List.sum_append, tele f n]
    simp only [List.map_cons, List.map_nil, List.sum_cons, List.sum_nil]
    omega
theorem least_of {P : Nat → Prop} : ∀ d, P d → ∃ p, P p ∧ p ≤ d ∧ ∀ q, q < p → ¬ P q := by
  intro d
  induction d using Nat.strongRecOn with
  | _ d ih =>
    intro h
    by_cases q : ∃ k, k < d ∧ P k
    · obtain ⟨k, hk, hP⟩ := q
      obtain ⟨p, h1, h2, h3⟩ := ih k hk hP
      exact ⟨p, h1, by omega, h3⟩
    · exact ⟨d, h, Nat.le_refl _, fun k hk hP => q ⟨k, hk, hP⟩⟩
/-- what is found by walking back -/
structure Round (n : Nat) (es : List Eg) (b : Nat → Option Eg) (y p : Nat) : Prop where
  one : 1 ≤ p
  le : p ≤ n
  home : bk b y p = y
  first : ∀ q, 1 ≤ q → q < p → bk b y q ≠ y
  edge : ∀ k, ∃ e, b (bk b y k) = some e ∧ e ∈ es ∧ e.v = bk b y k ∧ e.u = bk b y (k + 1) ∧ bk b y k < n
def wOf (b : Nat → Option Eg) (x : Nat) : Int := match b x with
  | some e => e.w
  | none => 0
theorem bk_some {b : Nat → Option Eg} {x k : Nat} {e : Eg} (h : b (bk b x k) = some e) : bk b x (k + 1) = e.u := by
  show par b (bk b x k) = e.u
  unfold par
  rw [h]
theorem BF.walk {n r : Nat} {es done : List Eg} {h : Nat → Int} {b : Nat → Option Eg} {rd tm : Nat → Nat} {clk x : Nat} (I : BF es r done h b rd tm clk) (hn : ∀ e ∈ es, e.u < n ∧ e.v < n) (hx : x < n) (hr : n ≤ rd x) :
    (∀ k, ∃ e, b (bk b x k) = some e) ∧ ∃ p, Round n es b (bk b x n) p ∧ 0 < ((List.range p).map fun k => wOf b (bk b (bk b x n) k)).sum := by
  have some_of : ∀ y, 0 < rd y → ∃ e, b y = some e := fun y hy => by
    cases hb : b y with
    | none => have := I.one y hb; omega
    | some e => exact ⟨e, rfl⟩
  have A : ∀ k, k ≤ n → n ≤ rd (bk b x k) + k ∧ bk b x k < n := by
    intro k
    induction k with
    | zero => exact fun _ => ⟨hr, hx⟩
    | succ k ih =>
      intro hk
      obtain ⟨h1, h2⟩ := ih (by omega)
      obtain ⟨e, he⟩ := some_of _ (show 0 < rd (bk b x k) by omega)
      rw [bk_some he]
      have := I.back _ e he
      exact ⟨by omega, (hn e (I.mem _ e he).1).1⟩
  obtain ⟨i, j, hij, hj, hb⟩ := pigeon (bk b x) fun k hk => (A k hk).2
  have per : ∀ m, bk b x (i + m + (j - i)) = bk b x (i + m) := by
    intro m
    rw [show i + m + (j - i) = j + m by omega, bk_add, bk_add, hb]
  have all : ∀ m, ∃ e, b (bk b x m) = some e := by
    intro m
    induction m using Nat.strongRecOn with
    | _ m ih =>
      by_cases q : m < n
      · exact some_of _ (by have := (A m (by omega)).1; omega)
      · have e := per (m - j)
        rw [show i + (m - j) + (j - i) = m by omega] at e
        rw [e]
        exact ih _ (by omega)
  refine ⟨all, ?_⟩
  have hd : bk b (bk b x n) (j - i) = bk b x n := by
    have e := per (n - i)
    rw [show i + (n - i) + (j - i) = n + (j - i) by omega, show i + (n - i) = n by omega, bk_add] at e
    exact e
  obtain ⟨p, ⟨p1, p2⟩, p3, p4⟩ := least_of (P := fun p => 1 ≤ p ∧ bk b (bk b x n) p = bk b x n) (j - i) ⟨by omega, hd⟩
  generalize hy : bk b x n = y at *
  have edge : ∀ k, ∃ e, b (bk b y k) = some e ∧ e ∈ es ∧ e.v = bk b y k ∧ e.u = bk b y (k + 1) ∧ bk b y k < n := by
    intro k
    obtain ⟨e, he⟩ := all (n + k)
    rw [bk_add, hy] at he
    have m := I.mem _ e he
    exact ⟨e, he, m.1, m.2, (bk_some he).symm, by rw [← m.2]; exact (hn e m.1).2⟩
  refine ⟨p, ⟨p1, by omega, p2, fun q h1 h2 h3 => p4 q h2 ⟨h1, h3⟩, edge⟩, ?_⟩
  have e0 : (0 : Int) = ((List.range p).map fun k => h (bk b y k) - h (bk b y (k + 1))).sum := by
    rw [tele (fun k => h (bk b y k)) p]
    show (0 : Int) = h (bk b y 0) - h (bk b y p)
    rw [p2]
    show (0 : Int) = h y - h y
    omega
  rw [e0]
  refine sum_map_lt _ _ (fun k _ => ?_) ?_
  · obtain ⟨e, he, _, _, hu, _⟩ := edge k
    have := I.le _ e he
    unfold wOf
    rw [he, ← hu]
    simp only
    omega
  · by_cases q : ∃ k, k < p ∧ h (bk b y k) - h (bk b y (k + 1)) < wOf b (bk b y k)
    · exact q
    · exfalso
      have q : ∀ k, k < p → ¬ h (bk b y k) - h (bk b y (k + 1)) < wOf b (bk b y k) := fun k hk z => q ⟨k, hk, z⟩
      have fall : ∀ k, k ≤ p → tm (bk b y k) + k ≤ tm y := by
        intro k
        induction k with
        | zero => intro _; exact Nat.le_refl _
        | succ k ih =>
          intro hk
          have ih := ih (by omega)
          obtain ⟨e, he, _, hv, hu, _⟩ := edge k
          obtain ⟨e', he', _⟩ := edge (k + 1)
          have qk := q k (by omega)
          unfold wOf at qk
          rw [he] at qk
          simp only at qk
          have ne : e.u ≠ bk b y k := fun z => by
            have := I.self _ e he z
            rw [← hu, z] at qk
            omega
          have nl : ¬ tm (bk b y k) < tm e.u := fun z => by
            have := I.lt _ e he z
            rw [hu] at this
            omega
          have nt : tm (bk b y k) ≠ tm (bk b y (k + 1)) := fun z => ne (by
            rw [hu]
            exact (I.inj _ _ (by rw [he]; simp) (by rw [he']; simp) z).symm)
          rw [hu] at nl
          omega
      have := fall p (Nat.le_refl _)
      rw [p2] at this
      omega
/-! ### demands without contradiction: the walk's data -/
def oN : Option Nat → D
  | none => .none
  | some k => .int k
def Eg.d (e : Eg) : D := .tuple [.int e.u, .int e.v, .int e.w, oN e.t, .int e.way, .int e.r]
def oE : Option Eg → D
  | none => .none
  | some e => e.d
def hF (hs : List Int) (x : Nat) : Int := hs.getD x 0
def bF (bs : List (Option Eg)) (x : Nat) : Option Eg := bs.getD x none
theorem hF_set {hs : List Int} {v : Nat} (a : Int) (hv : v < hs.length) : hF (hs.set v a) = updF (hF hs) v a := by
  funext x
  unfold hF updF
  rw [List.getD_eq_getElem?_getD, List.getElem?_set]
  by_cases q : v = x
  · subst q
    rw [if_pos rfl, if_pos hv, if_pos rfl]; rfl
  · rw [if_neg q, if_neg (Ne.symm q)]
    show hs[x]?.getD 0 = hs.getD x 0
    rw [List.getD_eq_getElem?_getD]
theorem bF_set {bs : List (Option Eg)} {v : Nat} (a : Option Eg) (hv : v < bs.length) : bF (bs.set v a) = updF (bF bs) v a := by
  funext x
  unfold bF updF
  rw [List.getD_eq_getElem?_getD, List.getElem?_set]
  by_cases q : v = x
  · subst q
    rw [if_pos rfl, if_pos hv, if_pos rfl]; rfl
  · rw [if_neg q, if_neg (Ne.symm q)]
    show bs[x]?.getD none = bs.getD x none
    rw [List.getD_eq_getElem?_getD]
theorem atI_h {hs : List Int} {x : Nat} (h : x < hs.length) : atI (hs.map PyData.int) (x : Int) = some (.int (hF hs x)) := by
  refine atI_nat' (by omega) ?_
  rw [Int.toNat_natCast, List.getElem?_map, List.getElem?_eq_getElem h]
  unfold hF
  rw [List.getD_eq_getElem?_getD, List.getElem?_eq_getElem h]; rfl
theorem atI_b {bs : List (Option Eg)} {x : Nat} (h : x < bs.length) : atI (bs.map oE) (x : Int) = some (oE (bF bs x)) := by
  refine atI_nat' (by omega) ?_
  rw [Int.toNat_natCast, List.getElem?_map, List.getElem?_eq_getElem h]
  unfold bF
  rw [List.getD_eq_getElem?_getD, List.getElem?_eq_getElem h]; rfl
theorem repD_none {n : Int} (h0 : 0 ≤ n) (h1 : n ≤ 1000000) : repD (.list [.none]) (.int n) = some (.list ((List.replicate n.toNat (none : Option Eg)).map oE)) := by
  simp only [repD]
  rw [if_pos ⟨by omega, by omega, by simp only [List.length_cons, List.length_nil]; exact sizeLine_lt _ (by omega)⟩]
  congr 2
  generalize n.toNat = k
  induction k with
  | zero => rfl
  | succ k ih => rw [List.replicate_succ, List.flatten_cons, ih, List.replicate_succ, List.map_cons]; rfl
theorem hF_rep (n : Nat) : hF (List.replicate n 0) = fun _ => 0 := by
  funext x
  unfold hF
  rw [List.getD_eq_getElem?_getD, List.getElem?_replicate]
  split <;> rfl
theorem bF_rep (n : Nat) : bF (List.replicate n none) = fun _ => none := by
  funext x
  unfold bF
  rw [List.getD_eq_getElem?_getD, List.getElem?_replicate]
  split <;> rfl
theorem atI_end {ds : List D} {d : D} : atI (ds ++ [d]) (-1) = some d := by
  unfold atI ixN
  rw [List.length_append, List.length_singleton, if_neg (by decide), if_pos (by omega)]
  show (ds ++ [d])[((-1 : Int) + ((ds.length + 1 : Nat) : Int)).toNat]? = some d
  rw [show ((-1 : Int) + ((ds.length + 1 : Nat) : Int)).toNat = ds.length by omega]
  simp
def Eb (b : Nat → Option Eg) (y k : Nat) : Eg := (b (bk b y k)).getD ⟨0, 0, 0, none, 0, 0⟩
/-- demands that lead round and demand more than nought -/
structure Loop (n : Nat) (es L : List Eg) : Prop where
  ne : L ≠ []
  len : L.length ≤ n
  mem : ∀ e ∈ L, e ∈ es
  round : ∀ φ : Nat → Int, (L.map fun e => φ e.u - φ e.v).sum = 0
  more : 0 < (L.map fun e => e.w).sum
  nd : (L.map fun e => e.v).Nodup
theorem loop_of {n : Nat} {es : List Eg} {b : Nat → Option Eg} {y p : Nat} (R : Round n es b y p) (hs : 0 < ((List.range p).map fun k => wOf b (bk b y k)).sum) : Loop n es ((List.range p).map (Eb b y)) := by
  have eb : ∀ k, b (bk b y k) = some (Eb b y k) := fun k => by
    obtain ⟨e, he, _⟩ := R.edge k
    unfold Eb; rw [he]; rfl
  have fac : ∀ k, Eb b y k ∈ es ∧ (Eb b y k).v = bk b y k ∧ (Eb b y k).u = bk b y (k + 1) := fun k => by
    obtain ⟨e, he, h1, h2, h3, _⟩ := R.edge k
    unfold Eb; rw [he]; exact ⟨h1, h2, h3⟩
  refine ⟨?_, by rw [List.length_map, List.length_range]; exact R.le, fun e he => ?_, fun φ => ?_, ?_, ?_⟩
  · intro q
    have := R.one
    have z : p = 0 := by simpa using q
    omega
  · obtain ⟨k, _, rfl⟩ := List.mem_map.mp he
    exact (fac k).1
  · rw [List.map_map]
    have e : ((fun e : Eg => φ e.u - φ e.v) ∘ Eb b y) = fun k => (fun j => -φ (bk b y j)) k - (fun j => -φ (bk b y j)) (k + 1) := by
      funext k
      simp only [Function.comp, (fac k).2.1, (fac k).2.2]
      omega
    rw [e, tele (fun j => -φ (bk b y j)) p]
    show -φ (bk b y 0) - -φ (bk b y p) = 0
    rw [R.home]
    show -φ y - -φ y = 0
    omega
  · rw [List.map_map]
    have e : ((fun e : Eg => e.w) ∘ Eb b y) = fun k => wOf b (bk b y k) := by
      funext k
      unfold wOf
      rw [eb k]; rfl
    rw [e]; exact hs
  · rw [List.map_map]
    refine List.pairwise_map.mpr (List.Pairwise.imp_of_mem (R := (· < ·)) ?_ List.pairwise_lt_range)
    intro i j _ hj hij q
    have hj := List.mem_range.mp hj
    simp only [Function.comp, (fac _).2.1] at q
    have e := R.home
    rw [show p = j + (p - j) by omega, bk_add, ← q, ← bk_add] at e
    exact R.first (i + (p - j)) (by omega) (by omega) e
theorem F_contradiction_eq {n : Nat} {es : List Eg} (h1 : 1 ≤ n) (h2 : n ≤ 1000) (hl : es.length ≤ 100000) (hn : ∀ e ∈ es, e.u < n ∧ e.v < n) :
    ∃ t, (F_contradiction [.im (.int n), .im (.list (es.map Eg.d))] = .ok (.none, t) ∧ ∃ h : Nat → Int, ∀ e ∈ es, h e.u + e.w ≤ h e.v) ∨ ∃ L, Loop n es L ∧ F_contradiction [.im (.int n), .im (.list (es.map Eg.d))] = .ok (.list (L.map Eg.d), t) := by
  suffices h : Ev (F_contradiction [.im (.int n), .im (.list (es.map Eg.d))]) (fun x t => (x = .none ∧ ∃ h : Nat → Int, ∀ e ∈ es, h e.u + e.w ≤ h e.v) ∨ ∃ L, Loop n es L ∧ x = .list (L.map Eg.d)) fun _ _ => False by
    obtain ⟨x, t, e, ⟨rfl, q⟩ | ⟨L, q, rfl⟩⟩ := ev_eq h
    · exact ⟨t, .inl ⟨e, q⟩⟩
    · exact ⟨t, .inr ⟨L, q, e⟩⟩
  refine ev_fun ?_
  unfold g_contradiction
  generalize hN : (n : Int) = N
  walk_at "mirn"
  refine ev_o (repD_zero (by omega) (by omega)) ?_
  walk_at "mirn"
  refine ev_o (repD_none (by omega) (by omega)) ?_
  walk_at "mirn"
  rw [show N.toNat = n by omega]
  let A0 : Sl := .im (.int N)
  let A1 : Sl := .im (.list (es.map Eg.d))
  refine es_forK (fun t e => ∃ hs bs last rd tm clk a5 a6, hs.length = n ∧ bs.length = n ∧ BF es (t + 1) [] (hF hs) (bF bs) rd tm clk ∧ (1 ≤ t → last = none → ∀ e ∈ es, hF hs e.u + e.w ≤ hF hs e.v) ∧ (1 ≤ t → ∀ x, last = some x → x < n ∧ rd x = t) ∧
      e = [some A0, some A1, some (.ow (hs.map .int)), some (.ow (bs.map oE)), some (.im (oN last)), a5, a6, none])
    ⟨List.replicate n 0, List.replicate n none, none, _, _, _, _, _, by simp, by simp, by rw [hF_rep, bF_rep]; exact BF.start es _, fun q => by omega, fun q => by omega, rfl⟩ ?_ ?_
  · rintro t d e ht ⟨hs, bs, last, rd, tm, clk, a5, a6, lh, lb, I, _, _, rfl⟩
    obtain ⟨ht, rfl⟩ := rangeL_get ht
    walk_at "mirn"
    let T : D := .int (0 + (t : Int))
    refine es_forK (fun k e => ∃ hs bs last rd tm clk a6, hs.length = n ∧ bs.length = n ∧ BF es (t + 1) (es.take k) (hF hs) (bF bs) rd tm clk ∧ (last = none → ∀ e ∈ es.take k, hF hs e.u + e.w ≤ hF hs e.v) ∧ (∀ x, last = some x → x < n ∧ rd x = t + 1) ∧
        e = [some A0, some A1, some (.ow (hs.map .int)), some (.ow (bs.map oE)), some (.im (oN last)), some (.im T), a6, none]) ⟨hs, bs, none, rd, tm, clk, _, lh, lb, I, (fun _ e he => by simp at he), (fun x q => nomatch q), rfl⟩ ?_ ?_
    · clear I lh lb
      rintro k d e hk ⟨hs, bs, last, rd, tm, clk, a6, lh, lb, I, c1, c2, rfl⟩
      rw [List.getElem?_map, Option.map_eq_some_iff] at hk
      obtain ⟨g, hk, rfl⟩ := hk
      obtain ⟨hk1, hk2⟩ := List.getElem?_eq_some_iff.mp hk
      have hg : g ∈ es := List.mem_of_getElem? hk
      obtain ⟨gu, gv⟩ := hn g hg
      have tk : es.take (k + 1) = es.take k ++ [g] := by rw [List.take_succ_eq_append_getElem hk1, hk2]
      unfold Eg.d
      walk_at "mir"
      refine ev_o (atI_h (by omega)) ?_
      walk_at "mir"
      refine ev_o (atI_h (by omega)) ?_
      walk_at "mir"
      refine ⟨fun q => ?_, fun q => ?_⟩
      · have q := of_decide_eq_true q
        have I2 := I.rise (by omega) hg q
        rw [← tk] at I2
        walk_at "mir"
        refine ev_o (atI_h (by omega)) ?_
        walk_at "mir"
        refine ⟨g.v, ixN_nn (by omega) (by rw [List.length_map]; omega), ?_⟩
        walk_at "mir"
        refine ⟨g.v, ixN_nn (by omega) (by rw [List.length_map]; omega), ?_⟩
        walk_at "mir"
        refine ⟨hs.set g.v (hF hs g.u + g.w), bs.set g.v (some g), some g.v, _, _, _, some (.im g.d), by rw [List.length_set]; exact lh, by rw [List.length_set]; exact lb, by rw [hF_set _ (by omega), bF_set _ (by omega)]; exact I2, (fun z => nomatch z), fun x z => ?_, ?_⟩
        · cases z; exact ⟨gv, updF_same⟩
        · rw [List.map_set, List.map_set]; rfl
      · have q := of_decide_eq_false q
        have I2 := I.skip (e := g) q
        rw [← tk] at I2
        walk_at "mir"
        refine ⟨hs, bs, last, rd, tm, clk, _, lh, lb, I2, fun z e he => ?_, c2, rfl⟩
        rw [tk] at he
        rcases List.mem_append.mp he with he | he
        · exact c1 z e he
        · rw [List.mem_singleton] at he
          subst he
          omega
    · clear I lh lb
      rintro e ⟨hs, bs, last, rd, tm, clk, a6, lh, lb, I, c1, c2, rfl⟩
      rw [List.length_map, List.take_length] at I c1
      exact ⟨hs, bs, last, rd, tm, clk, _, _, lh, lb, I.next fun e he => he, fun _ => c1, fun _ => c2, rfl⟩
  · rintro e ⟨hs, bs, last, rd, tm, clk, a5, a6, lh, lb, I, c1, c2, rfl⟩
    rw [rangeL_length] at I c1 c2
    have e1 : (N + 1).toNat = n + 1 := by omega
    rw [e1] at I c1 c2
    cases last with
    | none =>
      walk_at "mir"
      exact .inl ⟨rfl, hF hs, c1 (by omega) rfl⟩
    | some x =>
      obtain ⟨hx, hr⟩ := c2 (by omega) x rfl
      obtain ⟨all, p, R, hw⟩ := I.walk hn hx (by omega)
      have L := loop_of R hw
      have ub : ∀ k, bk (bF bs) x k < n := fun k => by
        obtain ⟨e, he⟩ := all k
        have m := I.mem _ e he
        rw [← m.2]; exact (hn e m.1).2
      have eb : ∀ k, bF bs (bk (bF bs) (bk (bF bs) x n) k) = some (Eb (bF bs) (bk (bF bs) x n) k) := fun k => by
        obtain ⟨e, he, _⟩ := R.edge k
        unfold Eb; rw [he]; rfl
      have eu : ∀ k, (Eb (bF bs) (bk (bF bs) x n) k).u = bk (bF bs) (bk (bF bs) x n) (k + 1) := fun k => (bk_some (eb k)).symm
      have yb : ∀ k, bk (bF bs) (bk (bF bs) x n) k < n := fun k => by rw [← bk_add]; exact ub _
      walk_at "mir"
      refine es_forK (fun k e => ∃ a5 a6, e = [some A0, some A1, some (.ow (hs.map .int)), some (.ow (bs.map oE)), some (.im (.int (bk (bF bs) x k))), a5, a6, none]) ⟨_, _, rfl⟩ ?_ ?_
      · rintro k d e hk ⟨a5, a6, rfl⟩
        obtain ⟨g, hg⟩ := all k
        walk_at "mir"
        refine ev_o (atI_b (by have := ub k; omega)) ?_
        rw [hg]
        unfold oE Eg.d
        walk_at "mir"
        exact ⟨some (.im d), a6, by rw [bk_some hg]; rfl⟩
      · rintro e ⟨a5, a6, rfl⟩
        rw [rangeL_length, show N.toNat = n by omega]
        generalize hy : bk (bF bs) x n = y at *
        have pl := R.le
        have p1 := R.one
        have get : ∀ k, atI (((List.range (k + 1)).map fun j => (Eb (bF bs) y j).d)) (-1) = some (Eb (bF bs) y k).d := fun k => by
          rw [List.range_succ, List.map_append]; exact atI_end
        walk_at "mir"
        refine ev_o (atI_b (by have := yb 0; have : bk (bF bs) y 0 = y := rfl; omega)) ?_
        rw [show bF bs y = some (Eb (bF bs) y 0) from eb 0]
        walk_at "mir"
        refine es_whileI (I := fun e => ∃ k, k < p ∧ e = [some A0, some A1, some (.ow (hs.map .int)), some (.ow (bs.map oE)), some (.im (.int y)), a5, a6, some (.ow ((List.range (k + 1)).map fun j => (Eb (bF bs) y j).d))])
          (m := fun e : En => match e[7]? with | some (some (Sl.ow ds)) => p + 1 - ds.length | _ => 0) ?_ ⟨0, by omega, rfl⟩ ?_
        · rintro e ⟨k, hk, rfl⟩
          walk_at "mir"
          refine ev_o (get k) ?_
          unfold Eg.d
          walk_at "mir"
          rw [eu k]
          refine ⟨fun q => ?_, fun q => ?_⟩
          · rw [Bool.not_eq_true', decide_eq_false_iff_not] at q
            have hk1 : k + 1 < p := by
              apply Nat.lt_of_not_le
              intro z
              have z : k + 1 = p := by omega
              rw [z, R.home] at q
              exact q rfl
            walk_at "mir"
            refine ev_o (get k) ?_
            unfold Eg.d
            walk_at "mir"
            rw [eu k]
            refine ev_o (atI_b (by have := yb (k + 1); omega)) ?_
            rw [eb (k + 1)]
            walk_at "mir"
            refine ⟨by simp; exact Nat.lt_of_lt_of_le (show k + 1 < 5000 by omega) (sizeLine_lt _ (by decide)), ⟨k + 1, hk1, ?_⟩, ?_⟩
            · rw [List.range_succ (n := k + 1), List.map_append]; rfl
            · simp; omega
          · rw [Bool.not_eq_false', decide_eq_true_eq] at q
            have hk1 : k + 1 = p := by
              apply Nat.le_antisymm hk
              apply Nat.le_of_not_lt
              intro z
              exact R.first (k + 1) (by omega) z (Int.ofNat_inj.mp q)
            walk_at "mir"
            refine .inr ⟨_, L, ?_⟩
            rw [hk1, List.map_map]
            rfl
        · simp
          unfold n_contradiction_0
          omega
/-! ### demands -/
def plE (n p : Nat) : Eg := ⟨p, (p + 1) % n, 0, none, 1, (((p + 1) / n : Nat) : Int)⟩
def tV (n : Nat) (t : Tm) : Nat := (t.s.toNat + t.l.toNat) % n
def tR (n : Nat) (t : Tm) : Nat := (t.s.toNat + t.l.toNat) / n
def raw1 (n : Nat) (ts : List Tm) (k : Nat) : List Eg := match ts[k]? with
  | none => []
  | some t => [⟨t.s.toNat, tV n t, t.lo, some k, 1, (tR n t : Nat)⟩] ++ match t.hi with
    | none => []
    | some h => [⟨tV n t, t.s.toNat, -h, some k, -1, (tR n t : Nat)⟩]
def rawN (n : Nat) (ts : List Tm) (k : Nat) : List Eg := (List.range n).map (plE n) ++ (List.range k).flatMap (raw1 n ts)
def lessT (T : Int) (e : Eg) : Eg := { e with w := e.w - e.way * e.r * T }
def dem (n : Nat) (T : Int) (ts : List Tm) : List Eg := (rawN n ts ts.length).map (lessT T)
theorem rawN_succ (n : Nat) (ts : List Tm) (k : Nat) : rawN n ts (k + 1) = rawN n ts k ++ raw1 n ts k := by
  simp only [rawN, List.range_succ, List.flatMap_append, List.flatMap_cons, List.flatMap_nil, List.append_nil, List.append_assoc]
theorem raw1_length (n : Nat) (ts : List Tm) (k : Nat) : (raw1 n ts k).length ≤ 2 := by
  unfold raw1; split
  · simp
  · split <;> simp
theorem rawN_length (n : Nat) (ts : List Tm) : ∀ k : Nat, (rawN n ts k).length ≤ n + 2 * k
  | 0 => by simp [rawN]
  | k + 1 => by
    have := rawN_length n ts k
    have := raw1_length n ts k
    rw [rawN_succ, List.length_append]; omega
theorem dem_length (n : Nat) (T : Int) (ts : List Tm) : (dem n T ts).length ≤ n + 2 * ts.length := by
  unfold dem; rw [List.length_map]; exact rawN_length n ts _
/-- what kind of thing a demand is -/
theorem raw_mem {n : Nat} {ts : List Tm} {k : Nat} {e : Eg} (h : e ∈ rawN n ts k) : (∃ p, p < n ∧ e = plE n p) ∨ ∃ j t, ts[j]? = some t ∧ (e = ⟨t.s.toNat, tV n t, t.lo, some j, 1, (tR n t : Nat)⟩ ∨ ∃ i, t.hi = some i ∧ e = ⟨tV n t, t.s.toNat, -i, some j, -1, (tR n t : Nat)⟩) := by
  unfold rawN at h
  rcases List.mem_append.mp h with h | h
  · obtain ⟨p, hp, rfl⟩ := List.mem_map.mp h
    exact .inl ⟨p, List.mem_range.mp hp, rfl⟩
  · obtain ⟨j, _, h⟩ := List.mem_flatMap.mp h
    unfold raw1 at h
    split at h
    · simp at h
    · rename_i t ht
      refine .inr ⟨j, t, ht, ?_⟩
      rcases List.mem_append.mp h with h | h
      · exact .inl (by simpa using h)
      · split at h
        · simp at h
        · rename_i i hi
          exact .inr ⟨i, hi, by simpa using h⟩
structure EgOk (n m : Nat) (e : Eg) : Prop where
  u : e.u < n
  v : e.v < n
  way : e.way = 1 ∨ e.way = -1
  r0 : 0 ≤ e.r
  r1 : e.r ≤ 2
  t : ∀ j, e.t = some j → j < m
  dn : e.way = -1 → e.t ≠ none
theorem raw_ok {n : Nat} {ts : List Tm} {k : Nat} {e : Eg} (h1 : 1 ≤ n) (ht : ∀ t ∈ ts, t.ok n) (h : e ∈ rawN n ts k) : EgOk n ts.length e := by
  have rr : ∀ t ∈ ts, t.s.toNat < n ∧ tV n t < n ∧ tR n t ≤ 2 := fun t q => by
    have q := ht t q
    have a := q.s0; have b := q.s1; have c := q.l0; have d := q.l1
    refine ⟨by omega, Nat.mod_lt _ (by omega), ?_⟩
    unfold tR
    have : (t.s.toNat + t.l.toNat) / n ≤ (n * 2) / n := Nat.div_le_div_right (by omega)
    rw [Nat.mul_div_cancel_left _ (by omega)] at this
    exact this
  rcases raw_mem h with ⟨p, hp, rfl⟩ | ⟨j, t, hj, rfl | ⟨i, hi, rfl⟩⟩
  · refine ⟨hp, Nat.mod_lt _ (by omega), .inl rfl, Int.natCast_nonneg _, ?_, (fun j q => nomatch q), fun q => by simp [plE] at q⟩
    show (((p + 1) / n : Nat) : Int) ≤ 2
    have : (p + 1) / n ≤ (n * 1) / n := Nat.div_le_div_right (by omega)
    rw [Nat.mul_div_cancel_left _ (by omega)] at this
    omega
  · obtain ⟨a, b, c⟩ := rr t (List.mem_of_getElem? hj)
    exact ⟨a, b, .inl rfl, Int.natCast_nonneg _, by show ((tR n t : Nat) : Int) ≤ 2; omega, fun j' q => by cases q; exact (List.getElem?_eq_some_iff.mp hj).1, fun q => by simp at q⟩
  · obtain ⟨a, b, c⟩ := rr t (List.mem_of_getElem? hj)
    exact ⟨b, a, .inr rfl, Int.natCast_nonneg _, by show ((tR n t : Nat) : Int) ≤ 2; omega, fun j' q => by cases q; exact (List.getElem?_eq_some_iff.mp hj).1, fun _ => by simp⟩
theorem dem_ok {n : Nat} {T : Int} {ts : List Tm} {e : Eg} (h1 : 1 ≤ n) (ht : ∀ t ∈ ts, t.ok n) (h : e ∈ dem n T ts) : EgOk n ts.length e := by
  obtain ⟨g, hg, rfl⟩ := List.mem_map.mp h
  have q := raw_ok h1 ht hg
  exact ⟨q.u, q.v, q.way, q.r0, q.r1, q.t, q.dn⟩
def lessD (T : Int) : D → D
  | .tuple [u, v, .int w, t, .int way, .int r] => .tuple [u, v, .int (w - way * r * T), t, .int way, .int r]
  | _ => .none
theorem lessD_d (T : Int) (e : Eg) : lessD T e.d = (lessT T e).d := rfl
def plD (n : Int) : D → D
  | .int p => .tuple [.int p, .int ((p + 1) % n), .int 0, .none, .int 1, .int ((p + 1) / n)]
  | _ => .none
theorem term_nat {n : Nat} {t : Tm} (h : t.ok n) (h1 : 1 ≤ n) : (t.s + t.l) % (n : Int) = (tV n t : Nat) ∧ (t.s + t.l) / (n : Int) = (tR n t : Nat) ∧ t.s = (t.s.toNat : Nat) := by
  have a := h.s0; have c := h.l0
  have e : t.s + t.l = ((t.s.toNat + t.l.toNat : Nat) : Int) := by omega
  refine ⟨?_, ?_, by omega⟩
  · rw [e]; exact (Int.natCast_emod _ _).symm
  · rw [e]; exact (Int.natCast_ediv _ _).symm
theorem F_demands_eq {n : Nat} {T : Int} {ts : List Tm} (h1 : 1 ≤ n) (h2 : n ≤ 1000) (ht : ∀ t ∈ ts, t.ok n) (hs : ts.length ≤ 10000) : ∃ t, F_demands [.im (rgD n ts), .im (.int T)] = .ok (.list ((dem n T ts).map Eg.d), t) := by
  suffices h : Ev (F_demands [.im (rgD n ts), .im (.int T)]) (fun x t => x = .list ((dem n T ts).map Eg.d)) fun _ _ => False by
    obtain ⟨x, t, e, rfl⟩ := ev_eq h; exact ⟨t, e⟩
  refine ev_fun ?_
  unfold g_demands rgD
  walk_at "mirn"
  refine ev_lcm (v := plD n) ?_
  walk_at "mirn"
  refine ⟨rfl, by rw [rangeL_length]; exact sizeLine_lt _ (by omega), fun d hd => ?_, ?_⟩
  · obtain ⟨i, hi, rfl⟩ := rangeL_mem hd
    walk_at "mirn"
    exact ⟨rfl, rfl, rfl⟩
  have e0 : (rangeL 0 (n : Int).toNat).map (plD n) = (rawN n ts 0).map Eg.d := by
    unfold rangeL rawN
    rw [List.map_map, List.range_zero, List.flatMap_nil, List.append_nil, List.map_map, Int.toNat_natCast]
    apply List.map_congr_left
    intro i _
    have a : ((0 + (i : Int)) + 1) % (n : Int) = (((i + 1) % n : Nat) : Int) := by
      rw [show (0 + (i : Int)) + 1 = ((i + 1 : Nat) : Int) by omega]; exact (Int.natCast_emod _ _).symm
    have b : ((0 + (i : Int)) + 1) / (n : Int) = (((i + 1) / n : Nat) : Int) := by
      rw [show (0 + (i : Int)) + 1 = ((i + 1 : Nat) : Int) by omega]; exact (Int.natCast_ediv _ _).symm
    show PyData.tuple [.int (0 + (i : Int)), .int (((0 + (i : Int)) + 1) % (n : Int)), .int 0, .none, .int 1, .int (((0 + (i : Int)) + 1) / (n : Int))] = _
    rw [a, b, Int.zero_add]
    rfl
  rw [e0]
  walk_at "mirn"
  refine es_forK (fun k e => ∃ a4 a5 a6 a7 a8 a9 a10, (a10 = none ∨ ∃ d, a10 = some (.im d)) ∧ e = [some (.im (rgD n ts)), some (.im (.int T)), some (.im (.int n)), some (.ow ((rawN n ts k).map Eg.d)), a4, a5, a6, a7, a8, a9, a10, none, none, none, none, none, none])
    ⟨_, _, _, _, _, _, _, .inl rfl, rfl⟩ ?_ ?_
  · rintro k d e hk ⟨a4, a5, a6, a7, a8, a9, a10, _, rfl⟩
    obtain ⟨t0, hk0, rfl⟩ := enumL_get hk
    clear hk
    rw [List.getElem?_map, Option.map_eq_some_iff] at hk0
    obtain ⟨t, hk, rfl⟩ := hk0
    have ok := ht t (List.mem_of_getElem? hk)
    obtain ⟨q1, q2, q3⟩ := term_nat ok h1
    have hk1 := (List.getElem?_eq_some_iff.mp hk).1
    have hlen := rawN_length n ts k
    have big : (rawN n ts k).length + 1 < sizeLine := Nat.lt_of_lt_of_le (show (rawN n ts k).length + 1 < 100000 by omega) (sizeLine_lt _ (by decide))
    unfold Tm.d
    walk_at "mirn"
    refine ⟨by rw [List.length_map]; omega, ?_⟩
    rw [q1, q2]
    refine es_if ?_
    walk_at "mirn"
    have e1 : rawN n ts (k + 1) = rawN n ts k ++ raw1 n ts k := rawN_succ n ts k
    unfold raw1 at e1
    rw [hk] at e1
    simp only at e1
    have eA : PyData.tuple [.int t.s, .int (tV n t : Nat), .int t.lo, .int (k : Nat), .int 1, .int (tR n t : Nat)] = Eg.d ⟨t.s.toNat, tV n t, t.lo, some k, 1, (tR n t : Nat)⟩ := by
      unfold Eg.d oN
      rw [← q3]
    rw [eA]
    cases hh : t.hi with
    | none =>
      rw [hh] at e1
      have e2 : (rawN n ts k).map Eg.d ++ [Eg.d ⟨t.s.toNat, tV n t, t.lo, some k, 1, (tR n t : Nat)⟩] = (rawN n ts (k + 1)).map Eg.d := by rw [e1, List.map_append]; rfl
      rw [e2]
      unfold oI
      walk_at "mir"
      exact ⟨_, _, _, _, _, _, _, .inr ⟨_, rfl⟩, rfl⟩
    | some i =>
      rw [hh] at e1
      unfold oI
      walk_at "mir"
      refine ⟨by rw [List.length_append, List.length_map]; exact big, ?_⟩
      have eB : PyData.tuple [.int (tV n t : Nat), .int t.s, .int (-i), .int (k : Nat), .int (-1), .int (tR n t : Nat)] = Eg.d ⟨tV n t, t.s.toNat, -i, some k, -1, (tR n t : Nat)⟩ := by
        unfold Eg.d oN
        rw [← q3]
      rw [eB]
      have e2 : (rawN n ts k).map Eg.d ++ [Eg.d ⟨t.s.toNat, tV n t, t.lo, some k, 1, (tR n t : Nat)⟩] ++ [Eg.d ⟨tV n t, t.s.toNat, -i, some k, -1, (tR n t : Nat)⟩] = (rawN n ts (k + 1)).map Eg.d := by rw [e1, List.map_append]; simp
      rw [e2]
      exact ⟨_, _, _, _, _, _, _, .inr ⟨_, rfl⟩, rfl⟩
  · rintro e ⟨a4, a5, a6, a7, a8, a9, a10, ok10, rfl⟩
    rw [enumL_length, List.length_map]
    walk_at "mirn"
    refine ev_lcm (v := lessD T) ?_
    walk_at "mirn"
    refine ⟨by rcases ok10 with rfl | ⟨d, rfl⟩ <;> rfl, by rw [List.length_map]; have := rawN_length n ts ts.length; exact sizeLine_lt _ (by omega), fun d hd => ?_, ?_⟩
    · obtain ⟨g, hg, rfl⟩ := List.mem_map.mp hd
      have ok := raw_ok h1 ht hg
      have w := ok.way; have r0 := ok.r0; have r1 := ok.r1
      unfold Eg.d
      rcases w with w | w
      · rw [w]
        walk_at "mirn"
        exact ⟨rfl, by kernel_rfl, by kernel_rfl⟩
      · rw [w]
        walk_at "mirn"
        exact ⟨rfl, by kernel_rfl, by kernel_rfl⟩
    · unfold dem
      rw [List.map_map, List.map_map]
      rfl
/-! ### values whose lists are new, told by what is wanted behind -/
def isLst : D → Bool
  | .list _ => true
  | _ => false
structure RT (d : D) (P : Prop) : Prop where
  h : isLst d = false
  q : P
structure FO (d : D) (P : Prop) : Prop where
  h : flatOk d = true
  q : P
structure OO (i j : Nat) (d : D) (e : En) (P : D → En → Prop) : Prop where
  q : ∃ ds es, e[i]? = some (some (.ow ds)) ∧ e[j]? = some (some (.ow es)) ∧ (noLstAll ds && noLstAll es && noLst d && decide (dep (.tuple [.list ds, .list es, d]) ≤ 3) && decide (wt (.tuple [.list ds, .list es, d]) ≤ 1048576)) = true ∧ P (.tuple [.list ds, .list es, d]) e
theorem oo_mk {i j : Nat} {d : D} {e : En} {P : D → En → Prop} {ds es : List D} (h1 : e[i]? = some (some (.ow ds))) (h2 : e[j]? = some (some (.ow es))) (h3 : (noLstAll ds && noLstAll es && noLst d && decide (dep (.tuple [.list ds, .list es, d]) ≤ 3) && decide (wt (.tuple [.list ds, .list es, d]) ≤ 1048576)) = true) (h4 : P (.tuple [.list ds, .list es, d]) e) : OO i j d e P := ⟨ds, es, h1, h2, h3, h4⟩
theorem fo_none {P : Prop} (q : P) : FO .none P := ⟨by decide +kernel, q⟩
theorem fo_bool {b : Bool} {P : Prop} (q : P) : FO (.bool b) P := ⟨by cases b <;> decide +kernel, q⟩
theorem flatOk_atom {d : D} (h1 : noLst d = true) (h2 : dep d = 0) (h3 : wt d = 0) : flatOk d = true := by
  unfold flatOk
  rw [h1, h2, h3]
  rfl
theorem fo_int {i : Int} {P : Prop} (q : P) : FO (.int i) P := ⟨flatOk_atom (by simp only [noLst]) (by simp only [dep]) (by simp only [wt]), q⟩
theorem fo_str {x : Str} {P : Prop} (q : P) : FO (.str x) P := ⟨flatOk_atom (by simp only [noLst]) (by simp only [dep]) (by simp only [wt]), q⟩
theorem ev_flat {Q : D → En → Prop} {E : Exn → En → Prop} {env : En} {f : EF} (q : Ev (f env) (fun d e => FO d (Q d e)) E) : Ev (fFlat f env) Q E := by
  unfold fFlat
  refine ev_bind (ev_imp1 q fun d e q => ?_)
  dsimp only
  rw [if_pos q.h]
  exact ⟨q.q⟩
theorem es_retT {N : En → Prop} {P : D → En → Prop} {B C : En → Prop} {E : Exn → En → Prop} {env : En} {f : EF} (q : Ev (f env) (fun d e => RT d (P d e)) E) : Es (sRetT f env) N P B C E := by
  unfold sRetT
  refine es_bind (ev_imp1 q fun d e q => ?_)
  obtain ⟨h, q⟩ := q
  cases d <;> first | exact ⟨q⟩ | (unfold isLst at h; cases h)
theorem es_retOO {N : En → Prop} {P : D → En → Prop} {B C : En → Prop} {E : Exn → En → Prop} {env : En} {f : EF} {i j : Nat} {ds0 es0 : List D} (hi : env[i]? = some (some (.ow ds0))) (hj : env[j]? = some (some (.ow es0))) (q : Ev (f env) (fun d e => OO i j d e P) E) : Es (sRetOO i j f env) N P B C E := by
  unfold sRetOO
  rw [hi, hj]
  refine es_bind (ev_imp1 q fun d e q => ?_)
  obtain ⟨ds, es, h1, h2, h3, q⟩ := q
  dsimp only
  rw [h1, h2]
  dsimp only
  rw [if_pos h3]
  exact ⟨q⟩
theorem noLst_ints : ∀ (xs : List Int), noLstAll (xs.map .int) = true
  | [] => by simp only [List.map_nil, noLstAll]
  | x :: xs => by simp only [List.map_cons, noLstAll, noLst, noLst_ints xs, Bool.and_self]
theorem dep_ints : ∀ (xs : List Int), depAll (xs.map .int) = 0
  | [] => by simp only [List.map_nil, depAll]
  | x :: xs => by simp only [List.map_cons, depAll, dep, dep_ints xs, Nat.max_self]
theorem wt_ints : ∀ (xs : List Int), wtAll (xs.map .int) = xs.length
  | [] => by simp only [List.map_nil, wtAll, List.length_nil]
  | x :: xs => by simp only [List.map_cons, wtAll, wt, wt_ints xs, List.length_cons]; omega
theorem oo_cond {xs ys : List Int} {r : Int} (h : xs.length + ys.length ≤ 100000) : (noLstAll (xs.map .int) && noLstAll (ys.map .int) && noLst (.int r) && decide (dep (.tuple [.list (xs.map .int), .list (ys.map .int), .int r]) ≤ 3) && decide (wt (.tuple [.list (xs.map .int), .list (ys.map .int), .int r]) ≤ 1048576)) = true := by
  rw [noLst_ints, noLst_ints]
  simp only [noLst, dep, depAll, dep_ints, wt, wtAll, wt_ints, Bool.true_and, Bool.and_eq_true, decide_eq_true_eq]
  omega
theorem flatOk_lay {s : Str} {xs ys : List Int} (h : xs.length + ys.length ≤ 100000) : flatOk (.tuple [.str s, .tuple (xs.map .int), .tuple (ys.map .int)]) = true := by
  unfold flatOk
  simp only [noLst, noLstAll, noLst_ints, dep, depAll, dep_ints, wt, wtAll, wt_ints, Bool.true_and, Bool.and_eq_true, decide_eq_true_eq]
  omega
theorem es_spoil {N : En → Prop} {P : D → En → Prop} {B C : En → Prop} {E : Exn → En → Prop} {env e' : En} (ho : env.all okS = true) (he : env.map spS = e') (q : N e') : Es (sSpoil env) N P B C E := by
  unfold sSpoil
  rw [if_pos ho, he]
  exact ⟨q⟩
theorem spS_im {d : D} (h : noLst d = true) : spS (some (.im d)) = some (.im d) := by
  show (if noLst d = true then some (Sl.im d) else none) = _
  rw [if_pos h]
theorem noLst_terms : ∀ (ts : List Tm), noLstAll (ts.map Tm.d) = true
  | [] => by simp only [List.map_nil, noLstAll]
  | t :: ts => by
    rw [List.map_cons, noLstAll, noLst_terms ts]
    unfold Tm.d
    cases t.hi <;> simp [noLst, noLstAll, oI]
theorem noLst_rg (n : Int) (ts : List Tm) : noLst (rgD n ts) = true := by
  unfold rgD
  simp only [noLst, noLstAll, noLst_terms, Bool.and_self]
local macro_rules | `(tactic| walk_at "mir0") => `(tactic| first
  | with_reducible refine es_retT ?_
  | with_reducible refine es_retOO rfl rfl ?_
  | with_reducible refine ev_flat ?_
  | with_reducible refine fo_none ?_
  | with_reducible refine fo_int ?_
  | with_reducible refine fo_bool ?_
  | with_reducible refine fo_str ?_
  | (with_reducible apply RT.mk); rfl)
/-! ### bars that are found -/
def upsL (L : List Eg) : List Int := (L.filter fun e => e.t.isSome && decide (e.way = 1)).map fun e => ((e.t.getD 0 : Nat) : Int)
def dnL (L : List Eg) : List Int := (L.filter fun e => decide (e.way = -1)).map fun e => ((e.t.getD 0 : Nat) : Int)
def rdL (L : List Eg) : Int := (L.map fun e => e.way * e.r).sum
def barOf (L : List Eg) : D := .tuple [.list ((sortI (upsL L)).map .int), .list ((sortI (dnL L)).map .int), .int (rdL L)]
def bUp : D → Bool
  | .tuple [_, _, _, .int _, .int w, _] => decide (w = 1)
  | _ => false
def bDn : D → Bool
  | .tuple [_, _, _, _, .int w, _] => decide (w = -1)
  | _ => false
def v3 : D → D
  | .tuple [_, _, _, t, _, _] => t
  | _ => .none
def v45 : D → D
  | .tuple [_, _, _, _, .int w, .int r] => .int (w * r)
  | _ => .none
theorem ups_data : ∀ L : List Eg, ((L.map Eg.d).filter bUp).map v3 = (upsL L).map .int
  | [] => rfl
  | e :: L => by
    have ih := ups_data L
    unfold upsL at ih ⊢
    rw [List.map_cons, List.filter_cons, List.filter_cons]
    cases ht : e.t with
    | none =>
      have a : bUp e.d = false := by unfold Eg.d oN; rw [ht]; rfl
      simp only [a, Option.isSome_none, Bool.false_and, Bool.false_eq_true, if_false]
      exact ih
    | some j =>
      have a : bUp e.d = decide (e.way = 1) := by unfold Eg.d oN; rw [ht]; rfl
      have c : v3 e.d = .int (j : Int) := by unfold Eg.d oN; rw [ht]; rfl
      simp only [a, Option.isSome_some, Bool.true_and]
      by_cases q : e.way = 1
      · simp only [q, decide_true, if_true, List.map_cons, c, ht, Option.getD_some]
        rw [← ih]
      · simp only [q, decide_false, Bool.false_eq_true, if_false]
        exact ih
theorem dn_data : ∀ L : List Eg, (∀ e ∈ L, e.way = -1 → e.t ≠ none) → ((L.map Eg.d).filter bDn).map v3 = (dnL L).map .int
  | [], _ => rfl
  | e :: L, h => by
    have ih := dn_data L fun g hg => h g (by simp [hg])
    unfold dnL at ih ⊢
    rw [List.map_cons, List.filter_cons, List.filter_cons]
    have a : bDn e.d = decide (e.way = -1) := rfl
    rw [a]
    by_cases q : e.way = -1
    · cases ht : e.t with
      | none => exact absurd ht (h e (by simp) q)
      | some j =>
        have c : v3 e.d = .int (j : Int) := by unfold Eg.d oN; rw [ht]; rfl
        simp only [q, decide_true, if_true, List.map_cons, c, ht, Option.getD_some]
        rw [← ih]
    · simp only [q, decide_false, Bool.false_eq_true, if_false]
      exact ih
theorem sortedD_ints (ns : List Int) : sortedD [.list (ns.map .int)] = some (.list ((sortI ns).map .int)) := by simp only [sortedD, intsD_map, Option.map_some]
theorem F_found_bar_eq {n : Nat} {T : Int} {ts : List Tm} (h1 : 1 ≤ n) (h2 : n ≤ 1000) (ht : ∀ t ∈ ts, t.ok n) (hs : ts.length ≤ 10000) :
    ∃ t, (F_found_bar [.im (rgD n ts), .im (.int T)] = .ok (.none, t) ∧ ∃ h : Nat → Int, ∀ e ∈ dem n T ts, h e.u + e.w ≤ h e.v) ∨ ∃ L, Loop n (dem n T ts) L ∧ F_found_bar [.im (rgD n ts), .im (.int T)] = .ok (barOf L, t) := by
  suffices h : Ev (F_found_bar [.im (rgD n ts), .im (.int T)]) (fun x t => (x = .none ∧ ∃ h : Nat → Int, ∀ e ∈ dem n T ts, h e.u + e.w ≤ h e.v) ∨ ∃ L, Loop n (dem n T ts) L ∧ x = barOf L) fun _ _ => False by
    obtain ⟨x, t, e, ⟨rfl, q⟩ | ⟨L, q, rfl⟩⟩ := ev_eq h
    · exact ⟨t, .inl ⟨e, q⟩⟩
    · exact ⟨t, .inr ⟨L, q, e⟩⟩
  have dl := dem_length n T ts
  obtain ⟨t1, e1⟩ := F_demands_eq (T := T) h1 h2 ht hs
  obtain ⟨t2, e2⟩ := F_contradiction_eq (es := dem n T ts) h1 h2 (by omega) fun e he => ⟨(dem_ok h1 ht he).u, (dem_ok h1 ht he).v⟩
  refine ev_fun ?_
  unfold g_found_bar rgD
  walk_at "mirn"
  refine ev_of e1 ?_
  rw [back_ims rfl]
  walk_at "mirn"
  rcases e2 with ⟨e2, hp⟩ | ⟨L, hL, e2⟩
  · refine ev_of e2 ?_
    rw [back_ims rfl]
    walk_at "mir"
    exact .inl ⟨rfl, hp⟩
  · refine ev_of e2 ?_
    rw [back_ims rfl]
    have ok : ∀ e ∈ L, EgOk n ts.length e := fun e he => dem_ok h1 ht (hL.mem e he)
    have ll := hL.len
    walk_at "mir"
    refine ev_lc (b := bUp) (v := v3) (P0 := fun _ _ => True) ?_
    walk_at "mir"
    refine ⟨rfl, by rw [List.length_map]; exact sizeLine_lt _ (by omega), fun d hd => ?_, ?_⟩
    · obtain ⟨e, he, rfl⟩ := List.mem_map.mp hd
      unfold Eg.d
      cases hte : e.t with
      | none =>
        unfold oN
        walk_at "mir"
        exact ⟨rfl, (fun q => nomatch q), fun _ => ⟨rfl, rfl⟩⟩
      | some j =>
        unfold oN
        walk_at "mir"
        exact ⟨rfl, fun _ => ⟨rfl, rfl, rfl⟩, fun _ => ⟨rfl, rfl⟩⟩
    rw [ups_data]
    walk_at "mir"
    refine ev_o (sortedD_ints _) ?_
    walk_at "mir"
    refine ev_lc (b := bDn) (v := v3) (P0 := fun _ _ => True) ?_
    walk_at "mir"
    refine ⟨rfl, by rw [List.length_map]; exact sizeLine_lt _ (by omega), fun d hd => ?_, ?_⟩
    · obtain ⟨e, he, rfl⟩ := List.mem_map.mp hd
      unfold Eg.d
      walk_at "mir"
      exact ⟨rfl, fun _ => ⟨rfl, rfl, rfl⟩, fun _ => ⟨rfl, rfl⟩⟩
    rw [dn_data L fun e he => (ok e he).dn]
    walk_at "mir"
    refine ev_o (sortedD_ints _) ?_
    walk_at "mir"
    refine ev_lcm (v := v45) ?_
    walk_at "mir"
    refine ⟨rfl, by rw [List.length_map]; exact sizeLine_lt _ (by omega), fun d hd => ?_, ?_⟩
    · obtain ⟨e, he, rfl⟩ := List.mem_map.mp hd
      have q := (ok e he).way
      unfold Eg.d
      walk_at "mir"
      exact ⟨rfl, rfl, rfl⟩
    have e3 : (L.map Eg.d).map v45 = (L.map fun e => e.way * e.r).map .int := by rw [List.map_map, List.map_map]; rfl
    rw [e3]
    walk_at "mir"
    refine ev_o (sumD_list _) ?_
    walk_at "mir"
    refine oo_mk rfl rfl (oo_cond ?_) ?_
    · rw [(sortI_perm (upsL L)).length_eq, (sortI_perm (dnL L)).length_eq]
      have a : (upsL L).length ≤ L.length := by unfold upsL; rw [List.length_map]; exact List.length_filter_le _ _
      have b : (dnL L).length ≤ L.length := by unfold dnL; rw [List.length_map]; exact List.length_filter_le _ _
      omega
    · exact .inr ⟨L, hL, rfl⟩
/-! ### own dicts, told by what is wanted behind -/
section
variable {N : En → Prop} {P : D → En → Prop} {B C : En → Prop} {E : Exn → En → Prop} {Q : D → En → Prop} {env : En} {f g : EF} {i j : Nat} {d : D} {kvs0 : List (Key × D)}
theorem es_setDk {c : D} (hi : env[i]? = some (some (.im d))) (q : EvO (keyOf d) fun k => N (env.set j (some (.dk [(k, c)])))) : Es (sSetDk j i c env) N P B C E := by
  unfold sSetDk
  rw [hi]
  obtain ⟨k, h, q⟩ := q
  simp only [h]
  exact ⟨q⟩
theorem ev_dix (hi : env[i]? = some (some (.dk kvs0))) (q : Ev (g env) (fun a e => ∃ kvs, e[i]? = some (some (.dk kvs)) ∧ EvO ((keyOf a).bind (valD kvs)) fun r => Q r e) E) : Ev (fDIx i g env) Q E := by
  unfold fDIx
  rw [hi]
  refine ev_bind (ev_imp1 q fun a e q => ?_)
  obtain ⟨kvs, he, q⟩ := q
  simp only [he]
  exact ev_obk q
theorem ev_din (q : Ev (f env) (fun a e => ∃ kvs, e[i]? = some (some (.dk kvs)) ∧ EvO (keyOf a) fun k => Q (.bool (valD kvs k).isSome) e) E) : Ev (fDIn i f env) Q E := by
  unfold fDIn
  refine ev_bind (ev_imp1 q fun a e q => ?_)
  obtain ⟨kvs, he, k, hk, q⟩ := q
  simp only [he, hk]
  exact ⟨q⟩
theorem ev_dget2 (hi : env[i]? = some (some (.dk kvs0))) (q : Ev (g env) (fun a e => Ev (f e) (fun b e => ∃ kvs, e[i]? = some (some (.dk kvs)) ∧ EvO (keyOf a) fun k => Q ((valD kvs k).getD b) e) E) E) : Ev (fDGet2 i g f env) Q E := by
  unfold fDGet2
  rw [hi]
  refine ev_bind (ev_imp1 q fun a e q => ev_bind (ev_imp1 q fun b e q => ?_))
  obtain ⟨kvs, he, k, hk, q⟩ := q
  simp only [he, hk]
  exact ⟨q⟩
theorem es_dsto (q : Ev (f env) (fun v e => (∃ kvs, e[i]? = some (some (.dk kvs))) ∧ Ev (g e) (fun a e => ∃ kvs, e[i]? = some (some (.dk kvs)) ∧ kvs.length < sizeLine ∧ EvO (keyOf a) fun k => N (e.set i (some (.dk (putD kvs k v))))) E) E) : Es (sDSto i g f env) N P B C E := by
  unfold sDSto
  refine es_bind (ev_imp1 q fun v e q => ?_)
  obtain ⟨⟨kvs1, h1⟩, q⟩ := q
  simp only [h1]
  refine es_bind (ev_imp1 q fun a e q => ?_)
  obtain ⟨kvs, he, hl, k, hk, q⟩ := q
  simp only [he, hl, if_true, hk]
  exact ⟨q⟩
end
theorem putD_length (kvs : List (Key × D)) (k : Key) (d : D) : (putD kvs k d).length ≤ kvs.length + 1 := by
  unfold putD
  split
  · rw [List.length_map]; omega
  · rw [List.length_append]; exact Nat.le_refl _
theorem valD_put (kvs : List (Key × D)) (k j : Key) (d : D) : valD (putD kvs k d) j = if j = k then some d else valD kvs j := by
  unfold putD
  split
  · rename_i h
    by_cases e : j = k
    · subst e
      rw [if_pos rfl]
      induction kvs with
      | nil => simp at h
      | cons p r ih =>
        unfold valD
        simp only [List.map_cons, List.find?_cons]
        by_cases q : p.1 = j
        · simp [q]
        · simp only [q, if_false, decide_false]
          rw [List.any_cons] at h
          simp only [q, decide_false, Bool.false_or] at h
          exact ih h
    · rw [if_neg e]
      clear h
      induction kvs with
      | nil => rfl
      | cons p r ih =>
        unfold valD at ih ⊢
        simp only [List.map_cons, List.find?_cons]
        by_cases q : p.1 = k
        · have q2 : ¬ k = j := fun z => e z.symm
          simp only [q, if_true, q2, decide_false]
          exact ih
        · simp only [q, if_false]
          by_cases q3 : p.1 = j
          · simp [q3]
          · simp only [q3, decide_false]
            exact ih
  · rename_i h
    unfold valD
    rw [List.find?_append]
    by_cases e : j = k
    · subst e
      rw [if_pos rfl]
      have : kvs.find? (fun kv => decide (kv.1 = j)) = none := by
        rw [List.find?_eq_none]
        intro x hx
        simp only [List.any_eq_true, decide_eq_true_eq, not_exists, not_and] at h
        simpa using h x hx
      rw [this]
      simp
    · rw [if_neg e]
      have q2 : ¬ k = j := fun z => e z.symm
      cases hf : kvs.find? (fun kv => decide (kv.1 = j)) with
      | some p => rfl
      | none => simp [q2]
/-! ### heights from a place -/
def hC (φ : Nat → Int) (C : Int) (val : Nat → Option Int) (x : Nat) : Int := match val x with
  | some a => a
  | none => φ x - C
def Feas (es : List Eg) (g : Nat → Int) : Prop := ∀ e ∈ es, g e.u + e.w ≤ g e.v
structure HS (es : List Eg) (p : Nat) (φ : Nat → Int) (r : Nat) (done : List Eg) (val : Nat → Option Int) (b : Nat → Option Eg) (rd tm : Nat → Nat) (clk : Nat) : Prop where
  bf : ∃ C0, ∀ C, C0 ≤ C → BF es r done (hC φ C val) b rd tm clk
  low : ∀ g, Feas es g → ∀ x a, val x = some a → a ≤ g x - g p
  home : ∃ a, val p = some a ∧ 0 ≤ a
theorem hC_upd (φ : Nat → Int) (C : Int) (val : Nat → Option Int) (v : Nat) (a : Int) : hC φ C (updF val v (some a)) = updF (hC φ C val) v a := by
  funext x
  unfold hC updF
  by_cases q : x = v
  · rw [if_pos q, if_pos q]
  · rw [if_neg q, if_neg q]
theorem HS.start {es : List Eg} {p : Nat} {φ : Nat → Int} : HS es p φ 1 [] (updF (fun _ => none) p (some 0)) (fun _ => none) (fun _ => 0) (fun _ => 0) 1 := by
  refine ⟨⟨0, fun C _ => BF.start es _⟩, fun g _ x a h => ?_, 0, updF_same, Int.le_refl _⟩
  by_cases q : x = p
  · rw [q, updF_same] at h; cases h; rw [q]; omega
  · rw [updF_ne q] at h; cases h
theorem HS.next {es done : List Eg} {p r : Nat} {φ : Nat → Int} {val : Nat → Option Int} {b : Nat → Option Eg} {rd tm : Nat → Nat} {clk : Nat} (I : HS es p φ r done val b rd tm clk) (hd : ∀ e ∈ es, e ∈ done) : HS es p φ (r + 1) [] val b rd tm clk := by
  obtain ⟨C0, h⟩ := I.bf
  exact ⟨⟨C0, fun C hC => (h C hC).next hd⟩, I.low, I.home⟩
/-- a demand that changes nothing -/
theorem HS.skip {es done : List Eg} {p r : Nat} {φ : Nat → Int} {val : Nat → Option Int} {b : Nat → Option Eg} {rd tm : Nat → Nat} {clk : Nat} {e : Eg} (I : HS es p φ r done val b rd tm clk) (hφ : Feas es φ) (he : e ∈ es)
    (hn : ∀ c, val e.u = some c → ∃ a, val e.v = some a ∧ c + e.w ≤ a) : HS es p φ r (done ++ [e]) val b rd tm clk := by
  obtain ⟨C0, h⟩ := I.bf
  have f := hφ e he
  refine ⟨⟨max C0 (φ e.u + e.w - (val e.v).getD 0), fun C hC' => (h C (by omega)).skip ?_⟩, I.low, I.home⟩
  unfold hC
  cases hu : val e.u with
  | some c =>
    obtain ⟨a, ha, q⟩ := hn c hu
    rw [ha]
    simp only
    omega
  | none =>
    cases hv : val e.v with
    | some a =>
      rw [hv, Option.getD_some] at hC'
      simp only
      omega
    | none =>
      simp only
      omega
/-- a demand that lifts -/
theorem HS.rise {es done : List Eg} {p r : Nat} {φ : Nat → Int} {val : Nat → Option Int} {b : Nat → Option Eg} {rd tm : Nat → Nat} {clk : Nat} {e : Eg} {c : Int} (I : HS es p φ r done val b rd tm clk) (hr : 1 ≤ r) (he : e ∈ es) (hu : val e.u = some c)
    (hn : ∀ a, val e.v = some a → a < c + e.w) : HS es p φ r (done ++ [e]) (updF val e.v (some (c + e.w))) (updF b e.v (some e)) (updF rd e.v r) (updF tm e.v clk) (clk + 1) := by
  obtain ⟨C0, h⟩ := I.bf
  have eu : ∀ C, hC φ C val e.u = c := fun C => by unfold hC; rw [hu]
  refine ⟨⟨max C0 (φ e.v - c - e.w + 1), fun C hC' => ?_⟩, fun g hg x a hx => ?_, ?_⟩
  · have q := (h C (by omega)).rise hr he (by
      rw [eu]
      unfold hC
      cases hv : val e.v with
      | some a => exact hn a hv
      | none => simp only; omega)
    rw [eu] at q
    rw [hC_upd]
    exact q
  · by_cases q : x = e.v
    · rw [q, updF_same] at hx
      cases hx
      have a1 := I.low g hg e.u c hu
      have a2 := hg e he
      rw [q]; omega
    · rw [updF_ne q] at hx
      exact I.low g hg x a hx
  · obtain ⟨a, ha, h0⟩ := I.home
    by_cases q : p = e.v
    · have := hn a (by rw [← q]; exact ha)
      exact ⟨c + e.w, by rw [q, updF_same], by omega⟩
    · exact ⟨a, by rw [updF_ne q]; exact ha, h0⟩
/-- behind as many rounds as there are places all demands are met -/
theorem HS.met {es : List Eg} {n p : Nat} {φ : Nat → Int} {val : Nat → Option Int} {b : Nat → Option Eg} {rd tm : Nat → Nat} {clk : Nat} (I : HS es p φ (n + 1) [] val b rd tm clk) (hφ : Feas es φ) (hn : ∀ e ∈ es, e.u < n ∧ e.v < n) :
    ∀ e ∈ es, ∀ c a, val e.u = some c → val e.v = some a → c + e.w ≤ a := by
  intro e he c a hu hv
  obtain ⟨C0, h⟩ := I.bf
  have J := h C0 (Int.le_refl _)
  by_cases q : rd e.u + 1 < n + 1
  · have k := J.prev e he q
    unfold hC at k
    rw [hu, hv] at k
    exact k
  · exfalso
    obtain ⟨_, k, R, hs⟩ := J.walk hn (hn e he).1 (by omega)
    have L := loop_of R hs
    have m := L.more
    have z := L.round φ
    have le : ∀ M : List Eg, (∀ e ∈ M, e ∈ es) → (M.map fun e => e.w).sum + (M.map fun e => φ e.u - φ e.v).sum ≤ 0 := by
      intro M
      induction M with
      | nil => intro _; simp
      | cons g M ih =>
        intro hM
        have a1 := ih fun e he => hM e (by simp [he])
        have a2 := hφ g (hM g (by simp))
        simp only [List.map_cons, List.sum_cons]
        omega
    have := le _ L.mem
    omega
theorem ff_h {b : Bool} {X Y : Prop} (h : b = false) (y : Y) : (b = true → X) ∧ (b = false → Y) := by subst h; exact ff_mk y
theorem tt_h {b : Bool} {X Y : Prop} (h : b = true) (x : X) : (b = true → X) ∧ (b = false → Y) := by subst h; exact tt_mk x
/-- every place is come to -/
structure Way (es : List Eg) (n p : Nat) (sq : Nat → Nat) : Prop where
  zero : sq 0 = p
  lt : ∀ t, sq t < n
  step : ∀ t, t < n → ∃ e ∈ es, e.u = sq t ∧ e.v = sq (t + 1)
  all : ∀ x, x < n → ∃ t, t ≤ n ∧ sq t = x
/-- the least heights from a place that meet all demands -/
structure Hts (es : List Eg) (n p : Nat) (hs : List Int) : Prop where
  len : hs.length = n
  home : hF hs p = 0
  feas : Feas es (hF hs)
  low : ∀ g, Feas es g → ∀ x, x < n → hF hs x ≤ g x - g p
def nameD (kvs : List (Key × D)) (val : Nat → Option Int) : Prop := ∀ x : Nat, valD kvs (.inl (x : Int)) = (val x).map PyData.int
theorem nameD_put {kvs : List (Key × D)} {val : Nat → Option Int} (h : nameD kvs val) (v : Nat) (a : Int) : nameD (putD kvs (.inl (v : Int)) (.int a)) (updF val v (some a)) := by
  intro x
  rw [valD_put]
  by_cases q : x = v
  · subst q
    rw [if_pos rfl, updF_same]; rfl
  · rw [if_neg (fun z => q (by have := Sum.inl.inj z; omega)), updF_ne q]
    exact h x
theorem updF_self {val : Nat → Option Int} {v : Nat} {a : Int} (h : val v = some a) : updF val v (some a) = val := by
  funext x
  unfold updF
  by_cases q : x = v
  · rw [if_pos q, q, h]
  · rw [if_neg q]
theorem F_heights_from_eq {n p : Nat} {es : List Eg} {sq : Nat → Nat} {φ : Nat → Int} (h1 : 1 ≤ n) (h2 : n ≤ 1000) (hl : n * es.length ≤ 1000000) (hl2 : es.length ≤ 100000) (hp : p < n) (hn : ∀ e ∈ es, e.u < n ∧ e.v < n) (hφ : Feas es φ) (W : Way es n p sq) :
    ∃ hs t, Hts es n p hs ∧ F_heights_from [.im (.int n), .im (.list (es.map Eg.d)), .im (.int p)] = .ok (.list (hs.map .int), t) := by
  suffices h : Ev (F_heights_from [.im (.int n), .im (.list (es.map Eg.d)), .im (.int p)]) (fun x t => ∃ hs, Hts es n p hs ∧ x = .list (hs.map .int)) fun _ _ => False by
    obtain ⟨x, t, e, hs, q, rfl⟩ := ev_eq h
    exact ⟨hs, t, q, e⟩
  refine ev_fun ?_
  unfold g_heights_from
  walk_at "mirn"
  refine es_setDk rfl ⟨_, rfl, ?_⟩
  walk_at "mirn"
  let A0 : Sl := .im (.int n)
  let A1 : Sl := .im (.list (es.map Eg.d))
  let A2 : Sl := .im (.int p)
  refine es_forK (fun t e => ∃ kvs val b rd tm clk a4 a5 a6, nameD kvs val ∧ kvs.length ≤ 1 + t * es.length ∧ HS es p φ (t + 1) [] val b rd tm clk ∧ (∀ j, j ≤ t → val (sq j) ≠ none) ∧ (a6 = none ∨ ∃ d, a6 = some (.im d)) ∧
      e = [some A0, some A1, some A2, some (.dk kvs), a4, a5, a6])
    ⟨_, _, _, _, _, _, _, _, _, ?_, ?_, HS.start, ?_, .inl rfl, rfl⟩ ?_ ?_
  · intro x
    unfold valD
    simp only [List.find?_cons, List.find?_nil]
    by_cases q : x = p
    · subst q
      rw [updF_same]; simp
    · rw [updF_ne q]
      have z : ¬ ((Sum.inl (p : Int) : Key) = .inl (x : Int)) := fun z => q (by have := Sum.inl.inj z; omega)
      simp [z]
  · simp
  · intro j hj
    rw [show j = 0 by omega, W.zero, updF_same]; simp
  · rintro t d e ht ⟨kvs, val, b, rd, tm, clk, a4, a5, a6, hk, hlen, I, rch, ok6, rfl⟩
    obtain ⟨ht, rfl⟩ := rangeL_get ht
    have ht : t < n := by omega
    walk_at "mirn"
    let T4 : D := .int (0 + (t : Int))
    refine es_forK (fun k e => ∃ kvs val b rd tm clk a5 a6, nameD kvs val ∧ kvs.length ≤ 1 + t * es.length + k ∧ HS es p φ (t + 1) (es.take k) val b rd tm clk ∧ (∀ j, j ≤ t → val (sq j) ≠ none) ∧ (∀ g ∈ es.take k, g.u = sq t → val g.v ≠ none) ∧ (a6 = none ∨ ∃ d, a6 = some (.im d)) ∧
        e = [some A0, some A1, some A2, some (.dk kvs), some (.im T4), a5, a6]) ⟨kvs, val, b, rd, tm, clk, _, _, hk, by omega, I, rch, fun g hg => by simp at hg, ok6, rfl⟩ ?_ ?_
    · clear I hk hlen rch ok6
      rintro k d e hkk ⟨kvs, val, b, rd, tm, clk, a5, a6, hk, hlen, I, rch, rch2, ok6, rfl⟩
      rw [List.getElem?_map, Option.map_eq_some_iff] at hkk
      obtain ⟨g, hkk, rfl⟩ := hkk
      obtain ⟨hk1, hk2⟩ := List.getElem?_eq_some_iff.mp hkk
      have hg : g ∈ es := List.mem_of_getElem? hkk
      have tk : es.take (k + 1) = es.take k ++ [g] := by rw [List.take_succ_eq_append_getElem hk1, hk2]
      have mulb : t * es.length ≤ 1000000 := Nat.le_trans (Nat.mul_le_mul_right _ (by omega)) hl
      have big : kvs.length < sizeLine := Nat.lt_of_lt_of_le (show kvs.length < 2000000 by omega) (sizeLine_lt _ (by decide))
      unfold Eg.d
      walk_at "mir"
      refine ev_din ?_
      walk_at "mir"
      rw [hk g.u]
      cases hu : val g.u with
      | none =>
        refine ff_h rfl ?_
        walk_at "mir"
        have I2 := I.skip (e := g) hφ hg fun c hc => by rw [hu] at hc; cases hc
        rw [← tk] at I2
        refine ⟨kvs, val, b, rd, tm, clk, _, a6, hk, by omega, I2, rch, fun g' hg' q => ?_, ok6, rfl⟩
        rw [tk] at hg'
        rcases List.mem_append.mp hg' with hg' | hg'
        · exact rch2 g' hg' q
        · rw [List.mem_singleton] at hg'
          subst hg'
          exact absurd hu (by rw [q]; exact rch t (Nat.le_refl _))
      | some c =>
        refine tt_h rfl ?_
        walk_at "mir"
        refine ev_dix rfl ?_
        walk_at "mir"
        refine ev_o (r := .int c) (by show valD kvs (.inl (g.u : Int)) = _; rw [hk g.u, hu]; rfl) ?_
        walk_at "mir"
        refine es_dsto ?_
        walk_at "mir"
        refine ev_dget2 rfl ?_
        walk_at "mir"
        rw [hk g.v]
        cases hv : val g.v with
        | none =>
          have I2 := I.rise (by omega) hg hu fun a ha => by rw [hv] at ha; cases ha
          rw [← tk] at I2
          walk_at "mir"
          refine ⟨⟨kvs, rfl⟩, ?_⟩
          walk_at "mir"
          refine ⟨big, ?_⟩
          walk_at "mir"
          rw [show max (c + g.w) (c + g.w) = c + g.w by omega]
          refine ⟨_, _, _, _, _, _, _, _, nameD_put hk g.v (c + g.w), by have := putD_length kvs (.inl (g.v : Int)) (.int (c + g.w)); omega, I2, fun j hj => ?_, fun g' hg' q => ?_, .inr ⟨_, rfl⟩, rfl⟩
          · by_cases z : sq j = g.v
            · rw [z, updF_same]; simp
            · rw [updF_ne z]; exact rch j hj
          · rw [tk] at hg'
            by_cases z : g'.v = g.v
            · rw [z, updF_same]; simp
            · rw [updF_ne z]
              rcases List.mem_append.mp hg' with hg' | hg'
              · exact rch2 g' hg' q
              · rw [List.mem_singleton] at hg'
                subst hg'
                exact absurd rfl z
        | some a =>
          walk_at "mir"
          refine ⟨⟨kvs, rfl⟩, ?_⟩
          walk_at "mir"
          refine ⟨big, ?_⟩
          walk_at "mir"
          by_cases le : c + g.w ≤ a
          · have I2 := I.skip (e := g) hφ hg fun c' hc => ⟨a, hv, by rw [hu] at hc; cases hc; exact le⟩
            rw [← tk] at I2
            have nm := nameD_put hk g.v a
            rw [updF_self hv] at nm
            rw [show max a (c + g.w) = a by omega]
            refine ⟨_, _, _, _, _, _, _, _, nm, by have := putD_length kvs (.inl (g.v : Int)) (.int a); omega, I2, rch, fun g' hg' q => ?_, .inr ⟨_, rfl⟩, rfl⟩
            rw [tk] at hg'
            rcases List.mem_append.mp hg' with hg' | hg'
            · exact rch2 g' hg' q
            · rw [List.mem_singleton] at hg'
              subst hg'
              rw [hv]; simp
          · have I2 := I.rise (by omega) hg hu fun a' ha => by rw [hv] at ha; cases ha; omega
            rw [← tk] at I2
            rw [show max a (c + g.w) = c + g.w by omega]
            refine ⟨_, _, _, _, _, _, _, _, nameD_put hk g.v (c + g.w), by have := putD_length kvs (.inl (g.v : Int)) (.int (c + g.w)); omega, I2, fun j hj => ?_, fun g' hg' q => ?_, .inr ⟨_, rfl⟩, rfl⟩
            · by_cases z : sq j = g.v
              · rw [z, updF_same]; simp
              · rw [updF_ne z]; exact rch j hj
            · rw [tk] at hg'
              by_cases z : g'.v = g.v
              · rw [z, updF_same]; simp
              · rw [updF_ne z]
                rcases List.mem_append.mp hg' with hg' | hg'
                · exact rch2 g' hg' q
                · rw [List.mem_singleton] at hg'
                  subst hg'
                  exact absurd rfl z
    · clear I hk hlen rch ok6
      rintro e ⟨kvs, val, b, rd, tm, clk, a5, a6, hk, hlen, I, rch, rch2, ok6, rfl⟩
      rw [List.length_map] at hlen
      rw [List.length_map, List.take_length] at I rch2
      refine ⟨kvs, val, b, rd, tm, clk, _, _, _, hk, by rw [Nat.succ_mul]; omega, I.next fun e he => he, fun j hj => ?_, ok6, rfl⟩
      by_cases z : j = t + 1
      · obtain ⟨g, hg, gu, gv⟩ := W.step t ht
        rw [z, ← gv]
        exact rch2 g hg gu
      · exact rch j (by omega)
  · rintro e ⟨kvs, val, b, rd, tm, clk, a4, a5, a6, hk, hlen, I, rch, ok6, rfl⟩
    rw [rangeL_length, Int.toNat_natCast] at I rch
    have there : ∀ x, x < n → ∃ a, val x = some a := fun x hx => by
      obtain ⟨t, ht, e⟩ := W.all x hx
      cases hv : val x with
      | some a => exact ⟨a, rfl⟩
      | none => exact absurd (by rw [e]; exact hv) (rch t ht)
    have met := I.met hφ hn
    let hs : List Int := (List.range n).map fun x => (val x).getD 0
    have hget : ∀ x, x < n → hF hs x = (val x).getD 0 := fun x hx => by
      unfold hF
      rw [List.getD_eq_getElem?_getD, List.getElem?_map, List.getElem?_range hx]; rfl
    have H : Hts es n p hs := by
      refine ⟨by simp [hs], ?_, fun e he => ?_, fun g hg x hx => ?_⟩
      · obtain ⟨a, ha, h0⟩ := I.home
        rw [hget p hp, ha]
        have := I.low φ hφ p a ha
        show a = 0
        omega
      · obtain ⟨q1, q2⟩ := hn e he
        obtain ⟨c, hc⟩ := there e.u q1
        obtain ⟨a, ha⟩ := there e.v q2
        rw [hget _ q1, hget _ q2, hc, ha]
        exact met e he c a hc ha
      · obtain ⟨a, ha⟩ := there x hx
        rw [hget x hx, ha]
        exact I.low g hg x a ha
    walk_at "mir"
    refine ev_lcm (v := fun d => match d with | .int i => .int ((val i.toNat).getD 0) | _ => .none) ?_
    walk_at "mir"
    refine ⟨by rcases ok6 with rfl | ⟨d, rfl⟩ <;> rfl, by rw [rangeL_length]; exact sizeLine_lt _ (by omega), fun d hd => ?_, ?_⟩
    · obtain ⟨i, hi, rfl⟩ := rangeL_mem hd
      have hi : i < n := by omega
      obtain ⟨a, ha⟩ := there i hi
      walk_at "mir"
      refine ev_dix rfl ?_
      walk_at "mir"
      refine ev_o (r := .int a) ?_ ?_
      · rw [Int.zero_add]
        show valD kvs (.inl (i : Int)) = _
        rw [hk i, ha]; rfl
      · refine ⟨?_, rfl, rfl⟩
        show (.int a : D) = .int ((val (0 + (i : Int)).toNat).getD 0)
        rw [show (0 + (i : Int)).toNat = i by omega, ha]; rfl
    · refine ⟨hs, H, ?_⟩
      rw [rangeL_map (fun i => .int ((val i.toNat).getD 0)) 0 _ _ fun _ _ => rfl, Int.toNat_natCast]
      simp only [hs, List.map_map]
      congr 1
      apply List.map_congr_left
      intro i _
      rw [show (0 + (i : Int)).toNat = i by omega]
      rfl
/-! ### sums from place 0, and layings made of sums -/
def pre (xs : List Int) (k : Nat) : Int := (xs.take k).sum
def sms (xs : List Int) (n : Nat) : List Int := (List.range n).map (pre xs)
theorem pre_zero (xs : List Int) : pre xs 0 = 0 := by simp [pre]
theorem pre_succ {xs : List Int} {k : Nat} (h : k < xs.length) : pre xs (k + 1) = pre xs k + xs[k] := take_succ_sum xs k h
theorem pre_all (xs : List Int) : pre xs xs.length = xs.sum := by simp [pre]
theorem sms_length (xs : List Int) (n : Nat) : (sms xs n).length = n := by simp [sms]
theorem sms_succ (xs : List Int) (n : Nat) : sms xs (n + 1) = sms xs n ++ [pre xs n] := by simp [sms, List.range_succ]
theorem atI_last {ds : List D} {d : D} : atI (ds ++ [d]) (-1) = some d := by
  unfold atI ixN
  rw [List.length_append, List.length_singleton, if_neg (by decide), if_pos (by omega)]
  show (ds ++ [d])[((-1 : Int) + ((ds.length + 1 : Nat) : Int)).toNat]? = some d
  rw [show ((-1 : Int) + ((ds.length + 1 : Nat) : Int)).toNat = ds.length by omega]
  simp
theorem cutD_init {ds : List D} {d : D} : cutD (ds ++ [d]) none (some (-1)) = ds := by
  unfold cutD
  show ((ds ++ [d]).drop 0).take ((-1 : Int) + ((ds ++ [d]).length : Int)).toNat = ds
  rw [List.length_append, List.length_singleton, show ((-1 : Int) + ((ds.length + 1 : Nat) : Int)).toNat = ds.length by omega]
  simp
theorem cutD_tail (ds : List D) : cutD ds (some 1) none = ds.drop 1 := by
  unfold cutD
  show (ds.drop (min 1 ds.length)).take (ds.length - min 1 ds.length) = ds.drop 1
  cases ds with
  | nil => rfl
  | cons d r =>
    rw [List.length_cons, show min 1 (r.length + 1) = 1 by omega]
    simp
/-- differences of neighbours -/
def lad (L : List Int) (T : Int) : List Int := (L.zip (L.drop 1 ++ [T])).map fun p => p.2 - p.1
def subPD : D → D
  | .tuple [.int a, .int b] => .int (b - a)
  | _ => .none
theorem zipL_ints (xs ys : List Int) : zipL (xs.map .int) (ys.map .int) = (xs.zip ys).map fun p => .tuple [.int p.1, .int p.2] := by
  unfold zipL
  rw [List.zip_map, List.map_map]
  rfl
theorem zipL_mem {xs ys : List Int} {d : D} (h : d ∈ zipL (xs.map .int) (ys.map .int)) : ∃ a b, d = .tuple [.int a, .int b] := by
  rw [zipL_ints] at h
  obtain ⟨p, _, rfl⟩ := List.mem_map.mp h
  exact ⟨_, _, rfl⟩
theorem F_laid_eq {L : List Int} {T : Int} (hs : L.length ≤ 1000) : ∃ t, F_laid [.im (lI L), .im (.int T)] = .ok (vI (lad L T), t) := by
  suffices h : Ev (F_laid [.im (lI L), .im (.int T)]) (fun x t => x = vI (lad L T)) fun _ _ => False by
    obtain ⟨x, t, e, rfl⟩ := ev_eq h; exact ⟨t, e⟩
  have e1 : cutD (L.map PyData.int) (some 1) none ++ [PyData.int T] = (L.drop 1 ++ [T]).map .int := by
    rw [cutD_tail, List.map_append, List.map_drop]; rfl
  have h1 : (L.drop 1 ++ [T]).length ≤ 1001 := by rw [List.length_append, List.length_drop, List.length_singleton]; omega
  refine ev_fun ?_
  unfold g_laid lI
  walk_at "mir"
  refine ev_lcm (v := subPD) ?_
  walk_at "mir"
  rw [e1]
  refine ⟨by rw [List.length_map]; exact sizeLine_lt _ (by omega), ?_⟩
  walk_at "mir"
  refine ⟨rfl, by rw [zipL_length, List.length_map, List.length_map]; exact sizeLine_lt _ (by omega), fun d hd => ?_, ?_⟩
  · obtain ⟨a, b, rfl⟩ := zipL_mem hd
    walk_at "mir"
    exact ⟨rfl, rfl, rfl⟩
  · rw [zipL_ints, List.map_map]
    walk_at "mir"
    unfold vI lad
    rw [List.map_map]
    rfl
theorem lad_range (f : Nat → Int) (n : Nat) : lad ((List.range n).map f) (f n) = (List.range n).map fun k => f (k + 1) - f k := by
  unfold lad
  apply List.ext_getElem
  · simp only [List.length_map, List.length_zip, List.length_append, List.length_drop, List.length_range, List.length_singleton]; omega
  · intro k h1 h2
    simp only [List.length_map, List.length_range] at h2
    simp only [List.getElem_map, List.getElem_zip, List.getElem_append, List.length_drop, List.length_map, List.length_range, List.getElem_drop, List.getElem_range, List.getElem_singleton]
    by_cases h : k < n - 1
    · rw [dif_pos h, Nat.add_comm 1 k]
    · rw [dif_neg h, show k + 1 = n by omega]
/-- joined by the lesser, or the greater, sums -/
def jn (op : Int → Int → Int) (xs ys : List Int) : List Int := (List.range xs.length).map fun k => op (pre xs (k + 1)) (pre ys (k + 1)) - op (pre xs k) (pre ys k)
structure Op (op : Int → Int → Int) : Prop where
  one : ∀ a b, op a b = a ∨ op a b = b
  mono : ∀ a b c d, a ≤ c → b ≤ d → op a b ≤ op c d
  comm : ∀ a b, op a b = op b a
  add : ∀ a b c, op (a + c) (b + c) = op a b + c
theorem op_min : Op min := ⟨fun a b => by omega, fun a b c d _ _ => by omega, fun a b => by omega, fun a b c => by omega⟩
theorem op_max : Op max := ⟨fun a b => by omega, fun a b c d _ _ => by omega, fun a b => by omega, fun a b c => by omega⟩
theorem Op.same {op : Int → Int → Int} (o : Op op) (a : Int) : op a a = a := by rcases o.one a a with h | h <;> exact h
theorem jn_length (op : Int → Int → Int) (xs ys : List Int) : (jn op xs ys).length = xs.length := by simp [jn]
theorem jn_comm {op : Int → Int → Int} (o : Op op) {xs ys : List Int} (h : xs.length = ys.length) : jn op ys xs = jn op xs ys := by
  unfold jn
  rw [h]
  apply List.map_congr_left
  intro k _
  rw [o.comm (pre ys (k + 1)), o.comm (pre ys k)]
theorem jn_same {op : Int → Int → Int} (o : Op op) (xs : List Int) : jn op xs xs = xs := by
  apply List.ext_getElem
  · rw [jn_length]
  · intro k h1 h2
    simp only [jn, List.getElem_map, List.getElem_range, o.same, pre_succ h2]
    omega
theorem pre_mono {xs : List Int} (h0 : ∀ x ∈ xs, 0 ≤ x) (k : Nat) : pre xs k ≤ pre xs (k + 1) := by
  by_cases h : k < xs.length
  · rw [pre_succ h]; have := h0 _ (List.getElem_mem h); omega
  · unfold pre; rw [List.take_of_length_le (by omega), List.take_of_length_le (by omega)]; exact Int.le_refl _
theorem jn_nn {op : Int → Int → Int} (o : Op op) {xs ys : List Int} (hx : ∀ x ∈ xs, 0 ≤ x) (hy : ∀ x ∈ ys, 0 ≤ x) : ∀ x ∈ jn op xs ys, 0 ≤ x := by
  intro x hm
  obtain ⟨k, _, rfl⟩ := List.mem_map.mp hm
  have := o.mono _ _ _ _ (pre_mono hx k) (pre_mono hy k)
  omega
theorem pre_diff (f : Nat → Int) (h0 : f 0 = 0) (n : Nat) : ∀ k, k ≤ n → pre ((List.range n).map fun k => f (k + 1) - f k) k = f k
  | 0, _ => by rw [pre_zero, h0]
  | k + 1, h => by
    rw [pre_succ (by simp; omega), pre_diff f h0 n k (by omega), List.getElem_map, List.getElem_range]
    omega
theorem pre_jn {op : Int → Int → Int} (o : Op op) (xs ys : List Int) {k : Nat} (h : k ≤ xs.length) : pre (jn op xs ys) k = op (pre xs k) (pre ys k) :=
  pre_diff (fun k => op (pre xs k) (pre ys k)) (by simp only [pre_zero, o.same]) xs.length k h
theorem sum_jn {op : Int → Int → Int} (o : Op op) {xs ys : List Int} (hl : ys.length = xs.length) (h : ys.sum = xs.sum) : (jn op xs ys).sum = xs.sum := by
  rw [← pre_all, jn_length, pre_jn o xs ys (Nat.le_refl _), pre_all, ← hl, pre_all, h, o.same]
theorem jn_laid {op : Int → Int → Int} (o : Op op) {xs ys : List Int} (hl : ys.length = xs.length) (h : ys.sum = xs.sum) :
    lad ((List.range xs.length).map fun k => op (pre xs k) (pre ys k)) xs.sum = jn op xs ys := by
  have e := lad_range (fun k => op (pre xs k) (pre ys k)) xs.length
  rw [pre_all, ← hl, pre_all, h, o.same, hl] at e
  exact e
/-- going round as often as one likes -/
def gs (xs : List Int) (k : Nat) : Int := pre xs (k % xs.length) + (k / xs.length : Nat) * xs.sum
theorem gs_succ {xs : List Int} (hn : xs ≠ []) (k : Nat) : gs xs (k + 1) = gs xs k + xs.getD (k % xs.length) 0 := by
  have hp : 0 < xs.length := List.length_pos_iff.mpr hn
  have hk : k % xs.length < xs.length := Nat.mod_lt _ hp
  have e := Nat.div_add_mod k xs.length
  unfold gs
  rw [List.getD_eq_getElem?_getD, List.getElem?_eq_getElem hk, Option.getD_some]
  by_cases h : k % xs.length + 1 < xs.length
  · have e1 : (k + 1) % xs.length = k % xs.length + 1 := by
      rw [Nat.add_mod, Nat.mod_eq_of_lt (show 1 < xs.length by omega), Nat.mod_eq_of_lt h]
    have e2 : (k + 1) / xs.length = k / xs.length := by
      rw [Nat.div_eq_of_lt_le]
      · rw [Nat.mul_comm]; omega
      · rw [Nat.mul_comm, Nat.mul_add, Nat.mul_one]; omega
    rw [e1, e2, pre_succ hk]; omega
  · have e0 : k % xs.length + 1 = xs.length := by omega
    have e3 : k + 1 = xs.length * (k / xs.length + 1) := by rw [Nat.mul_add, Nat.mul_one]; omega
    have e1 : (k + 1) % xs.length = 0 := by rw [e3, Nat.mul_mod_right]
    have e2 : (k + 1) / xs.length = k / xs.length + 1 := by rw [e3, Nat.mul_div_cancel_left _ hp]
    rw [e1, e2, pre_zero, ← pre_all xs]
    have e4 := pre_succ hk
    have e5 : pre xs (k % xs.length + 1) = pre xs xs.length := by rw [e0]
    rw [e5] at e4
    rw [e4, Int.natCast_add, Int.add_mul]
    omega
theorem stn_gs {xs : List Int} (hn : xs ≠ []) {s l : Int} (hs : 0 ≤ s) : stn xs s l = gs xs (s.toNat + l.toNat) - gs xs s.toNat := by
  have hp : 0 < xs.length := List.length_pos_iff.mpr hn
  unfold stn plc
  rw [List.map_map]
  generalize l.toNat = n
  induction n with
  | zero => simp
  | succ n ih =>
    rw [List.range_succ, List.map_append, List.sum_append, ih, ← Nat.add_assoc, gs_succ hn]
    simp only [List.map_cons, List.map_nil, List.sum_cons, List.sum_nil, Function.comp]
    have e : ((s + (n : Int)) % (xs.length : Int)).toNat = (s.toNat + n) % xs.length := by
      rw [show s + (n : Int) = ((s.toNat + n : Nat) : Int) by omega, ← Int.natCast_emod, Int.toNat_natCast]
    rw [e]
    omega
theorem gs_jn {op : Int → Int → Int} (o : Op op) {xs ys : List Int} (hn : xs ≠ []) (hl : ys.length = xs.length) (h : ys.sum = xs.sum) (k : Nat) : gs (jn op xs ys) k = op (gs xs k) (gs ys k) := by
  have hp : 0 < xs.length := List.length_pos_iff.mpr hn
  unfold gs
  rw [jn_length, sum_jn o hl h, pre_jn o xs ys (Nat.le_of_lt (Nat.mod_lt _ hp)), hl, h, o.add]
def hold (xs : List Int) (ts : List Tm) : Prop := ∀ t ∈ ts, badT t (stn xs t.s t.l) = false
theorem badT_iff (t : Tm) (v : Int) : badT t v = false ↔ t.lo ≤ v ∧ ∀ h, t.hi = some h → v ≤ h := by
  unfold badT
  rw [Bool.or_eq_false_iff, decide_eq_false_iff_not]
  cases t.hi with
  | none => exact ⟨fun ⟨a, _⟩ => ⟨by omega, fun h q => nomatch q⟩, fun ⟨a, _⟩ => ⟨by omega, rfl⟩⟩
  | some i =>
    simp only [decide_eq_false_iff_not]
    exact ⟨fun ⟨a, b⟩ => ⟨by omega, fun h q => by cases q; omega⟩, fun ⟨a, b⟩ => ⟨by omega, by have := b i rfl; omega⟩⟩
theorem brk_nil_iff (xs : List Int) (ts : List Tm) : brk xs ts = [] ↔ hold xs ts := by
  unfold brk brkN hold
  rw [List.flatMap_eq_nil_iff]
  constructor
  · intro h t ht
    obtain ⟨k, hk, rfl⟩ := List.getElem_of_mem ht
    have := h k (List.mem_range.mpr hk)
    unfold brk1 at this
    rw [List.getElem?_eq_getElem hk] at this
    simp only at this
    cases hb : badT ts[k] (stn xs ts[k].s ts[k].l)
    · rfl
    · rw [hb] at this; simp at this
  · intro h k hk
    have hk := List.mem_range.mp hk
    unfold brk1
    rw [List.getElem?_eq_getElem hk]
    simp only
    rw [h _ (List.getElem_mem hk)]
    rfl
theorem jn_hold {op : Int → Int → Int} (o : Op op) (hop : op = min ∨ op = max) {xs ys : List Int} {ts : List Tm} (hn : xs ≠ []) (hl : ys.length = xs.length) (h : ys.sum = xs.sum) (h0 : ∀ t ∈ ts, 0 ≤ t.s)
    (hx : hold xs ts) (hy : hold ys ts) : hold (jn op xs ys) ts := by
  intro t ht
  have hs := h0 t ht
  have hny : ys ≠ [] := by rintro rfl; simp at hl; exact hn (List.length_eq_zero_iff.mp hl.symm)
  have hnj : jn op xs ys ≠ [] := by
    intro q
    have := jn_length op xs ys
    rw [q] at this
    exact hn (List.length_eq_zero_iff.mp this.symm)
  have a := (badT_iff _ _).mp (hx t ht)
  have b := (badT_iff _ _).mp (hy t ht)
  rw [stn_gs hn hs] at a
  rw [stn_gs hny hs] at b
  rw [badT_iff, stn_gs hnj hs, gs_jn o hn hl h, gs_jn o hn hl h]
  generalize gs xs (t.s.toNat + t.l.toNat) = a1 at *
  generalize gs xs t.s.toNat = a2 at *
  generalize gs ys (t.s.toNat + t.l.toNat) = b1 at *
  generalize gs ys t.s.toNat = b2 at *
  refine ⟨?_, fun i hi => ?_⟩
  · rcases hop with rfl | rfl <;> omega
  · have := a.2 i hi; have := b.2 i hi
    rcases hop with rfl | rfl <;> omega
theorem lad_len (L : List Int) (T : Int) : (lad L T).length ≤ L.length := by
  unfold lad
  rw [List.length_map, List.length_zip]
  exact Nat.min_le_left _ _
/-! ### lay -/
def revE (e : Eg) : Eg := ⟨e.v, e.u, e.w, e.t, e.way, e.r⟩
def revD : D → D
  | .tuple [u, v, w, t, way, r] => .tuple [v, u, w, t, way, r]
  | _ => .none
theorem F_turned_eq {es : List Eg} (hl : es.length ≤ 100000) : ∃ t, F_turned [.im (.list (es.map Eg.d))] = .ok (.list ((es.map revE).map Eg.d), t) := by
  suffices h : Ev (F_turned [.im (.list (es.map Eg.d))]) (fun x t => x = .list ((es.map revE).map Eg.d)) fun _ _ => False by
    obtain ⟨x, t, e, rfl⟩ := ev_eq h; exact ⟨t, e⟩
  refine ev_fun ?_
  unfold g_turned
  walk_at "mir"
  refine ev_lcm (v := revD) ?_
  walk_at "mir"
  refine ⟨rfl, by rw [List.length_map]; exact sizeLine_lt _ (by omega), fun d hd => ?_, ?_⟩
  · obtain ⟨e, he, rfl⟩ := List.mem_map.mp hd
    unfold Eg.d
    walk_at "mir"
    exact ⟨rfl, by kernel_rfl, by kernel_rfl⟩
  · rw [List.map_map, List.map_map]
    rfl
theorem dem_place {n p : Nat} {T : Int} {ts : List Tm} (hp : p < n) : ∃ e ∈ dem n T ts, e.u = p ∧ e.v = (p + 1) % n := by
  refine ⟨lessT T (plE n p), List.mem_map_of_mem ?_, rfl, rfl⟩
  unfold rawN
  exact List.mem_append.mpr (.inl (List.mem_map_of_mem (List.mem_range.mpr hp)))
theorem way_dem {n : Nat} (T : Int) (ts : List Tm) (h1 : 1 ≤ n) : Way (dem n T ts) n 0 fun t => t % n where
  zero := Nat.zero_mod _
  lt := fun t => Nat.mod_lt _ (by omega)
  step := fun t ht => by
    obtain ⟨e, he, eu, ev⟩ := dem_place (T := T) (ts := ts) ht
    exact ⟨e, he, by rw [eu, Nat.mod_eq_of_lt ht], ev⟩
  all := fun x hx => ⟨x, by omega, Nat.mod_eq_of_lt hx⟩
theorem way_rev {n : Nat} (T : Int) (ts : List Tm) (h1 : 1 ≤ n) : Way ((dem n T ts).map revE) n 0 fun t => (n - t) % n where
  zero := by rw [Nat.sub_zero, Nat.mod_self]
  lt := fun t => Nat.mod_lt _ (by omega)
  step := fun t ht => by
    obtain ⟨e, he, eu, ev⟩ := dem_place (n := n) (p := n - (t + 1)) (T := T) (ts := ts) (by omega)
    refine ⟨revE e, List.mem_map_of_mem he, ?_, ?_⟩
    · show e.v = _
      rw [ev, show n - (t + 1) + 1 = n - t by omega]
    · show e.u = _
      rw [eu, Nat.mod_eq_of_lt (by omega)]
  all := fun x hx => by
    by_cases q : x = 0
    · exact ⟨0, by omega, by rw [q, Nat.sub_zero, Nat.mod_self]⟩
    · exact ⟨n - x, by omega, by rw [show n - (n - x) = x by omega]; exact Nat.mod_eq_of_lt hx⟩
theorem feas_rev {es : List Eg} {h : Nat → Int} (q : Feas es h) : Feas (es.map revE) fun x => -h x := by
  intro e he
  obtain ⟨g, hg, rfl⟩ := List.mem_map.mp he
  have := q g hg
  show -h g.v + g.w ≤ -h g.u
  omega
/-- what lay tells -/
structure Laid (n : Nat) (T : Int) (ts : List Tm) (xs ys : List Int) : Prop where
  hs : ∃ hs, Hts (dem n T ts) n 0 hs ∧ xs = lad hs T
  gs : ∃ gs, Hts ((dem n T ts).map revE) n 0 gs ∧ ys = lad (gs.map fun i => -i) T
def layD2 (xs ys : List Int) : D := .tuple [.str "laying", vI xs, vI ys]
def barD2 (L : List Eg) : D := .tuple [.str "barred", barOf L]
def Told (n : Nat) (T : Int) (ts : List Tm) (x : D) : Prop := (∃ xs ys, Laid n T ts xs ys ∧ x = layD2 xs ys) ∨ ∃ L, Loop n (dem n T ts) L ∧ x = barD2 L
def negI : D → D
  | .int i => .int (-i)
  | _ => .none
theorem F_found_lay_eq {n : Nat} {T : Int} {ts : List Tm} (h1 : 1 ≤ n) (h2 : n ≤ 40) (ht : ∀ t ∈ ts, t.ok n) (hs : ts.length ≤ 10000) :
    ∃ x t, Told n T ts x ∧ F_found_lay [.im (rgD n ts), .im (.int T)] = .ok (x, t) := by
  suffices h : Ev (F_found_lay [.im (rgD n ts), .im (.int T)]) (fun x t => Told n T ts x) fun _ _ => False by
    obtain ⟨x, t, e, q⟩ := ev_eq h; exact ⟨x, t, q, e⟩
  have dl := dem_length n T ts
  have dok : ∀ e ∈ dem n T ts, e.u < n ∧ e.v < n := fun e he => ⟨(dem_ok h1 ht he).u, (dem_ok h1 ht he).v⟩
  have mulb : n * (dem n T ts).length ≤ 1000000 := Nat.le_trans (Nat.mul_le_mul h2 dl) (by omega)
  obtain ⟨t0, e0⟩ := F_found_bar_eq (T := T) h1 (by omega) ht hs
  obtain ⟨t1, e1⟩ := F_demands_eq (T := T) h1 (by omega) ht hs
  refine ev_fun ?_
  unfold g_found_lay
  walk_at "mirn"
  rcases e0 with ⟨e0, φ, hφ⟩ | ⟨L, hL, e0⟩
  · obtain ⟨hs', t2, H, e2⟩ := F_heights_from_eq (p := 0) h1 (by omega) mulb (by omega) (by omega) dok hφ (way_dem T ts h1)
    obtain ⟨t3, e3⟩ := F_turned_eq (es := dem n T ts) (by omega)
    obtain ⟨gs', t4, G, e4⟩ := F_heights_from_eq (p := 0) (es := (dem n T ts).map revE) h1 (by omega) (by rw [List.length_map]; exact mulb) (by rw [List.length_map]; omega) (by omega) (fun e he => by
      obtain ⟨g, hg, rfl⟩ := List.mem_map.mp he
      exact ⟨(dok g hg).2, (dok g hg).1⟩) (feas_rev hφ) (way_rev T ts h1)
    obtain ⟨t5, e5⟩ := F_laid_eq (L := hs') (T := T) (by rw [H.len]; omega)
    obtain ⟨t6, e6⟩ := F_laid_eq (L := gs'.map fun i => -i) (T := T) (by rw [List.length_map, G.len]; omega)
    refine ev_of e0 ?_
    rw [back_ims rfl]
    walk_at "mir"
    refine ev_of e1 ?_
    rw [back_ims rfl]
    walk_at "mir"
    unfold rgD
    walk_at "mir"
    refine ev_of e2 ?_
    rw [back_ims rfl]
    walk_at "mir"
    refine ev_of e5 ?_
    rw [back_ims rfl]
    walk_at "mir"
    refine ev_lcm (v := negI) ?_
    walk_at "mir"
    refine ev_of e3 ?_
    rw [back_ims rfl]
    walk_at "mir"
    refine ev_of e4 ?_
    rw [back_ims rfl]
    walk_at "mir"
    refine ⟨rfl, by rw [List.length_map, G.len]; exact sizeLine_lt _ (by omega), fun d hd => ?_, ?_⟩
    · obtain ⟨i, _, rfl⟩ := List.mem_map.mp hd
      walk_at "mir"
      exact ⟨rfl, by kernel_rfl, by kernel_rfl⟩
    have e7 : (gs'.map PyData.int).map negI = (gs'.map fun i => -i).map .int := by rw [List.map_map, List.map_map]; rfl
    rw [e7]
    walk_at "mir"
    refine ev_of e6 ?_
    rw [back_ims rfl]
    walk_at "mir"
    refine FO.mk (flatOk_lay ?_) (RT.mk rfl ?_)
    · have l1 := lad_len hs' T
      have l2 := lad_len (gs'.map fun i => -i) T
      have := H.len
      have := G.len
      rw [List.length_map] at l2
      omega
    exact .inl ⟨_, _, ⟨⟨hs', H, rfl⟩, ⟨gs', G, rfl⟩⟩, rfl⟩
  · refine ev_of e0 ?_
    rw [back_ims rfl]
    unfold barOf
    walk_at "mir"
    exact .inr ⟨L, hL, rfl⟩
theorem F_look_at_total_ok {d : D} (h : fromD d 0 = true) : F_look_at_total [.im d] = .ok (.none, [.im d]) := by
  refine ev_eqs (ev_fun ?_)
  unfold g_look_at_total
  walk_at "mir"
  refine ev_of (F_is_from_eq d 0) ?_
  rw [h]
  walk_at "mir"
  exact ⟨rfl, by rw [back_ims rfl]; rfl⟩
theorem F_look_at_total_no {d : D} (h : fromD d 0 = false) : F_look_at_total [.im d] = .err ⟨"NoTotal", []⟩ [.im d] := by
  refine ev_err (ev_fun ?_)
  unfold g_look_at_total
  walk_at "mir"
  refine ev_of (F_is_from_eq d 0) ?_
  rw [h]
  walk_at "mir"
  exact ⟨rfl, by rw [back_ims rfl]; rfl⟩
theorem F_lay_eq {n : Nat} {T : Int} {ts : List Tm} (h1 : 1 ≤ n) (h2 : n ≤ 40) (ht : ∀ t ∈ ts, t.ok n) (hs : ts.length ≤ 10000) (hT : 0 ≤ T) :
    ∃ x t, Told n T ts x ∧ F_lay [.im (rgD n ts), .im (.int T)] = .ok (x, t) := by
  suffices h : Ev (F_lay [.im (rgD n ts), .im (.int T)]) (fun x t => Told n T ts x) fun _ _ => False by
    obtain ⟨x, t, e, q⟩ := ev_eq h; exact ⟨x, t, q, e⟩
  obtain ⟨x, t, q, e⟩ := F_found_lay_eq (T := T) h1 h2 ht hs
  refine ev_fun ?_
  unfold g_lay
  walk_at "mirn"
  refine ev_of (F_look_at_ring_ok (short_of (by omega)) (ringD_ok (by omega) (by omega) ht)) ?_
  rw [back_ims rfl]
  walk_at "mirn"
  refine ev_of (F_look_at_total_ok (by simp [fromD, hT])) ?_
  rw [back_ims rfl]
  walk_at "mirn"
  refine ev_of e (RT.mk ?_ q)
  rcases q with ⟨xs, ys, _, rfl⟩ | ⟨L, _, rfl⟩ <;> rfl
/-! ### what is a bar -/
def whlI : D → Int
  | .int i => i
  | _ => 0
def numD (c : Nat) (d : D) : Bool := match d with
  | .int i => decide (0 ≤ i) && decide (i < (c : Int))
  | _ => false
def ascB (xs : List Int) : Bool := (xs.zip (xs.drop 1)).all fun p => decide (p.1 ≤ p.2)
def numsB (c : Nat) (d : D) : Bool := match d with
  | .list xs => xs.all (numD c) && ascB (xs.map whlI)
  | _ => false
def nI (us : List Nat) : List Int := us.map Int.ofNat
def natsOf (d : D) : List Nat := match d with
  | .list xs => xs.map fun d => (whlI d).toNat
  | _ => []
theorem num_is {c : Nat} {d : D} (h : numD c d = true) : ∃ j : Nat, j < c ∧ d = .int (j : Int) := by
  cases d with
  | int i =>
    have h : (decide (0 ≤ i) && decide (i < (c : Int))) = true := h
    rw [Bool.and_eq_true, decide_eq_true_eq, decide_eq_true_eq] at h
    exact ⟨i.toNat, by omega, by rw [Int.toNat_of_nonneg h.1]⟩
  | _ => exact nomatch h
theorem nums_all {c : Nat} : ∀ {xs : List D}, xs.all (numD c) = true → xs = (nI (natsOf (.list xs))).map .int ∧ (∀ j ∈ natsOf (.list xs), j < c) ∧ xs.map whlI = nI (natsOf (.list xs))
  | [], _ => ⟨rfl, by simp [natsOf], rfl⟩
  | d :: xs, h => by
    rw [List.all_cons, Bool.and_eq_true] at h
    obtain ⟨j, hj, rfl⟩ := num_is h.1
    obtain ⟨h1, h2, h3⟩ := nums_all (xs := xs) h.2
    refine ⟨?_, ?_, ?_⟩
    · show PyData.int (j : Int) :: xs = .int (((j : Int).toNat : Nat) : Int) :: (nI (natsOf (.list xs))).map .int
      rw [← h1, Int.toNat_natCast]
    · intro i hi
      have hi : i ∈ (j : Int).toNat :: natsOf (.list xs) := hi
      rcases List.mem_cons.mp hi with rfl | hi
      · omega
      · exact h2 i hi
    · show (j : Int) :: xs.map whlI = (((j : Int).toNat : Nat) : Int) :: nI (natsOf (.list xs))
      rw [h3, Int.toNat_natCast]
theorem numsB_is {c : Nat} {d : D} (h : numsB c d = true) : d = .list ((nI (natsOf d)).map .int) ∧ (∀ j ∈ natsOf d, j < c) ∧ ascB (nI (natsOf d)) = true := by
  cases d with
  | list xs =>
    have h : (xs.all (numD c) && ascB (xs.map whlI)) = true := h
    rw [Bool.and_eq_true] at h
    obtain ⟨h1, h2, h3⟩ := nums_all h.1
    rw [h3] at h
    exact ⟨congrArg PyData.list h1, h2, h.2⟩
  | _ => exact nomatch h
def leB : D → D
  | .tuple [.int a, .int b] => .bool (decide (a ≤ b))
  | _ => .none
theorem isTy_list_of {d : D} : isTy "list" d = some (.bool (match d with | .list _ => true | _ => false)) := by cases d <;> rfl
/-! ### how often each place is in the stretches of terms -/
def cntP (ps : List Int) (q : Nat) : Int := ((ps.filter fun p => decide (p = (q : Int))).length : Nat)
theorem cntP_app (ps : List Int) (p : Int) (q : Nat) : cntP (ps ++ [p]) q = cntP ps q + (if p = (q : Int) then 1 else 0) := by
  unfold cntP
  rw [List.filter_append, List.length_append]
  by_cases h : p = (q : Int)
  · rw [if_pos h, List.filter_cons, if_pos (decide_eq_true h)]; simp
  · rw [if_neg h, List.filter_cons, if_neg (by simpa using h)]; simp
def covT (m : Int) (ts : List Tm) (q j : Nat) : Int := match ts[j]? with
  | some t => cntP (plc m t.s t.l) q
  | none => 0
def covN (m : Int) (ts : List Tm) (us : List Nat) (q : Nat) : Int := (us.map (covT m ts q)).sum
theorem covN_app (m : Int) (ts : List Tm) (us : List Nat) (j q : Nat) : covN m ts (us ++ [j]) q = covN m ts us q + covT m ts q j := by
  unfold covN
  rw [List.map_append, List.sum_append]; simp
def cL (n : Nat) (f : Nat → Int) : List D := (List.range n).map fun q => .int (f q)
theorem cL_length (n : Nat) (f : Nat → Int) : (cL n f).length = n := by simp [cL]
theorem cL_get {n q : Nat} {f : Nat → Int} (h : q < n) : (cL n f)[q]? = some (.int (f q)) := by
  unfold cL
  rw [List.getElem?_map, List.getElem?_range h]; rfl
theorem cL_congr {n : Nat} {f g : Nat → Int} (h : ∀ q, q < n → f q = g q) : cL n f = cL n g := by
  unfold cL
  apply List.map_congr_left
  intro q hq
  rw [h q (List.mem_range.mp hq)]
theorem cL_zero (n : Nat) : (List.replicate n (0 : Int)).map PyData.int = cL n fun _ => 0 := by
  unfold cL
  apply List.ext_getElem
  · simp
  · intro i h1 h2; simp
theorem cL_set {n p : Nat} {f : Nat → Int} {x : Int} (h : p < n) : (cL n f).set p (.int x) = cL n (updF f p x) := by
  apply List.ext_getElem?
  intro i
  rw [List.getElem?_set, cL_length]
  by_cases hi : i < n
  · rw [cL_get hi]
    by_cases q : p = i
    · subst q
      rw [if_pos rfl, if_pos hi, cL_get hi, updF_same]
    · rw [if_neg q, cL_get hi, updF_ne (fun z => q z.symm)]
  · have a : (cL n f)[i]? = none := List.getElem?_eq_none (by rw [cL_length]; omega)
    have b : (cL n (updF f p x))[i]? = none := List.getElem?_eq_none (by rw [cL_length]; omega)
    rw [a, b, if_neg (by omega)]
theorem cL_step {n : Nat} {f g : Nat → Int} {s p x : Int} {ps : List Int} (h0 : 0 ≤ p) (h1 : p < n) (hx : x = f p.toNat + s) (hk : ∀ q, q < n → f q = g q + s * cntP ps q) :
    ∃ f', (cL n f).set p.toNat (.int x) = cL n f' ∧ ∀ q, q < n → f' q = g q + s * cntP (ps ++ [p]) q := by
  refine ⟨_, cL_set (by omega), fun q hq => ?_⟩
  rw [cntP_app]
  by_cases z : q = p.toNat
  · subst z
    rw [updF_same, hx, hk _ hq, if_pos (by omega), Int.mul_add, Int.mul_one]; omega
  · rw [updF_ne z, hk q hq, if_neg (by omega), Int.add_zero]
theorem ix_term {m : Int} {ts : List Tm} {j : Nat} {t : Tm} (h : ts[j]? = some t) : ixD (.tuple (ts.map Tm.d)) (.int (j : Int)) = some t.d := by
  rw [ixD_tuple]
  refine atI_nat' (by omega) ?_
  rw [Int.toNat_natCast, List.getElem?_map, h]; rfl
theorem ix_termU {m : Int} {ts : List Tm} {j : Nat} {t : Tm} (h : ts[j]? = some t) : ixD (.tuple (ts.map Tm.d)) (.int (j : Int)) = some (.tuple [.int t.s, .int t.l, .int t.lo, oI t.hi]) := ix_term (m := m) h
def hiN (ts : List Tm) (j : Nat) : Option Int := match ts[j]? with
  | some t => t.hi
  | none => none
def loN (ts : List Tm) (j : Nat) : Int := match ts[j]? with
  | some t => t.lo
  | none => 0
def hiV (ts : List Tm) (j : Nat) : Int := (hiN ts j).getD 0
def capB (ts : List Tm) (ws : List Nat) : Bool := ws.all fun j => (hiN ts j).isSome
def fitB (n : Nat) (ts : List Tm) (us ws : List Nat) (r : Int) : Bool := (List.range n).all fun q => decide (covN n ts us q - covN n ts ws q ≤ r)
def sumB (ts : List Tm) (T : Int) (us ws : List Nat) (r : Int) : Bool := decide (r * T < (us.map (loN ts)).sum - (ws.map (hiV ts)).sum)
def restB (n : Nat) (ts : List Tm) (T : Int) (us ws : List Nat) (r : Int) : Bool := capB ts ws && (fitB n ts us ws r && sumB ts T us ws r)
def isBarB (n : Nat) (ts : List Tm) (T : Int) (d : D) : Bool := match d with
  | .tuple [a, b, .int r] => numsB ts.length a && (numsB ts.length b && restB n ts T (natsOf a) (natsOf b) r)
  | _ => false
structure BarSz (d : D) : Prop where
  sz : ∀ a b c, d = .tuple [a, b, c] → (∀ xs, a = .list xs → xs.length ≤ 1000000) ∧ ∀ xs, b = .list xs → xs.length ≤ 1000000
theorem shaped_none : SeqAt.shaped (PyData.none : D) = true := rfl
theorem lay_os : ∀ os : List (Option Int), PyData.canLayAll0 (os.map oI) = true ∧ PyData.depthAll (os.map oI) ≤ 1
  | [] => ⟨rfl, by simp [PyData.depthAll]⟩
  | o :: os => by
    obtain ⟨h1, h2⟩ := lay_os os
    cases o with
    | none => exact ⟨by simp only [List.map_cons, oI, PyData.canLayAll0, PyData.canLay0, h1, Bool.and_self], by simp only [List.map_cons, oI, PyData.depthAll, PyData.depth]; omega⟩
    | some i => exact ⟨by simp only [List.map_cons, oI, PyData.canLayAll0, PyData.canLay0, h1, Bool.and_self], by simp only [List.map_cons, oI, PyData.depthAll, PyData.depth]; omega⟩
theorem in_none (os : List (Option Int)) : inD .none (.list (os.map oI)) = some (.bool (!os.all Option.isSome)) := by
  obtain ⟨h1, h2⟩ := lay_os os
  have sh : SeqAt.shaped (.list (os.map oI)) = true := by
    unfold SeqAt.shaped
    rw [Bool.and_eq_true, decide_eq_true_eq]
    exact ⟨by simp only [PyData.canLay0, h1], by simp only [PyData.depth]; omega⟩
  have sn : SeqAt.shaped (PyData.none : D) = true := by simp [SeqAt.shaped, PyData.canLay0, PyData.depth]
  simp only [inD, sh, sn, Bool.and_self, if_true]
  congr 2
  clear h1 h2 sh sn
  induction os with
  | nil => rfl
  | cons o os ih =>
    rw [List.map_cons, List.any_cons, ih, List.all_cons]
    cases o <;> rfl
theorem nI_mem {us : List Nat} {d : D} (h : d ∈ (nI us).map PyData.int) : ∃ j, j ∈ us ∧ d = .int (j : Int) := by
  obtain ⟨i, hi, rfl⟩ := List.mem_map.mp h
  obtain ⟨j, hj, rfl⟩ := List.mem_map.mp hi
  exact ⟨j, hj, rfl⟩
theorem nI_map (us : List Nat) (f : D → D) : ((nI us).map PyData.int).map f = us.map fun j : Nat => f (.int (j : Int)) := by
  unfold nI; rw [List.map_map, List.map_map]; rfl
theorem nI_len (us : List Nat) : ((nI us).map PyData.int).length = us.length := by simp [nI]
theorem zip_cL (n : Nat) (f g : Nat → Int) : zipL (cL n f) (cL n g) = (List.range n).map fun q => .tuple [.int (f q), .int (g q)] := by
  unfold zipL cL
  rw [List.zip_map_left, List.zip_map_right, List.map_map, List.map_map]
  apply List.ext_getElem
  · simp
  · intro i h1 h2; simp
def dfB (r : Int) : D → D
  | .tuple [.int a, .int b] => .bool (decide (a - b ≤ r))
  | _ => .none
theorem sumD_ints (ns : List Int) : sumD [.list (ns.map .int)] = some (.int ns.sum) := by simp only [sumD, intsD_map, Option.map_some]
/-! ### layings as heights -/
def ind (n q : Nat) : List Int := (List.range n).map fun i => if i = q then 1 else 0
def phi (q x : Nat) : Int := if q < x then 1 else 0
theorem ind_length (n q : Nat) : (ind n q).length = n := by simp [ind]
theorem pre_ind {n q : Nat} : ∀ k, k ≤ n → pre (ind n q) k = phi q k
  | 0, _ => by rw [pre_zero]; simp [phi]
  | k + 1, h => by
    rw [pre_succ (by rw [ind_length]; omega), pre_ind k (by omega)]
    simp only [ind, List.getElem_map, List.getElem_range, phi]
    by_cases h1 : k = q
    · subst h1; rw [if_neg (by omega), if_pos rfl, if_pos (by omega)]; rfl
    · rw [if_neg h1]
      by_cases h2 : q < k
      · rw [if_pos h2, if_pos (by omega)]; rfl
      · rw [if_neg h2, if_neg (by omega)]; rfl
theorem sum_ind {n q : Nat} (hq : q < n) : (ind n q).sum = 1 := by
  rw [← pre_all, ind_length, pre_ind n (Nat.le_refl _)]; unfold phi; rw [if_pos hq]
theorem cnt_stn {n q : Nat} (hn : 0 < n) (s l : Int) : cntP (plc n s l) q = stn (ind n q) s l := by
  unfold stn cntP
  rw [ind_length]
  have H : ∀ ps : List Int, (∀ p ∈ ps, 0 ≤ p ∧ p < n) → (((ps.filter fun p => decide (p = (q : Int))).length : Nat) : Int) = (ps.map fun p => (ind n q).getD p.toNat 0).sum := by
    intro ps
    induction ps with
    | nil => intro _; rfl
    | cons p ps ih =>
      intro h
      have hp := h p (by simp)
      rw [List.filter_cons, List.map_cons, List.sum_cons, ← ih fun x hx => h x (by simp [hx])]
      have e : (ind n q).getD p.toNat 0 = if p = (q : Int) then 1 else 0 := by
        unfold ind
        rw [List.getD_eq_getElem?_getD, List.getElem?_map, List.getElem?_range (by omega), Option.map_some, Option.getD_some]
        by_cases z : p = (q : Int)
        · rw [if_pos z, if_pos (by omega)]
        · rw [if_neg z, if_neg (by omega)]
      rw [e]
      by_cases z : p = (q : Int)
      · rw [if_pos z, if_pos (decide_eq_true z), List.length_cons]; omega
      · rw [if_neg z, if_neg (by simpa using z)]; omega
  exact H _ fun p hp => plc_lt (by omega) hp
theorem stn_pre {n : Nat} {xs : List Int} {t : Tm} (hx : xs.length = n) (h1 : 1 ≤ n) (ht : t.ok n) : stn xs t.s t.l = pre xs (tV n t) + (tR n t : Nat) * xs.sum - pre xs t.s.toNat := by
  have hn : xs ≠ [] := by rintro rfl; simp at hx; omega
  have a := ht.s0; have b := ht.s1
  rw [stn_gs hn ht.s0]
  unfold gs
  rw [hx, Nat.mod_eq_of_lt (show t.s.toNat < n by omega), Nat.div_eq_of_lt (show t.s.toNat < n by omega)]
  unfold tV tR
  simp
theorem cov_phi {n q : Nat} {t : Tm} (h1 : 1 ≤ n) (ht : t.ok n) (hq : q < n) : cntP (plc n t.s t.l) q = (tR n t : Nat) + phi q (tV n t) - phi q t.s.toNat := by
  have a := ht.s0; have b := ht.s1
  have tv : tV n t < n := Nat.mod_lt _ (by omega)
  rw [cnt_stn (by omega), stn_pre (ind_length n q) h1 ht, sum_ind hq, pre_ind (tV n t) (Nat.le_of_lt tv), pre_ind t.s.toNat (by omega)]
  omega
def upE (n : Nat) (T : Int) (j : Nat) (t : Tm) : Eg := ⟨t.s.toNat, tV n t, t.lo - (tR n t : Nat) * T, some j, 1, (tR n t : Nat)⟩
def dnE (n : Nat) (T : Int) (j : Nat) (t : Tm) (h : Int) : Eg := ⟨tV n t, t.s.toNat, -h + (tR n t : Nat) * T, some j, -1, (tR n t : Nat)⟩
def placeE (n : Nat) (T : Int) (p : Nat) : Eg := ⟨p, (p + 1) % n, -(((p + 1) / n : Nat) * T), none, 1, (((p + 1) / n : Nat) : Int)⟩
theorem dem_mem {n : Nat} {T : Int} {ts : List Tm} {e : Eg} (h : e ∈ dem n T ts) : (∃ p, p < n ∧ e = placeE n T p) ∨ ∃ j t, ts[j]? = some t ∧ (e = upE n T j t ∨ ∃ i, t.hi = some i ∧ e = dnE n T j t i) := by
  obtain ⟨g, hg, rfl⟩ := List.mem_map.mp h
  rcases raw_mem hg with ⟨p, hp, rfl⟩ | ⟨j, t, hj, rfl | ⟨i, hi, rfl⟩⟩
  · refine .inl ⟨p, hp, ?_⟩
    unfold lessT plE placeE
    simp
  · refine .inr ⟨j, t, hj, .inl ?_⟩
    unfold lessT upE
    simp only [Eg.mk.injEq, true_and, and_true]
    rw [Int.one_mul]
  · refine .inr ⟨j, t, hj, .inr ⟨i, hi, ?_⟩⟩
    unfold lessT dnE
    simp only [Eg.mk.injEq, true_and, and_true]
    rw [Int.neg_mul, Int.neg_mul, Int.one_mul]; omega
theorem raw_up {n : Nat} {ts : List Tm} {j : Nat} {t : Tm} (h : ts[j]? = some t) : (⟨t.s.toNat, tV n t, t.lo, some j, 1, (tR n t : Nat)⟩ : Eg) ∈ rawN n ts ts.length := by
  unfold rawN
  refine List.mem_append.mpr (.inr (List.mem_flatMap.mpr ⟨j, List.mem_range.mpr (List.getElem?_eq_some_iff.mp h).1, ?_⟩))
  unfold raw1
  rw [h]
  simp
theorem raw_dn {n : Nat} {ts : List Tm} {j : Nat} {t : Tm} {i : Int} (h : ts[j]? = some t) (hi : t.hi = some i) : (⟨tV n t, t.s.toNat, -i, some j, -1, (tR n t : Nat)⟩ : Eg) ∈ rawN n ts ts.length := by
  unfold rawN
  refine List.mem_append.mpr (.inr (List.mem_flatMap.mpr ⟨j, List.mem_range.mpr (List.getElem?_eq_some_iff.mp h).1, ?_⟩))
  unfold raw1
  rw [h]
  simp only [hi]
  simp
theorem dem_up {n : Nat} {T : Int} {ts : List Tm} {j : Nat} {t : Tm} (h : ts[j]? = some t) : upE n T j t ∈ dem n T ts := by
  refine List.mem_map.mpr ⟨_, raw_up (n := n) h, ?_⟩
  unfold lessT upE
  simp only [Eg.mk.injEq, true_and, and_true]
  rw [Int.one_mul]
theorem dem_dn {n : Nat} {T : Int} {ts : List Tm} {j : Nat} {t : Tm} {i : Int} (h : ts[j]? = some t) (hi : t.hi = some i) : dnE n T j t i ∈ dem n T ts := by
  refine List.mem_map.mpr ⟨_, raw_dn (n := n) h hi, ?_⟩
  unfold lessT dnE
  simp only [Eg.mk.injEq, true_and, and_true]
  rw [Int.neg_mul, Int.neg_mul, Int.one_mul]; omega
theorem dem_pl {n p : Nat} {T : Int} {ts : List Tm} (hp : p < n) : placeE n T p ∈ dem n T ts := by
  refine List.mem_map.mpr ⟨plE n p, ?_, ?_⟩
  · unfold rawN
    exact List.mem_append.mpr (.inl (List.mem_map_of_mem (List.mem_range.mpr hp)))
  · unfold lessT plE placeE
    simp
/-- a laying with a total that holds terms -/
structure LayOf (n : Nat) (T : Int) (ts : List Tm) (xs : List Int) : Prop where
  len : xs.length = n
  nn : ∀ x ∈ xs, 0 ≤ x
  sum : xs.sum = T
  hold : hold xs ts
theorem pre_le_all {xs : List Int} (h0 : ∀ x ∈ xs, 0 ≤ x) : ∀ k, pre xs k ≤ xs.sum := by
  intro k
  have up : ∀ d, pre xs k ≤ pre xs (k + d) := by
    intro d
    induction d with
    | zero => exact Int.le_refl _
    | succ d ih => exact Int.le_trans ih (pre_mono h0 _)
  have := up xs.length
  unfold pre at this ⊢
  rw [List.take_of_length_le (show xs.length ≤ k + xs.length by omega)] at this
  exact this
theorem pre_nn {xs : List Int} (h0 : ∀ x ∈ xs, 0 ≤ x) : ∀ k, 0 ≤ pre xs k
  | 0 => by rw [pre_zero]; exact Int.le_refl _
  | k + 1 => Int.le_trans (pre_nn h0 k) (pre_mono h0 k)
theorem LayOf.feas {n : Nat} {T : Int} {ts : List Tm} {xs : List Int} (h : LayOf n T ts xs) (h1 : 1 ≤ n) (ht : ∀ t ∈ ts, t.ok n) : Feas (dem n T ts) (pre xs) := by
  intro e he
  rcases dem_mem he with ⟨p, hp, rfl⟩ | ⟨j, t, hj, rfl | ⟨i, hi, rfl⟩⟩
  · show pre xs p + -(((p + 1) / n : Nat) * T) ≤ pre xs ((p + 1) % n)
    by_cases q : p + 1 < n
    · rw [Nat.mod_eq_of_lt q, Nat.div_eq_of_lt q]
      have := pre_mono h.nn p
      omega
    · rw [show p + 1 = n by omega, Nat.mod_self, Nat.div_self (by omega), pre_zero]
      have := pre_le_all h.nn p
      rw [h.sum] at this
      omega
  · have tm := List.mem_of_getElem? hj
    have a := (badT_iff _ _).mp (h.hold t tm)
    rw [stn_pre h.len h1 (ht t tm), h.sum] at a
    show pre xs t.s.toNat + (t.lo - (tR n t : Nat) * T) ≤ pre xs (tV n t)
    omega
  · have tm := List.mem_of_getElem? hj
    have a := (badT_iff _ _).mp (h.hold t tm)
    rw [stn_pre h.len h1 (ht t tm), h.sum] at a
    have := a.2 i hi
    show pre xs (tV n t) + (-i + (tR n t : Nat) * T) ≤ pre xs t.s.toNat
    omega
/-- heights that meet the demands are those of a laying -/
theorem feas_lay {n : Nat} {T : Int} {ts : List Tm} {hs : List Int} (h1 : 1 ≤ n) (ht : ∀ t ∈ ts, t.ok n) (hl : hs.length = n) (h0 : hF hs 0 = 0) (hf : Feas (dem n T ts) (hF hs)) :
    LayOf n T ts (lad hs T) ∧ ∀ k, k < n → pre (lad hs T) k = hF hs k := by
  let f : Nat → Int := fun k => if k < n then hF hs k else T
  have fn : f n = T := if_neg (Nat.lt_irrefl _)
  have fk : ∀ k, k < n → f k = hF hs k := fun k hk => if_pos hk
  have e1 : hs = (List.range n).map f := by
    apply List.ext_getElem
    · simp [hl]
    · intro k a b
      rw [List.getElem_map, List.getElem_range, fk k (by omega)]
      unfold hF
      rw [List.getD_eq_getElem?_getD, List.getElem?_eq_getElem a]; rfl
  have e2 : lad hs T = (List.range n).map fun k => f (k + 1) - f k := by
    have := lad_range f n
    rw [fn, ← e1] at this
    exact this
  have f0 : f 0 = 0 := by rw [fk 0 h1]; exact h0
  have pk : ∀ k, k ≤ n → pre (lad hs T) k = f k := fun k hk => by rw [e2]; exact pre_diff f f0 n k hk
  have ln : (lad hs T).length = n := by rw [e2]; simp
  have sm : (lad hs T).sum = T := by rw [← pre_all, ln, pk n (Nat.le_refl _), fn]
  refine ⟨⟨ln, fun x hx => ?_, sm, fun t tm => ?_⟩, fun k hk => by rw [pk k (Nat.le_of_lt hk), fk k hk]⟩
  · rw [e2] at hx
    obtain ⟨p, hp, rfl⟩ := List.mem_map.mp hx
    have hp := List.mem_range.mp hp
    have q := hf _ (dem_pl (T := T) (ts := ts) hp)
    have q : hF hs p + -(((p + 1) / n : Nat) * T) ≤ hF hs ((p + 1) % n) := q
    rw [← fk p hp, ← fk _ (Nat.mod_lt _ (by omega))] at q
    show 0 ≤ f (p + 1) - f p
    by_cases z : p + 1 < n
    · rw [Nat.mod_eq_of_lt z, Nat.div_eq_of_lt z] at q
      omega
    · rw [show p + 1 = n by omega, Nat.mod_self, Nat.div_self (by omega), f0] at q
      rw [show p + 1 = n by omega, fn]
      omega
  · obtain ⟨j, hj, rfl⟩ := List.getElem_of_mem tm
    have hj2 : ts[j]? = some ts[j] := List.getElem?_eq_getElem hj
    generalize ts[j] = t at hj2 tm
    have ok := ht t tm
    have a := ok.s0; have b := ok.s1
    have tv : tV n t < n := Nat.mod_lt _ (by omega)
    rw [badT_iff, stn_pre ln h1 ok, sm, pk _ (Nat.le_of_lt tv), pk _ (by omega), fk _ tv, fk _ (by omega)]
    refine ⟨?_, fun i hi => ?_⟩
    · have q := hf _ (dem_up (n := n) (T := T) hj2)
      have q : hF hs t.s.toNat + (t.lo - (tR n t : Nat) * T) ≤ hF hs (tV n t) := q
      omega
    · have q := hf _ (dem_dn (n := n) (T := T) hj2 hi)
      have q : hF hs (tV n t) + (-i + (tR n t : Nat) * T) ≤ hF hs t.s.toNat := q
      omega
theorem loop_feas {n : Nat} {es L : List Eg} {φ : Nat → Int} (hL : Loop n es L) (hφ : Feas es φ) : False := by
  have m := hL.more
  have z := hL.round φ
  have le : ∀ M : List Eg, (∀ e ∈ M, e ∈ es) → (M.map fun e => e.w).sum + (M.map fun e => φ e.u - φ e.v).sum ≤ 0 := by
    intro M
    induction M with
    | nil => intro _; simp
    | cons g M ih =>
      intro hM
      have a1 := ih fun e he => hM e (by simp [he])
      have a2 := hφ g (hM g (by simp))
      simp only [List.map_cons, List.sum_cons]
      omega
  have := le _ hL.mem
  omega
theorem loop_bars {n : Nat} {T : Int} {ts : List Tm} {L : List Eg} {xs : List Int} (h1 : 1 ≤ n) (ht : ∀ t ∈ ts, t.ok n) (hL : Loop n (dem n T ts) L) : ¬ LayOf n T ts xs :=
  fun h => loop_feas hL (h.feas h1 ht)
/-- the latest and the earliest of all layings -/
structure Ends (n : Nat) (T : Int) (ts : List Tm) (xs ys : List Int) : Prop where
  a : LayOf n T ts xs
  b : LayOf n T ts ys
  low : ∀ zs, LayOf n T ts zs → ∀ k, pre xs k ≤ pre zs k
  up : ∀ zs, LayOf n T ts zs → ∀ k, pre zs k ≤ pre ys k
theorem pre_past {xs : List Int} {k : Nat} (h : xs.length ≤ k) : pre xs k = xs.sum := by
  unfold pre; rw [List.take_of_length_le h]
theorem hF_neg (gs : List Int) (x : Nat) : hF (gs.map fun i => -i) x = -hF gs x := by
  unfold hF
  rw [List.getD_eq_getElem?_getD, List.getD_eq_getElem?_getD, List.getElem?_map]
  cases gs[x]? <;> rfl
theorem Laid.ends {n : Nat} {T : Int} {ts : List Tm} {xs ys : List Int} (h : Laid n T ts xs ys) (h1 : 1 ≤ n) (ht : ∀ t ∈ ts, t.ok n) : Ends n T ts xs ys := by
  obtain ⟨⟨hs, H, rfl⟩, gs, G, rfl⟩ := h
  obtain ⟨A, pa⟩ := feas_lay h1 ht H.len H.home H.feas
  have gf : Feas (dem n T ts) (hF (gs.map fun i => -i)) := by
    intro e he
    have := G.feas (revE e) (List.mem_map_of_mem he)
    have : hF gs e.v + e.w ≤ hF gs e.u := this
    rw [hF_neg, hF_neg]
    omega
  obtain ⟨B, pb⟩ := feas_lay h1 ht (hs := gs.map fun i => -i) (by rw [List.length_map]; exact G.len) (by rw [hF_neg, G.home]; rfl) gf
  refine ⟨A, B, fun zs hz k => ?_, fun zs hz k => ?_⟩
  · by_cases q : k < n
    · rw [pa k q]
      have := H.low _ (hz.feas h1 ht) k q
      rw [pre_zero] at this
      omega
    · rw [pre_past (xs := lad hs T) (by rw [A.len]; omega), pre_past (xs := zs) (by rw [hz.len]; omega), A.sum, hz.sum]
      exact Int.le_refl _
  · by_cases q : k < n
    · rw [pb k q, hF_neg]
      have := G.low _ (feas_rev (hz.feas h1 ht)) k q
      rw [pre_zero] at this
      omega
    · rw [pre_past (xs := lad (gs.map fun i => -i) T) (by rw [B.len]; omega), pre_past (xs := zs) (by rw [hz.len]; omega), B.sum, hz.sum]
      exact Int.le_refl _
/-! ### bars that are found are bars -/
def upsN (L : List Eg) : List Nat := (L.filter fun e => e.t.isSome && decide (e.way = 1)).map fun e => e.t.getD 0
def dnsN (L : List Eg) : List Nat := (L.filter fun e => decide (e.way = -1)).map fun e => e.t.getD 0
theorem upsL_eq (L : List Eg) : upsL L = nI (upsN L) := by unfold upsL upsN nI; rw [List.map_map]; rfl
theorem dnL_eq (L : List Eg) : dnL L = nI (dnsN L) := by unfold dnL dnsN nI; rw [List.map_map]; rfl
def srtN (us : List Nat) : List Nat := (sortI (nI us)).map Int.toNat
theorem nI_toNat (us : List Nat) : (nI us).map Int.toNat = us := by
  unfold nI; rw [List.map_map]
  exact (List.map_congr_left (g := id) fun i _ => rfl).trans (List.map_id us)
theorem srtN_perm (us : List Nat) : (srtN us).Perm us := by
  have := (sortI_perm (nI us)).map Int.toNat
  rw [nI_toNat] at this
  exact this
theorem nI_srt (us : List Nat) : nI (srtN us) = sortI (nI us) := by
  unfold srtN nI
  rw [List.map_map]
  refine (List.map_congr_left (g := id) fun i hi => ?_).trans (List.map_id _)
  have := (sortI_perm (us.map Int.ofNat)).mem_iff.mp hi
  obtain ⟨j, _, rfl⟩ := List.mem_map.mp this
  rfl
def barD (us ws : List Nat) (r : Int) : D := .tuple [.list ((nI us).map .int), .list ((nI ws).map .int), .int r]
theorem barOf_eq (L : List Eg) : barOf L = barD (srtN (upsN L)) (srtN (dnsN L)) (rdL L) := by
  unfold barOf barD
  rw [nI_srt, nI_srt, upsL_eq, dnL_eq]
theorem ascB_cons2 (x y : Int) (r : List Int) : ascB (x :: y :: r) = (decide (x ≤ y) && ascB (y :: r)) := by
  unfold ascB
  simp only [List.drop_succ_cons, List.drop_zero, List.zip_cons_cons, List.all_cons]
theorem ascB_of : ∀ {xs : List Int}, xs.Pairwise (· ≤ ·) → ascB xs = true
  | [], _ => rfl
  | [_], _ => rfl
  | x :: y :: r, h => by
    rw [List.pairwise_cons] at h
    rw [ascB_cons2, ascB_of h.2, decide_eq_true (h.1 y (by simp))]; rfl
theorem ascB_is : ∀ {xs : List Int}, ascB xs = true → xs.Pairwise (· ≤ ·)
  | [], _ => List.Pairwise.nil
  | [_], _ => List.pairwise_singleton _ _
  | x :: y :: r, h => by
    rw [ascB_cons2, Bool.and_eq_true, decide_eq_true_eq] at h
    have ih := ascB_is h.2
    refine List.pairwise_cons.mpr ⟨fun z hz => ?_, ih⟩
    rcases List.mem_cons.mp hz with rfl | hz
    · exact h.1
    · have := (List.pairwise_cons.mp ih).1 z hz
      omega
theorem isum_perm {xs ys : List Int} (h : xs.Perm ys) : xs.sum = ys.sum := by
  induction h with
  | nil => rfl
  | cons x _ ih => simp only [List.sum_cons, ih]
  | swap x y l => simp only [List.sum_cons]; omega
  | trans _ _ h1 h2 => rw [h1, h2]
theorem covN_perm {m : Int} {ts : List Tm} {us ws : List Nat} (h : us.Perm ws) (q : Nat) : covN m ts us q = covN m ts ws q := isum_perm (h.map _)
theorem rdL_cons (e : Eg) (M : List Eg) : rdL (e :: M) = e.way * e.r + rdL M := rfl
theorem cov_loop {n q : Nat} {T : Int} {ts : List Tm} (h1 : 1 ≤ n) (ht : ∀ t ∈ ts, t.ok n) (hq : q < n) : ∀ M : List Eg, (∀ e ∈ M, e ∈ dem n T ts) →
    covN n ts (upsN M) q - covN n ts (dnsN M) q ≤ rdL M - (M.map fun e => phi q e.u - phi q e.v).sum
  | [], _ => by simp [upsN, dnsN, covN, rdL]
  | e :: M, h => by
    have ih := cov_loop h1 ht hq M fun e he => h e (by simp [he])
    rw [rdL_cons, List.map_cons, List.sum_cons]
    rcases dem_mem (h e (by simp)) with ⟨p, hp, rfl⟩ | ⟨j, t, hj, rfl | ⟨i, hi, rfl⟩⟩
    · have a : upsN (placeE n T p :: M) = upsN M := by simp [upsN, placeE]
      have b : dnsN (placeE n T p :: M) = dnsN M := by simp [dnsN, placeE]
      rw [a, b]
      show _ ≤ 1 * (((p + 1) / n : Nat) : Int) + rdL M - (phi q p - phi q ((p + 1) % n) + _)
      have k : 0 ≤ (((p + 1) / n : Nat) : Int) + phi q ((p + 1) % n) - phi q p := by
        unfold phi
        by_cases z : p + 1 < n
        · rw [Nat.mod_eq_of_lt z, Nat.div_eq_of_lt z]
          by_cases w : q < p
          · rw [if_pos w, if_pos (by omega)]; omega
          · rw [if_neg w]; split <;> omega
        · rw [show p + 1 = n by omega, Nat.mod_self, Nat.div_self (by omega)]
          split <;> split <;> omega
      omega
    · have a : upsN (upE n T j t :: M) = j :: upsN M := by simp [upsN, upE]
      have b : dnsN (upE n T j t :: M) = dnsN M := by simp [dnsN, upE]
      rw [a, b]
      have c : covN n ts (j :: upsN M) q = covT n ts q j + covN n ts (upsN M) q := by simp [covN]
      have d : covT n ts q j = (tR n t : Nat) + phi q (tV n t) - phi q t.s.toNat := by
        unfold covT
        rw [hj]
        exact cov_phi h1 (ht t (List.mem_of_getElem? hj)) hq
      rw [c, d]
      show _ ≤ 1 * ((tR n t : Nat) : Int) + rdL M - (phi q t.s.toNat - phi q (tV n t) + _)
      omega
    · have a : upsN (dnE n T j t i :: M) = upsN M := by simp [upsN, dnE]
      have b : dnsN (dnE n T j t i :: M) = j :: dnsN M := by simp [dnsN, dnE]
      rw [a, b]
      have c : covN n ts (j :: dnsN M) q = covT n ts q j + covN n ts (dnsN M) q := by simp [covN]
      have d : covT n ts q j = (tR n t : Nat) + phi q (tV n t) - phi q t.s.toNat := by
        unfold covT
        rw [hj]
        exact cov_phi h1 (ht t (List.mem_of_getElem? hj)) hq
      rw [c, d]
      show _ ≤ -1 * ((tR n t : Nat) : Int) + rdL M - (phi q (tV n t) - phi q t.s.toNat + _)
      omega
theorem dem_loop {n : Nat} {T : Int} {ts : List Tm} : ∀ M : List Eg, (∀ e ∈ M, e ∈ dem n T ts) →
    (M.map fun e => e.w).sum = ((upsN M).map (loN ts)).sum - ((dnsN M).map (hiV ts)).sum - rdL M * T
  | [], _ => by simp [upsN, dnsN, rdL]
  | e :: M, h => by
    have ih := dem_loop M fun e he => h e (by simp [he])
    rw [rdL_cons, List.map_cons, List.sum_cons, ih, Int.add_mul]
    rcases dem_mem (h e (by simp)) with ⟨p, hp, rfl⟩ | ⟨j, t, hj, rfl | ⟨i, hi, rfl⟩⟩
    · have a : upsN (placeE n T p :: M) = upsN M := by simp [upsN, placeE]
      have b : dnsN (placeE n T p :: M) = dnsN M := by simp [dnsN, placeE]
      rw [a, b]
      show -((((p + 1) / n : Nat) : Int) * T) + _ = _ - (1 * (((p + 1) / n : Nat) : Int) * T + _)
      rw [Int.one_mul]
      omega
    · have a : upsN (upE n T j t :: M) = j :: upsN M := by simp [upsN, upE]
      have b : dnsN (upE n T j t :: M) = dnsN M := by simp [dnsN, upE]
      rw [a, b, List.map_cons, List.sum_cons]
      have d : loN ts j = t.lo := by unfold loN; rw [hj]
      rw [d]
      show (t.lo - (tR n t : Nat) * T) + _ = _ - (1 * ((tR n t : Nat) : Int) * T + _)
      rw [Int.one_mul]
      omega
    · have a : upsN (dnE n T j t i :: M) = upsN M := by simp [upsN, dnE]
      have b : dnsN (dnE n T j t i :: M) = j :: dnsN M := by simp [dnsN, dnE]
      rw [a, b, List.map_cons, List.sum_cons]
      have d : hiV ts j = i := by unfold hiV hiN; rw [hj]; simp [hi]
      rw [d]
      show (-i + (tR n t : Nat) * T) + _ = _ - (-1 * ((tR n t : Nat) : Int) * T + _)
      rw [Int.neg_mul, Int.neg_mul, Int.one_mul]
      omega
/-- a bar -/
structure Bar (n : Nat) (T : Int) (ts : List Tm) (us ws : List Nat) (r : Int) : Prop where
  up : ∀ j ∈ us, j < ts.length
  dn : ∀ j ∈ ws, j < ts.length
  ua : ascB (nI us) = true
  wa : ascB (nI ws) = true
  cap : capB ts ws = true
  fit : fitB n ts us ws r = true
  more : sumB ts T us ws r = true
structure Short (n : Nat) (us ws : List Nat) (r : Int) : Prop where
  ud : us.Nodup
  wd : ws.Nodup
  len : us.length + ws.length ≤ n
  r0 : -(2 * n) ≤ r
  r1 : r ≤ 2 * n
theorem numsB_mk (c : Nat) (us : List Nat) : numsB c (.list ((nI us).map .int)) = (us.all (fun j => decide (j < c)) && ascB (nI us)) := by
  show (((nI us).map PyData.int).all (numD c) && ascB (((nI us).map PyData.int).map whlI)) = _
  have a : ((nI us).map PyData.int).map whlI = nI us := by
    rw [List.map_map]
    exact (List.map_congr_left (g := id) fun i _ => rfl).trans (List.map_id _)
  have b : ((nI us).map PyData.int).all (numD c) = us.all fun j => decide (j < c) := by
    unfold nI
    rw [List.all_map, List.all_map]
    congr 1
    funext j
    show (decide ((0 : Int) ≤ (j : Int)) && decide ((j : Int) < (c : Int))) = decide (j < c)
    rw [decide_eq_true (Int.natCast_nonneg j), Bool.true_and, Bool.eq_iff_iff, decide_eq_true_eq, decide_eq_true_eq]
    omega
  rw [a, b]
theorem natsOf_mk (us : List Nat) : natsOf (.list ((nI us).map .int)) = us := by
  show ((nI us).map PyData.int).map (fun d => (whlI d).toNat) = us
  rw [List.map_map]
  exact nI_toNat us
theorem isBarB_iff {n : Nat} {T : Int} {ts : List Tm} {us ws : List Nat} {r : Int} : isBarB n ts T (barD us ws r) = true ↔ Bar n T ts us ws r := by
  show (numsB ts.length _ && (numsB ts.length _ && restB n ts T (natsOf _) (natsOf _) r)) = true ↔ _
  rw [numsB_mk, numsB_mk, natsOf_mk, natsOf_mk]
  unfold restB
  simp only [Bool.and_eq_true, List.all_eq_true, decide_eq_true_eq]
  constructor
  · rintro ⟨⟨a, b⟩, ⟨c, d⟩, e, f, g⟩
    exact ⟨a, c, b, d, e, f, g⟩
  · rintro ⟨a, c, b, d, e, f, g⟩
    exact ⟨⟨a, b⟩, ⟨c, d⟩, e, f, g⟩
theorem isBarB_is {n : Nat} {T : Int} {ts : List Tm} {d : D} (h : isBarB n ts T d = true) : ∃ us ws r, d = barD us ws r := by
  unfold isBarB at h
  split at h
  · rename_i a b r
    rw [Bool.and_eq_true, Bool.and_eq_true] at h
    refine ⟨natsOf a, natsOf b, r, ?_⟩
    unfold barD
    rw [← (numsB_is h.1).1, ← (numsB_is h.2.1).1]
  · cases h
theorem bar_of_loop {n : Nat} {T : Int} {ts : List Tm} {L : List Eg} (h1 : 1 ≤ n) (ht : ∀ t ∈ ts, t.ok n) (hL : Loop n (dem n T ts) L) : ∃ us ws r, barOf L = barD us ws r ∧ Bar n T ts us ws r ∧ Short n us ws r := by
  have ok : ∀ e ∈ L, EgOk n ts.length e := fun e he => dem_ok h1 ht (hL.mem e he)
  have pu := srtN_perm (upsN L)
  have pw := srtN_perm (dnsN L)
  have asc : ∀ us, ascB (nI (srtN us)) = true := fun us => by rw [nI_srt]; exact ascB_of (sortI_sorted _)
  have mu : ∀ j ∈ upsN L, ∃ e ∈ L, e.t = some j ∧ e.way = 1 := fun j hj => by
    obtain ⟨e, he, rfl⟩ := List.mem_map.mp hj
    obtain ⟨a, b⟩ := List.mem_filter.mp he
    rw [Bool.and_eq_true, decide_eq_true_eq] at b
    obtain ⟨k, hk⟩ := Option.isSome_iff_exists.mp b.1
    exact ⟨e, a, by rw [hk]; rfl, b.2⟩
  have mw : ∀ j ∈ dnsN L, ∃ e ∈ L, e.t = some j ∧ e.way = -1 := fun j hj => by
    obtain ⟨e, he, rfl⟩ := List.mem_map.mp hj
    obtain ⟨a, b⟩ := List.mem_filter.mp he
    rw [decide_eq_true_eq] at b
    cases hk : e.t with
    | none => exact absurd hk ((ok e a).dn b)
    | some k => exact ⟨e, a, hk, b⟩
  have same : ∀ e ∈ L, ∀ e' ∈ L, ∀ j, e.t = some j → e'.t = some j → e.way = e'.way → e.v = e'.v := by
    intro e he e' he' j hj hj' hw
    rcases dem_mem (hL.mem e he) with ⟨p, hp, rfl⟩ | ⟨i, t, hi, rfl | ⟨h, hh, rfl⟩⟩
    · cases hj
    · rcases dem_mem (hL.mem e' he') with ⟨p, hp, rfl⟩ | ⟨i', t', hi', rfl | ⟨h', hh', rfl⟩⟩
      · cases hj'
      · cases hj; cases hj'
        rw [hi] at hi'; cases hi'; rfl
      · exact absurd (show (1 : Int) = -1 from hw) (by decide)
    · rcases dem_mem (hL.mem e' he') with ⟨p, hp, rfl⟩ | ⟨i', t', hi', rfl | ⟨h', hh', rfl⟩⟩
      · cases hj'
      · exact absurd (show (-1 : Int) = 1 from hw) (by decide)
      · cases hj; cases hj'
        rw [hi] at hi'; cases hi'; rfl
  have nd := List.pairwise_map.mp hL.nd
  have du : (upsN L).Nodup := by
    refine List.pairwise_map.mpr (List.Pairwise.imp_of_mem (R := fun a b : Eg => a.v ≠ b.v) ?_ (nd.sublist List.filter_sublist))
    intro e e' he he' hne q
    obtain ⟨a, b⟩ := List.mem_filter.mp he
    obtain ⟨a', b'⟩ := List.mem_filter.mp he'
    rw [Bool.and_eq_true, decide_eq_true_eq] at b b'
    obtain ⟨k, hk⟩ := Option.isSome_iff_exists.mp b.1
    obtain ⟨k', hk'⟩ := Option.isSome_iff_exists.mp b'.1
    rw [hk, hk'] at q
    have q : k = k' := q
    exact hne (same e a e' a' k hk (by rw [hk', q]) (by rw [b.2, b'.2]))
  have dw : (dnsN L).Nodup := by
    refine List.pairwise_map.mpr (List.Pairwise.imp_of_mem (R := fun a b : Eg => a.v ≠ b.v) ?_ (nd.sublist List.filter_sublist))
    intro e e' he he' hne q
    obtain ⟨a, b⟩ := List.mem_filter.mp he
    obtain ⟨a', b'⟩ := List.mem_filter.mp he'
    rw [decide_eq_true_eq] at b b'
    cases hk : e.t with
    | none => exact (ok e a).dn b hk
    | some k =>
      cases hk' : e'.t with
      | none => exact (ok e' a').dn b' hk'
      | some k' =>
        rw [hk, hk'] at q
        have q : k = k' := q
        exact hne (same e a e' a' k hk (by rw [hk', q]) (by rw [b, b']))
  have rb : -(2 * (n : Int)) ≤ rdL L ∧ rdL L ≤ 2 * n := by
    have this : ∀ M : List Eg, (∀ e ∈ M, EgOk n ts.length e) → -(2 * (M.length : Int)) ≤ rdL M ∧ rdL M ≤ 2 * M.length := by
      intro M
      induction M with
      | nil => intro _; simp [rdL]
      | cons e M ih =>
        intro h
        have ih := ih fun e he => h e (by simp [he])
        have k := h e (by simp)
        have k1 := k.r0; have k2 := k.r1
        rw [rdL_cons, List.length_cons]
        rcases k.way with w | w <;> rw [w] <;> omega
    have a := this L ok
    have b := hL.len
    exact ⟨by omega, by omega⟩
  refine ⟨_, _, _, barOf_eq L, ⟨fun j hj => ?_, fun j hj => ?_, asc _, asc _, ?_, ?_, ?_⟩, ⟨pu.symm.nodup du, pw.symm.nodup dw, ?_, rb.1, rb.2⟩⟩
  · obtain ⟨e, he, h, _⟩ := mu j (pu.mem_iff.mp hj)
    exact (ok e he).t j h
  · obtain ⟨e, he, h, _⟩ := mw j (pw.mem_iff.mp hj)
    exact (ok e he).t j h
  · refine List.all_eq_true.mpr fun j hj => ?_
    obtain ⟨e, he, h, hw⟩ := mw j (pw.mem_iff.mp hj)
    rcases dem_mem (hL.mem e he) with ⟨p, hp, rfl⟩ | ⟨i, t, hi, rfl | ⟨x, hx, rfl⟩⟩
    · cases h
    · exact absurd (show (1 : Int) = -1 from hw) (by decide)
    · cases h
      unfold hiN
      rw [hi]
      simp [hx]
  · refine List.all_eq_true.mpr fun q hq => decide_eq_true ?_
    rw [covN_perm pu, covN_perm pw]
    have := cov_loop h1 ht (List.mem_range.mp hq) L hL.mem
    rw [hL.round (phi q)] at this
    omega
  · refine decide_eq_true ?_
    have := dem_loop L hL.mem
    have m := hL.more
    rw [isum_perm (pu.map (loN ts)), isum_perm (pw.map (hiV ts))]
    omega
  · rw [pu.length_eq, pw.length_eq]
    refine Nat.le_trans ?_ hL.len
    unfold upsN dnsN
    rw [List.length_map, List.length_map]
    clear nd du dw pu pw mu mw same hL rb
    induction L with
    | nil => exact Nat.le_refl _
    | cons e L ih =>
      have ih := ih fun e he => ok e (by simp [he])
      rw [List.filter_cons, List.filter_cons, List.length_cons]
      rcases (ok e (by simp)).way with w | w <;> rw [w] <;> cases e.t.isSome <;> simp <;> omega
def brdD (us ws : List Nat) (r : Int) : D := .tuple [.str "barred", barD us ws r]
/-- what lay tells -/
theorem Told.is {n : Nat} {T : Int} {ts : List Tm} {x : D} (h : Told n T ts x) (h1 : 1 ≤ n) (ht : ∀ t ∈ ts, t.ok n) :
    (∃ xs ys, Ends n T ts xs ys ∧ x = layD2 xs ys) ∨ ∃ us ws r, Bar n T ts us ws r ∧ Short n us ws r ∧ (∀ zs, ¬ LayOf n T ts zs) ∧ x = brdD us ws r := by
  rcases h with ⟨xs, ys, h, rfl⟩ | ⟨L, hL, rfl⟩
  · exact .inl ⟨xs, ys, h.ends h1 ht, rfl⟩
  · obtain ⟨us, ws, r, e, B, S⟩ := bar_of_loop h1 ht hL
    exact .inr ⟨us, ws, r, B, S, fun zs => loop_bars h1 ht hL, by unfold barD2 brdD; rw [e]⟩
/-! ### sums over all places; what a bar bars -/
def rsum (n : Nat) (f : Nat → Int) : Int := ((List.range n).map f).sum
theorem rsum_zero (f : Nat → Int) : rsum 0 f = 0 := rfl
theorem rsum_succ (n : Nat) (f : Nat → Int) : rsum (n + 1) f = rsum n f + f n := by
  unfold rsum
  rw [List.range_succ, List.map_append, List.sum_append]
  simp
theorem rsum_add (n : Nat) (f g : Nat → Int) : rsum n (fun q => f q + g q) = rsum n f + rsum n g := by
  induction n with
  | zero => rfl
  | succ n ih => rw [rsum_succ, rsum_succ, rsum_succ, ih]; omega
theorem rsum_sub (n : Nat) (f g : Nat → Int) : rsum n (fun q => f q - g q) = rsum n f - rsum n g := by
  induction n with
  | zero => rfl
  | succ n ih => rw [rsum_succ, rsum_succ, rsum_succ, ih]; omega
theorem rsum_mul (n : Nat) (f : Nat → Int) (r : Int) : rsum n (fun q => f q * r) = rsum n f * r := by
  induction n with
  | zero => simp [rsum_zero]
  | succ n ih => rw [rsum_succ, rsum_succ, ih, Int.add_mul]
theorem rsum_le {n : Nat} {f g : Nat → Int} (h : ∀ q, q < n → f q ≤ g q) : rsum n f ≤ rsum n g := by
  induction n with
  | zero => exact Int.le_refl _
  | succ n ih =>
    have := ih fun q hq => h q (by omega)
    have := h n (by omega)
    rw [rsum_succ, rsum_succ]; omega
theorem rsum_congr {n : Nat} {f g : Nat → Int} (h : ∀ q, q < n → f q = g q) : rsum n f = rsum n g := by
  apply Int.le_antisymm
  · exact rsum_le fun q hq => Int.le_of_eq (h q hq)
  · exact rsum_le fun q hq => Int.le_of_eq (h q hq).symm
theorem rsum_one {n p : Nat} (f : Nat → Int) (hp : p < n) : rsum n (fun q => f q * (if p = q then 1 else 0)) = f p := by
  induction n with
  | zero => omega
  | succ n ih =>
    rw [rsum_succ]
    by_cases h : p = n
    · subst h
      rw [if_pos rfl, Int.mul_one]
      have : rsum p (fun q => f q * (if p = q then 1 else 0)) = rsum p fun _ => 0 := rsum_congr fun q hq => by rw [if_neg (by omega), Int.mul_zero]
      rw [this]
      have z : ∀ m, rsum m (fun _ => 0) = 0 := fun m => by
        induction m with
        | zero => rfl
        | succ m ih => rw [rsum_succ, ih]; rfl
      rw [z]; omega
    · rw [ih (by omega), if_neg (by omega), Int.mul_zero]; omega
theorem pre_rsum (xs : List Int) : ∀ k, pre xs k = rsum k fun q => xs.getD q 0
  | 0 => by rw [pre_zero]; rfl
  | k + 1 => by
    rw [rsum_succ, ← pre_rsum xs k]
    by_cases h : k < xs.length
    · rw [pre_succ h, List.getD_eq_getElem?_getD, List.getElem?_eq_getElem h]; rfl
    · unfold pre
      rw [List.take_of_length_le (by omega), List.take_of_length_le (by omega), List.getD_eq_getElem?_getD, List.getElem?_eq_none (by omega)]
      simp
theorem sum_rsum {xs : List Int} {n : Nat} (h : xs.length = n) : xs.sum = rsum n fun q => xs.getD q 0 := by
  rw [← pre_rsum, ← h, pre_all]
theorem cntP_cons (p : Int) (ps : List Int) (q : Nat) : cntP (p :: ps) q = cntP ps q + (if p = (q : Int) then 1 else 0) := by
  unfold cntP
  rw [List.filter_cons]
  by_cases h : p = (q : Int)
  · rw [if_pos h, if_pos (decide_eq_true h), List.length_cons]; omega
  · rw [if_neg h, if_neg (by simpa using h)]; omega
theorem places_rsum {n : Nat} (f : Nat → Int) : ∀ {ps : List Int}, (∀ p ∈ ps, 0 ≤ p ∧ p < (n : Int)) → (ps.map fun p => f p.toNat).sum = rsum n fun q => f q * cntP ps q
  | [], _ => by
    have : ∀ m, rsum m (fun q => f q * cntP [] q) = 0 := fun m => by
      induction m with
      | zero => rfl
      | succ m ih => rw [rsum_succ, ih]; simp [cntP]
    rw [this]; rfl
  | p :: ps, h => by
    obtain ⟨p0, p1⟩ := h p (by simp)
    rw [List.map_cons, List.sum_cons, places_rsum f fun x hx => h x (by simp [hx])]
    have e : rsum n (fun q => f q * cntP (p :: ps) q) = rsum n (fun q => f q * cntP ps q) + rsum n (fun q => f q * (if p.toNat = q then 1 else 0)) := by
      rw [← rsum_add]
      refine rsum_congr fun q _ => ?_
      rw [cntP_cons, Int.mul_add]
      by_cases z : p = (q : Int)
      · rw [if_pos z, if_pos (by omega)]
      · rw [if_neg z, if_neg (by omega)]
    rw [e, rsum_one f (by omega)]; omega
theorem stn_rsum {n : Nat} {xs : List Int} (hx : xs.length = n) (h1 : 1 ≤ n) (s l : Int) : stn xs s l = rsum n fun q => xs.getD q 0 * cntP (plc n s l) q := by
  unfold stn
  rw [hx]
  exact places_rsum (fun q => xs.getD q 0) fun p hp => plc_lt (by omega) hp
theorem getD_nn {xs : List Int} (h : ∀ x ∈ xs, 0 ≤ x) (q : Nat) : 0 ≤ xs.getD q 0 := by
  rw [List.getD_eq_getElem?_getD]
  cases e : xs[q]? with
  | none => exact Int.le_refl _
  | some x => exact h x (List.mem_of_getElem? e)
def stT (xs : List Int) (ts : List Tm) (j : Nat) : Int := match ts[j]? with
  | some t => stn xs t.s t.l
  | none => 0
theorem stT_rsum {n : Nat} {xs : List Int} {ts : List Tm} (hx : xs.length = n) (h1 : 1 ≤ n) (j : Nat) : stT xs ts j = rsum n fun q => xs.getD q 0 * covT n ts q j := by
  unfold stT covT
  cases ts[j]? with
  | some t => exact stn_rsum hx h1 t.s t.l
  | none =>
    have : ∀ m, rsum m (fun q => xs.getD q 0 * 0) = 0 := fun m => by
      induction m with
      | zero => rfl
      | succ m ih => rw [rsum_succ, ih]; simp
    exact (this n).symm
theorem covN_cons (m : Int) (ts : List Tm) (j : Nat) (us : List Nat) (q : Nat) : covN m ts (j :: us) q = covT m ts q j + covN m ts us q := by simp [covN]
theorem stones_rsum {n : Nat} {xs : List Int} {ts : List Tm} (hx : xs.length = n) (h1 : 1 ≤ n) : ∀ us : List Nat, (us.map (stT xs ts)).sum = rsum n fun q => xs.getD q 0 * covN n ts us q
  | [] => by
    have : ∀ m, rsum m (fun q => xs.getD q 0 * covN n ts [] q) = 0 := fun m => by
      induction m with
      | zero => rfl
      | succ m ih => rw [rsum_succ, ih]; simp [covN]
    rw [this]; rfl
  | j :: us => by
    rw [List.map_cons, List.sum_cons, stones_rsum hx h1 us, stT_rsum hx h1, ← rsum_add]
    refine rsum_congr fun q _ => ?_
    rw [covN_cons, Int.mul_add]
theorem Bar.at {n : Nat} {T T' : Int} {ts : List Tm} {us ws : List Nat} {r : Int} (B : Bar n T ts us ws r) (h : r * T' ≤ r * T) : Bar n T' ts us ws r := by
  have m := of_decide_eq_true B.more
  exact ⟨B.up, B.dn, B.ua, B.wa, B.cap, B.fit, decide_eq_true (by omega)⟩
theorem bar_sound {n : Nat} {T : Int} {ts : List Tm} {us ws : List Nat} {r : Int} {xs : List Int} (h1 : 1 ≤ n) (B : Bar n T ts us ws r) : ¬ LayOf n T ts xs := by
  intro L
  have m := of_decide_eq_true B.more
  have tt : ∀ j, j < ts.length → ∃ t, ts[j]? = some t := fun j hj => ⟨_, List.getElem?_eq_getElem hj⟩
  have lo : ∀ us : List Nat, (∀ j ∈ us, j < ts.length) → (us.map (loN ts)).sum ≤ (us.map (stT xs ts)).sum := by
    intro us
    induction us with
    | nil => intro _; exact Int.le_refl _
    | cons j us ih =>
      intro h
      have ih := ih fun i hi => h i (by simp [hi])
      obtain ⟨t, ht⟩ := tt j (h j (by simp))
      have a := ((badT_iff _ _).mp (L.hold t (List.mem_of_getElem? ht))).1
      have e1 : loN ts j = t.lo := by unfold loN; rw [ht]
      have e2 : stT xs ts j = stn xs t.s t.l := by unfold stT; rw [ht]
      simp only [List.map_cons, List.sum_cons, e1, e2]
      omega
  have hi : ∀ ws : List Nat, (∀ j ∈ ws, j < ts.length) → capB ts ws = true → (ws.map (stT xs ts)).sum ≤ (ws.map (hiV ts)).sum := by
    intro ws
    induction ws with
    | nil => intro _ _; exact Int.le_refl _
    | cons j ws ih =>
      intro h hc
      have hc := List.all_eq_true.mp hc
      have ih := ih (fun i hi => h i (by simp [hi])) (List.all_eq_true.mpr fun i hi => hc i (by simp [hi]))
      obtain ⟨t, ht⟩ := tt j (h j (by simp))
      have s := hc j (by simp)
      unfold hiN at s
      rw [ht] at s
      obtain ⟨x, hx⟩ := Option.isSome_iff_exists.mp s
      have hx : t.hi = some x := hx
      have a := ((badT_iff _ _).mp (L.hold t (List.mem_of_getElem? ht))).2 x hx
      have e1 : hiV ts j = x := by unfold hiV hiN; rw [ht]; show t.hi.getD 0 = x; rw [hx]; rfl
      have e2 : stT xs ts j = stn xs t.s t.l := by unfold stT; rw [ht]
      simp only [List.map_cons, List.sum_cons, e1, e2]
      omega
  have a := lo us B.up
  have b := hi ws B.dn B.cap
  rw [stones_rsum L.len h1] at a b
  have c : rsum n (fun q => xs.getD q 0 * covN n ts us q) - rsum n (fun q => xs.getD q 0 * covN n ts ws q) ≤ rsum n fun q => xs.getD q 0 * r := by
    rw [← rsum_sub]
    refine rsum_le fun q hq => ?_
    have f := of_decide_eq_true (List.all_eq_true.mp B.fit q (List.mem_range.mpr hq))
    rw [← Int.mul_sub]
    exact Int.mul_le_mul_of_nonneg_left f (getD_nn L.nn q)
  rw [rsum_mul, ← sum_rsum L.len, L.sum, Int.mul_comm] at c
  omega
/-- numbers that stand once: no more than all -/
theorem nodup_le : ∀ {us : List Nat} {n : Nat} {f : Nat → Int}, us.Nodup → (∀ j ∈ us, j < n) → (∀ j, j < n → 0 ≤ f j) → (us.map f).sum ≤ rsum n f := by
  intro us n f
  induction n generalizing us with
  | zero =>
    intro _ h _
    cases us with
    | nil => exact Int.le_refl _
    | cons j r => exact absurd (h j (by simp)) (Nat.not_lt_zero _)
  | succ n ih =>
    intro nd h h0
    rw [rsum_succ]
    have sub : (us.filter fun j => decide (j ≠ n)).Nodup := nd.sublist List.filter_sublist
    have i1 := ih sub (fun j hj => by
      obtain ⟨a, b⟩ := List.mem_filter.mp hj
      have := h j a
      have := of_decide_eq_true b
      omega) fun j hj => h0 j (by omega)
    have fn := h0 n (by omega)
    have step : ∀ vs : List Nat, vs.Nodup → (vs.map f).sum ≤ ((vs.filter fun j => decide (j ≠ n)).map f).sum + f n := by
      intro vs
      induction vs with
      | nil => intro _; simp; exact fn
      | cons j vs ih2 =>
        intro nd2
        rw [List.nodup_cons] at nd2
        rw [List.filter_cons, List.map_cons, List.sum_cons]
        by_cases z : j = n
        · subst z
          rw [if_neg (by simp)]
          have e : vs.filter (fun i => decide (i ≠ j)) = vs := List.filter_eq_self.mpr fun i hi => decide_eq_true fun w => nd2.1 (w ▸ hi)
          rw [e]; omega
        · rw [if_pos (decide_eq_true z), List.map_cons, List.sum_cons]
          have := ih2 nd2.2
          omega
    have := step us nd
    omega
/-! ### data of all kinds, short enough -/
structure Gd (n w : Nat) (d : D) : Prop where
  nice : Nice n w d
  tx : TxOk d
structure GdL (n w : Nat) (ds : List D) : Prop where
  lay : PyData.canLayAll0 ds = true
  dep : PyData.depthAll ds ≤ n
  wt : PyData.weightAll ds ≤ w
  sh : PyData.showableAll ds = true
  ls : PyData.leavesShortAll 300 ds = true
  tx : ∀ d ∈ ds, TxOk d
theorem Gd.mono {n w n' w' : Nat} {d : D} (h : Gd n w d) (hn : n ≤ n') (hw : w ≤ w') : Gd n' w' d := ⟨h.nice.mono hn hw, h.tx⟩
theorem GdL.mono {n w n' w' : Nat} {d : List D} (h : GdL n w d) (hn : n ≤ n') (hw : w ≤ w') : GdL n' w' d := ⟨h.lay, Nat.le_trans h.dep hn, Nat.le_trans h.wt hw, h.sh, h.ls, h.tx⟩
theorem gd_none : Gd 0 0 .none := ⟨nice_none, sok_none⟩
theorem gd_bool (b : Bool) : Gd 0 0 (.bool b) := ⟨nice_bool b, sok_bool b⟩
theorem gd_int {i : Int} (h1 : -1000000000000000000000000000000 ≤ i) (h2 : i ≤ 1000000000000000000000000000000) : Gd 0 100 (.int i) := ⟨nice_small h1 h2, sok_int i⟩
theorem gdl_nil : GdL 0 0 [] := ⟨rfl, by simp [PyData.depthAll], by simp [PyData.weightAll], rfl, rfl, by simp⟩
theorem gdl_cons {n w n' w' : Nat} {d : D} {ds : List D} (h : Gd n w d) (h' : GdL n' w' ds) : GdL (max n n') (w + w' + 1) (d :: ds) := by
  refine ⟨by simp only [PyData.canLayAll0, h.nice.lay, h'.lay, Bool.and_self], ?_, ?_, by simp only [PyData.showableAll, h.nice.sh, h'.sh, Bool.and_self], by simp only [PyData.leavesShortAll, h.nice.ls, h'.ls, Bool.and_self], ?_⟩
  · have := h.nice.dep; have := h'.dep
    simp only [PyData.depthAll]; omega
  · have := h.nice.wt; have := h'.wt
    simp only [PyData.weightAll]; omega
  · intro x hx
    rcases List.mem_cons.mp hx with rfl | hx
    · exact h.tx
    · exact h'.tx x hx
theorem GdL.head {n w : Nat} {d : D} {ds : List D} (h : GdL n w (d :: ds)) : Gd n w d ∧ GdL n w ds := by
  have h1 := h.lay; have h2 := h.dep; have h3 := h.wt; have h4 := h.sh; have h5 := h.ls
  simp only [PyData.canLayAll0, PyData.depthAll, PyData.weightAll, PyData.showableAll, PyData.leavesShortAll, Bool.and_eq_true] at h1 h2 h3 h4 h5
  exact ⟨⟨⟨h1.1, by omega, by omega, h4.1, h5.1⟩, h.tx d (by simp)⟩, ⟨h1.2, by omega, by omega, h4.2, h5.2, fun x hx => h.tx x (by simp [hx])⟩⟩
theorem GdL.mem {n w : Nat} : ∀ {ds : List D} {d : D}, GdL n w ds → d ∈ ds → Gd n w d
  | [], _, _, h => by simp at h
  | x :: xs, d, g, h => by
    rcases List.mem_cons.mp h with rfl | h
    · exact g.head.1
    · exact g.head.2.mem h
theorem GdL.length {n w : Nat} : ∀ {ds : List D}, GdL n w ds → ds.length ≤ w
  | [], _ => by simp
  | x :: xs, g => by
    have h3 := g.wt
    simp only [PyData.weightAll] at h3
    have := GdL.length (ds := xs) (n := n) (w := w - PyData.weight x - 1) ⟨g.head.2.lay, g.head.2.dep, by omega, g.head.2.sh, g.head.2.ls, g.head.2.tx⟩
    simp only [List.length_cons]; omega
theorem gdl_append {n w n' w' : Nat} : ∀ {xs ys : List D}, GdL n w xs → GdL n' w' ys → GdL (max n n') (w + w') (xs ++ ys)
  | [], ys, _, h' => h'.mono (by omega) (by omega)
  | x :: xs, ys, h, h' => by
    have h3 := h.wt
    simp only [PyData.weightAll] at h3
    have e : GdL n (w - PyData.weight x - 1) xs := ⟨h.head.2.lay, h.head.2.dep, by omega, h.head.2.sh, h.head.2.ls, h.head.2.tx⟩
    have z := gdl_append e h'
    have c := gdl_cons (n := n) (w := PyData.weight x) (d := x) ⟨⟨h.head.1.nice.lay, h.head.1.nice.dep, Nat.le_refl _, h.head.1.nice.sh, h.head.1.nice.ls⟩, h.head.1.tx⟩ z
    exact c.mono (by omega) (by omega)
theorem gd_tuple {n w : Nat} {ds : List D} (h : GdL n w ds) : Gd (n + 1) w (.tuple ds) :=
  ⟨⟨by simp only [PyData.canLay0, h.lay], by have := h.dep; simp only [PyData.depth]; omega, by simpa only [PyData.weight] using h.wt, by simp only [PyData.showable, h.sh], by simp only [PyData.leavesShort, h.ls]⟩, sok_tuple h.tx⟩
theorem gd_list {n w : Nat} {ds : List D} (h : GdL n w ds) : Gd (n + 1) w (.list ds) :=
  ⟨⟨by simp only [PyData.canLay0, h.lay], by have := h.dep; simp only [PyData.depth]; omega, by simpa only [PyData.weight] using h.wt, by simp only [PyData.showable, h.sh], by simp only [PyData.leavesShort, h.ls]⟩, sok_list h.tx⟩
theorem shaped_filter {n w : Nat} {xs : List D} (h : Nice n w (.tuple xs)) (hn : n ≤ 64) (p : D → Bool) : SeqAt.shaped (.list (xs.filter p)) = true := by
  have h1 := h.lay; have h2 := h.dep
  simp only [PyData.canLay0, PyData.depth] at h1 h2
  have k : ∀ ys : List D, PyData.canLayAll0 ys = true → PyData.canLayAll0 (ys.filter p) = true ∧ PyData.depthAll (ys.filter p) ≤ PyData.depthAll ys := by
    intro ys
    induction ys with
    | nil => intro _; exact ⟨rfl, Nat.le_refl _⟩
    | cons y ys ih =>
      intro hy
      simp only [PyData.canLayAll0, Bool.and_eq_true] at hy
      have ih := ih hy.2
      rw [List.filter_cons]
      split
      · simp only [PyData.canLayAll0, PyData.depthAll, hy.1, ih.1, Bool.and_self, true_and]; omega
      · simp only [PyData.depthAll]; exact ⟨ih.1, by omega⟩
  have kk := k xs h1
  unfold SeqAt.shaped
  simp only [PyData.canLay0, kk.1, Bool.true_and]
  refine decide_eq_true ?_
  simp only [PyData.depth]
  omega
theorem eqD_nil {ys : List D} (h : SeqAt.shaped (.list ys) = true) : eqD (.list ys) (.list []) = some (.bool ys.isEmpty) := by
  unfold eqD
  rw [h]
  cases ys <;> rfl
theorem nice_len {n w : Nat} {xs : List D} (h : Nice n w (.tuple xs)) : xs.length ≤ w := by
  have h3 := h.wt
  simp only [PyData.weight] at h3
  have k : ∀ ys : List D, ys.length ≤ PyData.weightAll ys := by
    intro ys
    induction ys with
    | nil => exact Nat.le_refl _
    | cons y ys ih => simp only [PyData.weightAll, List.length_cons]; omega
  exact Nat.le_trans (k xs) h3
theorem nice_item {n w : Nat} {xs : List D} {d : D} (h : Nice n w (.tuple xs)) (hd : d ∈ xs) : Nice n w d := by
  have h1 := h.lay; have h2 := h.dep; have h3 := h.wt; have h4 := h.sh; have h5 := h.ls
  simp only [PyData.canLay0, PyData.depth, PyData.weight, PyData.showable, PyData.leavesShort] at h1 h2 h3 h4 h5
  have k : ∀ ys : List D, d ∈ ys → PyData.canLayAll0 ys = true → PyData.showableAll ys = true → PyData.leavesShortAll 300 ys = true → Nice (PyData.depthAll ys) (PyData.weightAll ys) d := by
    intro ys
    induction ys with
    | nil => intro q; simp at q
    | cons y ys ih =>
      intro q a b c
      simp only [PyData.canLayAll0, PyData.showableAll, PyData.leavesShortAll, Bool.and_eq_true] at a b c
      simp only [PyData.depthAll, PyData.weightAll]
      rcases List.mem_cons.mp q with rfl | q
      · exact ⟨a.1, by omega, by omega, b.1, c.1⟩
      · exact (ih q a.2 b.2 c.2).mono (by omega) (by omega)
  exact (k xs hd h1 h4 h5).mono (by omega) (by omega)
theorem eqD_strSame {x : Str} (h : PyData.strOk x = true) : eqD (.str x) (.str x) = some (.bool true) := by
  rw [eqD_str h h, SeqAt.eqv_refl (.str x) (by simpa [PyData.canLay0] using h)]
theorem gd_fin {n w n' w' : Nat} {d : D} (h : Gd n w d) (hn : n ≤ n') (hw : w ≤ w') : Gd n' w' d := h.mono hn hw
theorem gdl_fin {n w n' w' : Nat} {d : List D} (h : GdL n w d) (hn : n ≤ n') (hw : w ≤ w') : GdL n' w' d := h.mono hn hw
def strCk (x : Str) : Bool := PyData.strOk x && decide (x.cps.size ≤ 40) && (x.cps.toList.all fun c => decide (c < 16 ^ 8)) && PyData.strOk (reprText x)
theorem gd_str {x : Str} (h : strCk x = true) : Gd 0 40 (.str x) := by
  unfold strCk at h
  simp only [Bool.and_eq_true, decide_eq_true_eq] at h
  obtain ⟨⟨⟨h1, h2⟩, h3⟩, h4⟩ := h
  exact ⟨⟨by simpa only [PyData.canLay0] using h1, by simp [PyData.depth], by simpa only [PyData.weight] using h2, rfl, by simpa only [PyData.leavesShort] using h3⟩, h4⟩
theorem strm_ck {m : Int} (h1 : 1 ≤ m) (h2 : m ≤ 12) : strCk (Str.ofString (toString m)) = true := by
  have : m = 1 ∨ m = 2 ∨ m = 3 ∨ m = 4 ∨ m = 5 ∨ m = 6 ∨ m = 7 ∨ m = 8 ∨ m = 9 ∨ m = 10 ∨ m = 11 ∨ m = 12 := by omega
  rcases this with h | h | h | h | h | h | h | h | h | h | h | h <;> subst h <;> decide +kernel
theorem addD_list {xs ys : List D} (h : xs.length + ys.length ≤ 1000000) : addD (.list xs) (.list ys) = some (.list (xs ++ ys)) := by
  simp only [addD]; rw [if_pos (sizeLine_lt _ (by omega))]
theorem addD_tuple {xs ys : List D} (h : xs.length + ys.length ≤ 1000000) : addD (.tuple xs) (.tuple ys) = some (.tuple (xs ++ ys)) := by
  simp only [addD]; rw [if_pos (sizeLine_lt _ (by omega))]
theorem strD_small {m : Int} (h1 : -1000000 ≤ m) (h2 : m ≤ 1000000) : strD [.int m] = some (.str (toString m)) := by
  simp only [strD]
  rw [if_pos (Nat.lt_of_lt_of_le (log2_small (Nat.lt_of_le_of_lt (show m.natAbs ≤ 1000000 by omega) (by decide))) (by decide))]
theorem all_nil {P : D → Prop} : ∀ x ∈ ([] : List D), P x := by simp
theorem all_cons {P : D → Prop} {d : D} {ds : List D} (h : P d) (h' : ∀ x ∈ ds, P x) : ∀ x ∈ d :: ds, P x := by
  intro x hx
  rcases List.mem_cons.mp hx with rfl | hx
  · exact h
  · exact h' x hx
theorem all_append {P : D → Prop} {xs ys : List D} (h : ∀ x ∈ xs, P x) (h' : ∀ x ∈ ys, P x) : ∀ x ∈ xs ++ ys, P x := by
  intro x hx
  rcases List.mem_append.mp hx with hx | hx
  · exact h x hx
  · exact h' x hx
def OkS (a : Option Sl) : Prop := a = none ∨ ∃ d, a = some (.im d)
theorem okS_none : OkS none := .inl rfl
theorem okS_im {d : D} : OkS (some (.im d)) := .inr ⟨d, rfl⟩
theorem ev_errX {S α : Type} {m : R S (α × S)} {a : Exn} (h : Ev m (fun _ _ => False) fun x _ => x = a) : ∃ s, m = .err a s := by
  cases m with
  | stuck => exact h.1.elim
  | ok p => exact h.1.elim
  | err x s => exact ⟨s, by rw [show x = a from h.1]⟩
/-! ### own dicts of truth values, told by what is wanted behind -/
section
variable {N : En → Prop} {P : D → En → Prop} {B C : En → Prop} {E : Exn → En → Prop} {Q : D → En → Prop} {env : En} {f g : EF} {i j : Nat}
theorem es_setDb (q : N (env.set j (some (.db [])))) : Es (sSetDb j env) N P B C E := ⟨q⟩
theorem es_dbsto (q : Ev (f env) (fun v e => (∃ kvs, e[i]? = some (some (.db kvs))) ∧ Ev (g e) (fun a e => ∃ kvs b, e[i]? = some (some (.db kvs)) ∧ a = .bool b ∧ kvs.length < sizeLine ∧ N (e.set i (some (.db (putB kvs b v))))) E) E) : Es (sDbSto i g f env) N P B C E := by
  unfold sDbSto
  refine es_bind (ev_imp1 q fun v e q => ?_)
  obtain ⟨⟨kvs1, h1⟩, q⟩ := q
  simp only [h1]
  refine es_bind (ev_imp1 q fun a e q => ?_)
  obtain ⟨kvs, b, he, rfl, hl, q⟩ := q
  simp only [he, hl, if_true]
  exact ⟨q⟩
theorem ev_dbvals {kvs : List (Bool × D)} (hi : env[i]? = some (some (.db kvs))) (nd : (kvs.map Prod.fst).Nodup) (hl : kvs.length < sizeLine) (q : Q (.list (kvs.map Prod.snd)) env) : Ev (fDbVals i env) Q E := by
  unfold fDbVals
  rw [hi]
  show Ev (if _ then _ else _) Q E
  rw [if_pos ⟨nd, hl⟩]
  exact ⟨q⟩
end
section
variable {N : En → Prop} {P : D → En → Prop} {B C : En → Prop} {E : Exn → En → Prop} {Q : D → En → Prop} {env : En} {f g : EF}
theorem es_raiseP {c fl : Str} (q : Ev (f env) (fun d e => E ⟨c, [(fl, d)]⟩ e) E) : Es (sRaiseP c fl f env) N P B C E := es_bind (ev_imp1 q fun _ _ q => ⟨q⟩)
theorem ev_listRg (q : Ev (g env) (fun d e => ∃ n : Int, d = .int n ∧ 0 ≤ n ∧ n ≤ 16777216 ∧ Q (.list (rangeL 0 n.toNat)) e) E) : Ev (fListRg g env) Q E := by
  refine ev_bind (ev_imp1 q fun d e q => ?_)
  obtain ⟨n, rfl, h1, h2, q⟩ := q
  show Ev (if _ then _ else _) Q E
  rw [if_pos ⟨h1, h2⟩]
  exact ⟨q⟩
theorem es_tryR {c : Str} {v : D} {a : SF} (q : Es (a env) N P B C (fun x e => x.cls = c ∧ P v e)) : Es (sTryR c v a env) N P B C E := by
  unfold sTryR
  revert q
  cases a env with
  | stuck => exact fun q => ⟨q.1⟩
  | ok o => cases o <;> exact fun q => ⟨q.1⟩
  | err x e =>
    intro q
    show Es (if _ then _ else _) N P B C E
    rw [if_pos q.1.1]
    exact ⟨q.1.2⟩
end
/-! ### found_bar, told plainly -/
theorem feas_has {n : Nat} {T : Int} {ts : List Tm} {h : Nat → Int} (h1 : 1 ≤ n) (ht : ∀ t ∈ ts, t.ok n) (hf : Feas (dem n T ts) h) : ∃ xs, LayOf n T ts xs := by
  let hs : List Int := (List.range n).map fun x => h x - h 0
  have get : ∀ x, x < n → hF hs x = h x - h 0 := fun x hx => by
    unfold hF
    rw [List.getD_eq_getElem?_getD, List.getElem?_map, List.getElem?_range hx]; rfl
  refine ⟨lad hs T, (feas_lay h1 ht (by simp [hs]) ?_ fun e he => ?_).1⟩
  · rw [get 0 h1]; omega
  · have k := dem_ok h1 ht he
    rw [get _ k.u, get _ k.v]
    have := hf e he
    omega
theorem F_found_bar_is {n : Nat} {T : Int} {ts : List Tm} (h1 : 1 ≤ n) (h2 : n ≤ 1000) (ht : ∀ t ∈ ts, t.ok n) (hs : ts.length ≤ 10000) :
    ∃ t, (F_found_bar [.im (rgD n ts), .im (.int T)] = .ok (.none, t) ∧ ∃ xs, LayOf n T ts xs) ∨
      ∃ us ws r, Bar n T ts us ws r ∧ Short n us ws r ∧ (∀ xs, ¬ LayOf n T ts xs) ∧ F_found_bar [.im (rgD n ts), .im (.int T)] = .ok (barD us ws r, t) := by
  obtain ⟨t, q⟩ := F_found_bar_eq (T := T) h1 h2 ht hs
  refine ⟨t, ?_⟩
  rcases q with ⟨e, h, hf⟩ | ⟨L, hL, e⟩
  · exact .inl ⟨e, feas_has h1 ht hf⟩
  · obtain ⟨us, ws, r, eb, B, S⟩ := bar_of_loop h1 ht hL
    exact .inr ⟨us, ws, r, B, S, fun xs => loop_bars h1 ht hL, by rw [e, eb]⟩
/-! ### totals -/
def BelowD (n : Nat) (ts : List Tm) (T : Int) (d : D) : Prop := ∃ us ws r, d = barD us ws r ∧ Short n us ws r ∧ Bar n T ts us ws r
def loOf : D → D
  | .tuple [_, _, lo, _] => lo
  | _ => .none
def hiOf : D → D
  | .tuple [_, _, _, hi] => hi
  | _ => .none
def hasH : D → Bool
  | .tuple [_, _, _, .none] => false
  | _ => true
theorem los_data (ts : List Tm) : (ts.map Tm.d).map loOf = (ts.map fun t => t.lo).map .int := by rw [List.map_map, List.map_map]; rfl
theorem his_data : ∀ ts : List Tm, ((ts.map Tm.d).filter hasH).map hiOf = (ts.filterMap fun t => t.hi).map .int
  | [] => rfl
  | t :: ts => by
    have ih := his_data ts
    rw [List.map_cons, List.filter_cons, List.filterMap_cons]
    cases h : t.hi with
    | none =>
      have e : hasH t.d = false := by unfold Tm.d oI; rw [h]; rfl
      rw [e]
      exact ih
    | some i =>
      have e : hasH t.d = true := by unfold Tm.d oI; rw [h]; rfl
      have e2 : hiOf t.d = .int i := by unfold Tm.d oI; rw [h]; rfl
      rw [e]
      simp only [if_true, List.map_cons, e2, ih]
def loS (ts : List Tm) : Int := (ts.map fun t => t.lo).sum
def hiS (ts : List Tm) : Int := (ts.filterMap fun t => t.hi).sum
theorem loS_rsum (ts : List Tm) : loS ts = rsum ts.length (loN ts) := by
  unfold loS
  have key : ∀ k, k ≤ ts.length → ((ts.take k).map fun t => t.lo).sum = rsum k (loN ts) := by
    intro k
    induction k with
    | zero => intro _; rfl
    | succ k ih =>
      intro hk
      have hk1 : k < ts.length := by omega
      rw [rsum_succ, ← ih (by omega), List.take_succ_eq_append_getElem hk1, List.map_append, List.sum_append]
      have : loN ts k = ts[k].lo := by unfold loN; rw [List.getElem?_eq_getElem hk1]
      simp [this]
  have := key ts.length (Nat.le_refl _)
  rw [List.take_length] at this
  exact this
theorem loN_nn {n : Nat} {ts : List Tm} (ht : ∀ t ∈ ts, t.ok n) (j : Nat) : 0 ≤ loN ts j := by
  unfold loN
  cases e : ts[j]? with
  | none => exact Int.le_refl _
  | some t => exact (ht t (List.mem_of_getElem? e)).lo0
theorem hiV_nn {n : Nat} {ts : List Tm} (ht : ∀ t ∈ ts, t.ok n) (j : Nat) : 0 ≤ hiV ts j := by
  unfold hiV hiN
  cases e : ts[j]? with
  | none => exact Int.le_refl _
  | some t =>
    show 0 ≤ t.hi.getD 0
    cases h : t.hi with
    | none => exact Int.le_refl _
    | some i => exact (ht t (List.mem_of_getElem? e)).hi0 i h
theorem sum_nn {us : List Nat} {f : Nat → Int} (h : ∀ j, 0 ≤ f j) : 0 ≤ (us.map f).sum := by
  induction us with
  | nil => exact Int.le_refl _
  | cons j us ih => have := h j; simp only [List.map_cons, List.sum_cons]; omega
/-- a bar that goes round is one for no total as great as all least -/
theorem up_small {n : Nat} {T : Int} {ts : List Tm} {us ws : List Nat} {r : Int} (ht : ∀ t ∈ ts, t.ok n) (B : Bar n T ts us ws r) (nd : us.Nodup) (hr : 0 < r) (hT : 0 ≤ T) : T < loS ts := by
  have m := of_decide_eq_true B.more
  have a := nodup_le nd B.up fun j _ => loN_nn ht j
  rw [← loS_rsum] at a
  have b := sum_nn (us := ws) (hiV_nn ht)
  have c : T ≤ r * T := by
    have := Int.mul_le_mul_of_nonneg_right (show (1 : Int) ≤ r by omega) hT
    omega
  omega
/-- a bar that some total has, short -/
def ShB (n : Nat) (ts : List Tm) (d : D) : Prop := ∃ us ws r T, d = barD us ws r ∧ Short n us ws r ∧ Bar n T ts us ws r
def SomeT (n : Nat) (ts : List Tm) (high : Int) (x : D) : Prop :=
  (∃ T xs, 0 ≤ T ∧ T ≤ high ∧ LayOf n T ts xs ∧ x = .tuple [.int T, .list []]) ∨
  ∃ ds : List D, 1 ≤ ds.length ∧ ds.length ≤ 2 ∧ (∀ d ∈ ds, ShB n ts d) ∧ (∀ T, 0 ≤ T → ∃ d ∈ ds, isBarB n ts T d = true) ∧ x = .tuple [.none, .list ds]
theorem mem_putB {kvs : List (Bool × D)} {k k' : Bool} {d d' : D} (h : (k', d') ∈ putB kvs k d) : (k' = k ∧ d' = d) ∨ ((k', d') ∈ kvs ∧ k' ≠ k) := by
  unfold putB at h
  split at h
  · obtain ⟨p, hp, e⟩ := List.mem_map.mp h
    split at e
    · rename_i q
      cases e
      exact .inl ⟨q, rfl⟩
    · rename_i q
      subst e
      exact .inr ⟨hp, q⟩
  · rename_i q
    rcases List.mem_append.mp h with h | h
    · refine .inr ⟨h, fun z => q ?_⟩
      exact List.any_eq_true.mpr ⟨_, h, by simpa using z⟩
    · rw [List.mem_singleton] at h
      cases h
      exact .inl ⟨rfl, rfl⟩
theorem keys_putB (kvs : List (Bool × D)) (k : Bool) (d : D) : k ∈ (putB kvs k d).map Prod.fst ∧ ∀ j, j ∈ kvs.map Prod.fst → j ∈ (putB kvs k d).map Prod.fst := by
  have km : (kvs.map fun kv => if kv.1 = k then (kv.1, d) else kv).map Prod.fst = kvs.map Prod.fst := by
    rw [List.map_map]
    apply List.map_congr_left
    intro p _
    simp only [Function.comp]
    split <;> rfl
  unfold putB
  split
  · rename_i q
    rw [km]
    obtain ⟨p, hp, e⟩ := List.any_eq_true.mp q
    exact ⟨List.mem_map.mpr ⟨p, hp, by simpa using e⟩, fun j hj => hj⟩
  · rw [List.map_append]
    exact ⟨List.mem_append.mpr (.inr (by simp)), fun j hj => List.mem_append.mpr (.inl hj)⟩
theorem nd_putB {kvs : List (Bool × D)} (k : Bool) (d : D) (h : (kvs.map Prod.fst).Nodup) : ((putB kvs k d).map Prod.fst).Nodup := by
  have km : (kvs.map fun kv => if kv.1 = k then (kv.1, d) else kv).map Prod.fst = kvs.map Prod.fst := by
    rw [List.map_map]
    apply List.map_congr_left
    intro p _
    simp only [Function.comp]
    split <;> rfl
  unfold putB
  split
  · rw [km]; exact h
  · rename_i q
    rw [List.map_append, List.map_cons, List.map_nil, List.nodup_append]
    refine ⟨h, by simp, fun a ha b hb e => q ?_⟩
    rw [List.mem_singleton] at hb
    obtain ⟨p, hp, ep⟩ := List.mem_map.mp ha
    exact List.any_eq_true.mpr ⟨p, hp, by rw [ep, e, hb]; simp⟩
theorem bool_two : ∀ {l : List Bool}, l.Nodup → l.length ≤ 2
  | [], _ => by decide
  | [_], _ => by simp
  | [_, _], _ => by simp
  | a :: b :: c :: r, h => by
    exfalso
    simp only [List.nodup_cons, List.mem_cons, not_or] at h
    obtain ⟨⟨h1, h2, _⟩, ⟨h3, _⟩, _⟩ := h
    cases a <;> cases b <;> cases c <;> simp_all
/-- what the dict of bars holds between low and high -/
structure Bars (n : Nat) (ts : List Tm) (top low high : Int) (kvs : List (Bool × D)) : Prop where
  nd : (kvs.map Prod.fst).Nodup
  l0 : 0 ≤ low
  h0 : high ≤ top
  lh : low ≤ high + 1
  sh : ∀ k d, (k, d) ∈ kvs → ∃ us ws r, d = barD us ws r ∧ Short n us ws r ∧ ((k = true ∧ 0 < r ∧ 0 < low ∧ Bar n (low - 1) ts us ws r) ∨ (k = false ∧ r < 0 ∧ Bar n (high + 1) ts us ws r))
  up : low ≠ 0 → true ∈ kvs.map Prod.fst
  dn : high ≠ top → false ∈ kvs.map Prod.fst
theorem Bars.mem {kvs : List (Bool × D)} {k : Bool} (h : k ∈ kvs.map Prod.fst) : ∃ d, (k, d) ∈ kvs := by
  obtain ⟨p, hp, rfl⟩ := List.mem_map.mp h
  exact ⟨p.2, hp⟩
theorem Bars.done {n : Nat} {ts : List Tm} {top low high : Int} {kvs : List (Bool × D)} (I : Bars n ts top low high kvs) (ht : ∀ t ∈ ts, t.ok n) (htop : loS ts < top) (h : ¬ low ≤ high) :
    (∀ d ∈ kvs.map Prod.snd, ShB n ts d) ∧ ∀ T, 0 ≤ T → ∃ d ∈ kvs.map Prod.snd, isBarB n ts T d = true := by
  have e := I.lh
  refine ⟨fun d hd => ?_, fun T hT => ?_⟩
  · obtain ⟨⟨k, d'⟩, hp, rfl⟩ := List.mem_map.mp hd
    obtain ⟨us, ws, r, e1, S, q⟩ := I.sh k d' hp
    rcases q with ⟨_, _, _, B⟩ | ⟨_, _, B⟩
    · exact ⟨us, ws, r, _, e1, S, B⟩
    · exact ⟨us, ws, r, _, e1, S, B⟩
  · by_cases q : T ≤ low - 1
    · have n0 : low ≠ 0 := by omega
      obtain ⟨d, hd⟩ := Bars.mem (I.up n0)
      obtain ⟨us, ws, r, e1, S, q2⟩ := I.sh _ d hd
      refine ⟨d, List.mem_map.mpr ⟨_, hd, rfl⟩, ?_⟩
      rcases q2 with ⟨_, r0, _, B⟩ | ⟨z, _⟩
      · rw [e1, isBarB_iff]
        exact B.at (Int.mul_le_mul_of_nonneg_left q (by omega))
      · cases z
    · by_cases w : high = top
      · exfalso
        have l0 := I.l0
        have n0 : low ≠ 0 := fun z => by
          have := sum_nn (us := List.range ts.length) (loN_nn ht)
          have e2 := loS_rsum ts
          unfold rsum at e2
          omega
        obtain ⟨d, hd⟩ := Bars.mem (I.up n0)
        obtain ⟨us, ws, r, e1, S, q2⟩ := I.sh _ d hd
        rcases q2 with ⟨_, r0, _, B⟩ | ⟨z, _⟩
        · have := up_small ht B S.ud r0 (by omega)
          omega
        · cases z
      · obtain ⟨d, hd⟩ := Bars.mem (I.dn w)
        obtain ⟨us, ws, r, e1, S, q2⟩ := I.sh _ d hd
        refine ⟨d, List.mem_map.mpr ⟨_, hd, rfl⟩, ?_⟩
        rcases q2 with ⟨z, _⟩ | ⟨_, r0, B⟩
        · cases z
        · rw [e1, isBarB_iff]
          exact B.at (Int.mul_le_mul_of_nonpos_left (by omega) (by omega))
theorem isD_bar (us ws : List Nat) (r : Int) : isD (barD us ws r) .none = some (.bool false) := rfl
/-! ### what a stretch can have -/
theorem way_at {n p : Nat} (T : Int) (ts : List Tm) (h1 : 1 ≤ n) (hp : p < n) : Way (dem n T ts) n p fun t => (p + t) % n where
  zero := Nat.mod_eq_of_lt hp
  lt := fun t => Nat.mod_lt _ (by omega)
  step := fun t ht => by
    obtain ⟨e, he, eu, ev⟩ := dem_place (T := T) (ts := ts) (Nat.mod_lt (p + t) (show 0 < n by omega))
    refine ⟨e, he, eu, ?_⟩
    rw [ev, Nat.mod_add_mod, Nat.add_assoc]
  all := fun x hx => by
    by_cases q : p ≤ x
    · exact ⟨x - p, by omega, by rw [show p + (x - p) = x by omega]; exact Nat.mod_eq_of_lt hx⟩
    · refine ⟨x + n - p, by omega, ?_⟩
      rw [show p + (x + n - p) = x + n by omega, Nat.add_mod_right]
      exact Nat.mod_eq_of_lt hx
/-- heights from any place, as a laying -/
theorem hts_lay {n p : Nat} {T : Int} {ts : List Tm} {hs : List Int} (h1 : 1 ≤ n) (ht : ∀ t ∈ ts, t.ok n) (H : Hts (dem n T ts) n p hs) : ∃ xs, LayOf n T ts xs ∧ ∀ k, k < n → pre xs k = hF hs k - hF hs 0 := by
  let gs : List Int := hs.map fun i => i - hF hs 0
  have get : ∀ k, k < n → hF gs k = hF hs k - hF hs 0 := fun k hk => by
    have hk' : k < hs.length := by rw [H.len]; exact hk
    have e : hs[k]? = some hs[k] := List.getElem?_eq_getElem hk'
    show (hs.map fun i => i - hF hs 0).getD k 0 = hs.getD k 0 - hF hs 0
    rw [List.getD_eq_getElem?_getD, List.getElem?_map, e, List.getD_eq_getElem?_getD, e]; rfl
  obtain ⟨A, pa⟩ := feas_lay (hs := gs) (T := T) (ts := ts) h1 ht (by simp [gs, H.len]) (by rw [get 0 h1]; omega) fun e he => by
    have k := dem_ok h1 ht he
    rw [get _ k.u, get _ k.v]
    have := H.feas e he
    omega
  exact ⟨_, A, fun k hk => by rw [pa k hk, get k hk]⟩
/-- the least and the greatest number of stones in a stretch -/
structure Span (n : Nat) (T : Int) (ts : List Tm) (f l a b : Int) : Prop where
  lo : ∀ xs, LayOf n T ts xs → a ≤ stn xs f l ∧ stn xs f l ≤ b
  at_lo : ∃ xs, LayOf n T ts xs ∧ stn xs f l = a
  at_hi : ∃ xs, LayOf n T ts xs ∧ stn xs f l = b
theorem stn_fl {n : Nat} {xs : List Int} {f l : Int} (hx : xs.length = n) (h1 : 1 ≤ n) (f0 : 0 ≤ f) (f1 : f < n) (l0 : 1 ≤ l) (l1 : l ≤ n) :
    stn xs f l = pre xs ((f.toNat + l.toNat) % n) + ((f.toNat + l.toNat) / n : Nat) * xs.sum - pre xs f.toNat :=
  stn_pre (t := ⟨f, l, 0, none⟩) hx h1 ⟨f0, f1, l0, l1, Int.le_refl _, fun _ q => nomatch q⟩
/-! ### which terms are needless -/
def Ndl (n : Nat) (T : Int) (rest : List Tm) (t : Tm) : Prop := ∀ xs, LayOf n T rest xs → badT t (stn xs t.s t.l) = false
/-- the terms but one -/
def butT (ts : List Tm) (j : Nat) : List Tm := ts.take j ++ ts.drop (j + 1)
theorem cut_take (ds : List D) (k : Nat) (h : k ≤ ds.length) : cutD ds none (some (k : Int)) = ds.take k := by
  have h0 : ¬ ((k : Int) < 0) := by omega
  unfold cutD HT.sIx
  simp only [h0, if_false, Int.toNat_natCast]
  simp
  try omega
theorem cut_drop (ds : List D) (k : Nat) (h : k ≤ ds.length) : cutD ds (some (k : Int)) none = ds.drop k := by
  have h0 : ¬ ((k : Int) < 0) := by omega
  unfold cutD HT.sIx
  simp only [h0, if_false, Int.toNat_natCast]
  rw [List.take_of_length_le (by rw [List.length_drop]; omega)]
  congr 1
  try omega
/-! ### own lists that move, told by what is wanted behind -/
theorem es_move {N : En → Prop} {P : D → En → Prop} {B C : En → Prop} {E : Exn → En → Prop} {env : En} {i j : Nat} {ds : List D} (hj : env[j]? = some (some (.ow ds))) (q : N ((env.set i (some (.ow ds))).set j none)) : Es (sMove i j env) N P B C E := by
  unfold sMove
  rw [hj]
  exact ⟨q⟩
theorem es_drop {N : En → Prop} {P : D → En → Prop} {B C : En → Prop} {E : Exn → En → Prop} {env : En} {i : Nat} {a : SF} (q : Es (a (env.set i none)) N P B C E) : Es (sDrop i a env) N P B C E := q
theorem es_parO {N : En → Prop} {P : D → En → Prop} {B C : En → Prop} {E : Exn → En → Prop} {env : En} {i j : Nat} {f g : EF} (q : Ev (f env) (fun d e => Ev (g e) (fun d' e => ∃ ds es, d = .list ds ∧ d' = .list es ∧ N ((e.set i (some (.ow ds))).set j (some (.ow es)))) E) E) : Es (sParO i j f g env) N P B C E := by
  unfold sParO
  refine es_bind (ev_imp1 q fun d e q => es_bind (ev_imp1 q fun d' e q => ?_))
  obtain ⟨ds, es, rfl, rfl, q⟩ := q
  exact ⟨q⟩
theorem ev_lendL {Q : D → En → Prop} {E : Exn → En → Prop} {env : En} {f : EF} (hd : noDk env = true) (q : Ev (f (lentE env)) (fun d _ => flatL d = true ∧ Q d env) fun _ _ => False) : Ev (fLendL f env) Q E := by
  unfold fLendL
  rw [if_pos hd]
  revert q
  cases f (lentE env) with
  | stuck => intro q; exact ⟨q.out.elim⟩
  | err x s => intro q; exact ⟨q.out.elim⟩
  | ok p =>
    intro q
    obtain ⟨h1, h2⟩ := q.out
    dsimp only
    rw [if_pos h1]
    exact ⟨h2⟩
theorem flatL_ints (xs : List Int) : flatL (.list (xs.map .int)) = true := by
  show (xs.map PyData.int).all flatD = true
  rw [List.all_eq_true]
  intro d hd
  obtain ⟨x, _, rfl⟩ := List.mem_map.mp hd
  rfl
/-! ### rings short enough to be shown -/
theorem nice_tm {m : Int} {t : Tm} (h : RawT m t) (hm : m ≤ 1000) : Nice 1 ((100 + 1) * 4) t.d := by
  have i1 : ∀ x : Int, -1000000 ≤ x → x ≤ 1000000 → Nice 0 100 (.int x) := fun x h1 h2 => nice_small (by omega) (by omega)
  refine nice_tuple ?_ (Nat.le_refl 4)
  intro d hd
  have h1 := h.s0; have h2 := h.s1; have h3 := h.l0; have h4 := h.l1; have h5 := h.lo0; have h6 := h.lo1
  simp only [List.mem_cons, List.not_mem_nil, or_false] at hd
  rcases hd with rfl | rfl | rfl | rfl
  · exact i1 _ (by omega) (by omega)
  · exact i1 _ (by omega) (by omega)
  · exact i1 _ (by omega) (by omega)
  · cases hh : t.hi with
    | none => exact nice_none.mono (by decide) (by decide)
    | some i => exact i1 i (h.hi0 i hh).1 (h.hi0 i hh).2
theorem sok_tm (t : Tm) : TxOk t.d := by
  refine sok_tuple fun d hd => ?_
  simp only [List.mem_cons, List.not_mem_nil, or_false] at hd
  rcases hd with rfl | rfl | rfl | rfl
  · exact sok_int _
  · exact sok_int _
  · exact sok_int _
  · cases t.hi with
    | none => exact sok_none
    | some i => exact sok_int i
theorem nice_rg {m : Int} {ts : List Tm} {k : Nat} (h : ∀ t ∈ ts, RawT m t) (hm0 : 0 ≤ m) (hm : m ≤ 1000) (hk : ts.length ≤ k) : Nice 3 (((404 + 1) * k + 100 + 1) * 2) (rgD m ts) := by
  have a : NiceAll 1 404 (ts.map Tm.d) := by
    intro d hd
    obtain ⟨t, ht, rfl⟩ := List.mem_map.mp hd
    exact nice_tm (h t ht) hm
  refine nice_tuple (w := (404 + 1) * k + 100) ?_ (Nat.le_refl 2)
  intro d hd
  simp only [List.mem_cons, List.not_mem_nil, or_false] at hd
  rcases hd with rfl | rfl
  · exact (nice_small (by omega) (by omega)).mono (by decide) (by omega)
  · exact (nice_tuple a (by rw [List.length_map]; exact hk)).mono (by decide) (by omega)
theorem sok_rg (m : Int) (ts : List Tm) : TxOk (rgD m ts) := by
  refine sok_tuple fun d hd => ?_
  simp only [List.mem_cons, List.not_mem_nil, or_false] at hd
  rcases hd with rfl | rfl
  · exact sok_int _
  · refine sok_tuple fun d hd => ?_
    obtain ⟨t, _, rfl⟩ := List.mem_map.mp hd
    exact sok_tm t
theorem brk_mem {xs : List Int} {ts : List Tm} {d : D} (h : d ∈ brk xs ts) : ∃ k t, ts[k]? = some t ∧ d = .tuple [.int (k : Nat), .int (stn xs t.s t.l)] := by
  unfold brk brkN at h
  rw [List.mem_flatMap] at h
  obtain ⟨k, hk, h⟩ := h
  unfold brk1 at h
  split at h
  · rename_i t ht
    split at h
    · exact ⟨k, t, ht, by simpa using h⟩
    · simp at h
  · simp at h
theorem nice_brk {m : Int} {xs : List Int} {ts : List Tm} {k : Nat} (ht : ∀ t ∈ ts, RawT m t) (hm : m ≤ 1000) (h0 : ∀ x ∈ xs, 0 ≤ x) (h1 : ∀ x ∈ xs, x ≤ 1000000) (hk : ts.length ≤ k) (hk1 : k ≤ 1000) : Nice 2 (((100 + 1) * 2 + 1) * k) (.list (brk xs ts)) ∧ TxOk (.list (brk xs ts)) := by
  constructor
  · refine nice_list (n := 1) ?_ (by unfold brk; exact Nat.le_trans (brkN_length xs ts _) hk)
    intro d hd
    obtain ⟨j, t, hj, rfl⟩ := brk_mem hd
    have hj1 : j < ts.length := by rw [List.getElem?_eq_some_iff] at hj; exact hj.1
    have hr := ht t (List.mem_of_getElem? hj)
    have g1 := hr.l0; have g2 := hr.l1
    obtain ⟨s1, s2⟩ := stn_bound (xs := xs) (s := t.s) (l := t.l) (b := 1000000) h0 (by decide) h1 (by omega)
    refine nice_tuple ?_ (Nat.le_refl 2)
    intro d hd
    simp only [List.mem_cons, List.not_mem_nil, or_false] at hd
    rcases hd with rfl | rfl
    · exact nice_small (by omega) (by omega)
    · exact nice_small (by omega) (by omega)
  · refine sok_list fun d hd => ?_
    obtain ⟨j, t, hj, rfl⟩ := brk_mem hd
    refine sok_tuple fun d hd => ?_
    simp only [List.mem_cons, List.not_mem_nil, or_false] at hd
    rcases hd with rfl | rfl <;> exact sok_int _
theorem nice_two {n w n' w' : Nat} {d e : D} (h : Nice n w d) (h' : Nice n' w' e) : Nice (max n n' + 1) ((max w w' + 1) * 2) (.list [d, e]) := by
  refine nice_list ?_ (Nat.le_refl 2)
  intro x hx
  simp only [List.mem_cons, List.not_mem_nil, or_false] at hx
  rcases hx with rfl | rfl
  · exact h.mono (by omega) (by omega)
  · exact h'.mono (by omega) (by omega)
theorem nt_of {b : Bool} {X Y : Prop} (h : b = true) (y : Y) : ((!b) = true → X) ∧ ((!b) = false → Y) := by subst h; exact nt_mk y
theorem nt_of' {b : Bool} {X Y : Prop} (h : b = true) (y : Y) : ((!b) = true → X) ∧ ((!b) = false → Y) := nt_of h y
theorem tt_of {b : Bool} {X Y : Prop} (h : b = true) (x : X) : (b = true → X) ∧ (b = false → Y) := by subst h; exact tt_mk x
theorem ff_of {b : Bool} {X Y : Prop} (h : b = false) (y : Y) : (b = true → X) ∧ (b = false → Y) := by subst h; exact ff_mk y
theorem nf_of {b : Bool} {X Y : Prop} (h : b = false) (x : X) : ((!b) = true → X) ∧ ((!b) = false → Y) := by subst h; exact nf_mk x
theorem eqv_nil (ys : List D) : PyData.eqv (.list ys) (.list []) = ys.isEmpty := by cases ys <;> rfl
theorem eqD_nilN {n w : Nat} {ys : List D} (h : Nice n w (.list ys)) (hn : n ≤ 64 := by decide) : eqD (.list ys) (.list []) = some (.bool ys.isEmpty) := by
  rw [eqD_nice h (nice_list (n := 0) (w := 0) (k := 0) (fun d hd => by simp at hd) (by simp)) hn (by decide), eqv_nil]
theorem neD_nilN {n w : Nat} {ys : List D} (h : Nice n w (.list ys)) (hn : n ≤ 64 := by decide) : neD (.list ys) (.list []) = some (.bool (!ys.isEmpty)) := by
  rw [neD_nice h (nice_list (n := 0) (w := 0) (k := 0) (fun d hd => by simp at hd) (by simp)) hn (by decide), eqv_nil]
theorem gd_vI {xs : List Int} (h0 : ∀ x ∈ xs, 0 ≤ x) (h1 : ∀ x ∈ xs, x ≤ 1000000) (hl : xs.length ≤ 40) : Gd 1 ((100 + 1) * 40) (vI xs) :=
  ⟨(nice_ints (k := 40) (fun x hx => by have := h0 x hx; have := h1 x hx; omega) hl).2, sok_tuple (sok_ints xs)⟩
theorem gd_rg {m : Int} {ts : List Tm} (h : ∀ t ∈ ts, RawT m t ∧ hiOk t = true) (hm0 : 0 ≤ m) (hm : m ≤ 1000) (hk : ts.length ≤ 10) : Gd 3 (((404 + 1) * 10 + 100 + 1) * 2) (rgD m ts) :=
  ⟨nice_rg (k := 10) (fun t ht => (h t ht).1) hm0 hm hk, sok_rg m ts⟩
/-! ### rings about layings -/
def stD (a b : Int) : D → D
  | .tuple ds => match intsD ds with
    | some xs => .int (stn xs a b)
    | none => .none
  | _ => .none
theorem stD_vI (a b : Int) (xs : List Int) : stD a b (vI xs) = .int (stn xs a b) := by unfold stD vI; simp only [intsD_map]
theorem min_ex : ∀ {xs : List Int}, xs ≠ [] → ∃ m, m ∈ xs ∧ ∀ y ∈ xs, m ≤ y
  | [], h => absurd rfl h
  | [x], _ => ⟨x, by simp, by simp⟩
  | x :: y :: r, _ => by
    obtain ⟨m, h1, h2⟩ := min_ex (xs := y :: r) (by simp)
    by_cases h : x ≤ m
    · refine ⟨x, by simp, fun z hz => ?_⟩
      rcases List.mem_cons.mp hz with rfl | hz
      · exact Int.le_refl _
      · have := h2 z hz; omega
    · refine ⟨m, List.mem_cons_of_mem _ h1, fun z hz => ?_⟩
      rcases List.mem_cons.mp hz with rfl | hz
      · omega
      · exact h2 z hz
theorem max_ex {xs : List Int} (h : xs ≠ []) : ∃ m, m ∈ xs ∧ ∀ y ∈ xs, y ≤ m := by
  obtain ⟨m, h1, h2⟩ := min_ex (xs := xs.map fun x => -x) (by simpa using h)
  obtain ⟨a, ha, rfl⟩ := List.mem_map.mp h1
  refine ⟨a, ha, fun y hy => ?_⟩
  have := h2 (-y) (List.mem_map.mpr ⟨y, hy, rfl⟩)
  omega
theorem minD_ints {xs : List Int} {m : Int} (h1 : m ∈ xs) (h2 : ∀ y ∈ xs, m ≤ y) : minD [.list (xs.map .int)] = some (.int m) := by
  simp only [minD, intsD_map, Option.bind_some, minI_is h1 h2, Option.map_some]
theorem maxD_ints {xs : List Int} {m : Int} (h1 : m ∈ xs) (h2 : ∀ y ∈ xs, y ≤ m) : maxD [.list (xs.map .int)] = some (.int m) := by
  simp only [maxD, intsD_map, Option.bind_some, maxI_is h1 h2, Option.map_some]
/-! ### span, with its error -/
/-! ### core -/
def sel (ts : List Tm) (ks : List Nat) : List Tm := ks.filterMap fun j => ts[j]?
theorem LayOf.less {n : Nat} {T : Int} {ts ts' : List Tm} {xs : List Int} (h : LayOf n T ts xs) (q : ∀ t ∈ ts', t ∈ ts) : LayOf n T ts' xs := ⟨h.len, h.nn, h.sum, fun t tm => h.hold t (q t tm)⟩
theorem mem_sel {ts : List Tm} {ks : List Nat} {t : Tm} : t ∈ sel ts ks ↔ ∃ j ∈ ks, ts[j]? = some t := by
  unfold sel
  rw [List.mem_filterMap]
structure Core (n : Nat) (T : Int) (ts : List Tm) (k : Nat) (ks : List Nat) : Prop where
  asc : ks.Pairwise (· < ·)
  lt : ∀ j ∈ ks, j < ts.length
  rest : ∀ j, k ≤ j → j < ts.length → j ∈ ks
  same : ∀ xs, LayOf n T (sel ts ks) xs ↔ LayOf n T ts xs
  need : ∀ j ∈ ks, j < k → ∀ t, ts[j]? = some t → ¬ Ndl n T (sel ts (ks.filter fun i => decide (i ≠ j))) t
theorem sel_data {ts : List Tm} : ∀ {ks : List Nat}, (∀ j ∈ ks, j < ts.length) → ks.map (fun j => ((ts[j]?).map Tm.d).getD .none) = (sel ts ks).map Tm.d
  | [], _ => rfl
  | j :: ks, h => by
    have ih := sel_data (ts := ts) (ks := ks) fun i hi => h i (by simp [hi])
    have hj := h j (by simp)
    unfold sel at ih ⊢
    rw [List.map_cons, ih, List.filterMap_cons, List.getElem?_eq_getElem hj]
    rfl
theorem ones_sum : ∀ ks : List Nat, (ks.map fun _ => (1 : Int)).sum = ks.length
  | [] => rfl
  | _ :: ks => by rw [List.map_cons, List.sum_cons, ones_sum ks, List.length_cons]; omega
def neB (k : Nat) : D → Bool
  | .int i => !decide (i = (k : Int))
  | _ => false
theorem ne_data (ks : List Nat) (k : Nat) : ((nI ks).map PyData.int).filter (neB k) = (nI (ks.filter fun i => decide (i ≠ k))).map .int := by
  unfold nI
  rw [List.map_map, List.filter_map, List.map_map]
  congr 1
  apply List.filter_congr
  intro i _
  show (!decide ((i : Int) = (k : Int))) = decide (i ≠ k)
  by_cases h : i = k
  · subst h; simp
  · rw [decide_eq_true h, decide_eq_false (by omega)]; rfl
/-! ### ease -/
def easT (e : Int) (t : Tm) : Tm := ⟨t.s, t.l, max 0 (t.lo - e), t.hi.map fun i => i + e⟩
theorem easT_ok {n : Int} {e : Int} {t : Tm} (h : t.ok n) (he : 0 ≤ e) : (easT e t).ok n := by
  refine ⟨h.s0, h.s1, h.l0, h.l1, by show 0 ≤ max 0 (t.lo - e); omega, fun i hi => ?_⟩
  have hi : t.hi.map (fun i => i + e) = some i := hi
  obtain ⟨j, hj, rfl⟩ := Option.map_eq_some_iff.mp hi
  have := h.hi0 j hj
  omega
theorem F_eased_eq {n : Int} {e : Int} {ts : List Tm} (hs : ts.length ≤ 10000) : ∃ t, F_eased [.im (rgD n ts), .im (.int e)] = .ok (rgD n (ts.map (easT e)), t) := by
  suffices h : Ev (F_eased [.im (rgD n ts), .im (.int e)]) (fun x s => x = rgD n (ts.map (easT e))) fun _ _ => False by
    obtain ⟨x, s, e, rfl⟩ := ev_eq h; exact ⟨s, e⟩
  refine ev_fun ?_
  unfold g_eased rgD
  walk_at "mirn"
  let A0 : Sl := .im (.tuple [.int n, .tuple (ts.map Tm.d)])
  let A1 : Sl := .im (.int e)
  refine es_forK (fun k en => ∃ a3 a4 a5 a6, en = [some A0, some A1, some (.ow (((ts.take k).map (easT e)).map Tm.d)), a3, a4, a5, a6]) ⟨_, _, _, _, rfl⟩ ?_ ?_
  · rintro k d en hk ⟨a3, a4, a5, a6, rfl⟩
    rw [List.getElem?_map, Option.map_eq_some_iff] at hk
    obtain ⟨t, hk, rfl⟩ := hk
    obtain ⟨hk1, hk2⟩ := List.getElem?_eq_some_iff.mp hk
    have tk : ts.take (k + 1) = ts.take k ++ [t] := by rw [List.take_succ_eq_append_getElem hk1, hk2]
    have ln : (((ts.take k).map (easT e)).map Tm.d).length < sizeLine := by
      rw [List.length_map, List.length_map, List.length_take]
      exact Nat.lt_of_lt_of_le (show min k ts.length < 100000 by omega) (sizeLine_lt _ (by decide))
    have e1 : ∀ o : D, o = oI (t.hi.map fun i => i + e) → (((ts.take k).map (easT e)).map Tm.d) ++ [PyData.tuple [.int t.s, .int t.l, .int (max 0 (t.lo - e)), o]] = ((ts.take (k + 1)).map (easT e)).map Tm.d := by
      rintro o rfl
      rw [tk, List.map_append, List.map_append]
      rfl
    show EvO (tTuple 4 _ (.tuple [.int t.s, .int t.l, .int t.lo, oI t.hi]) _) _
    cases hh : t.hi with
    | none =>
      unfold oI
      walk_at "mirn"
      refine ⟨ln, ?_⟩
      rw [e1 .none (by rw [hh]; rfl)]
      exact ⟨_, _, _, _, rfl⟩
    | some i =>
      unfold oI
      walk_at "mirn"
      refine ⟨ln, ?_⟩
      rw [e1 (.int (i + e)) (by rw [hh]; rfl)]
      exact ⟨_, _, _, _, rfl⟩
  · rintro en ⟨a3, a4, a5, a6, rfl⟩
    rw [List.length_map, List.take_length]
    walk_at "mirn"
    rfl
theorem eas_less {n : Nat} {T a b : Int} {ts : List Tm} {xs : List Int} (h : LayOf n T (ts.map (easT a)) xs) (ab : a ≤ b) : LayOf n T (ts.map (easT b)) xs := by
  refine ⟨h.len, h.nn, h.sum, fun t tm => ?_⟩
  obtain ⟨t0, h0, rfl⟩ := List.mem_map.mp tm
  obtain ⟨c1, c2⟩ := (badT_iff _ _).mp (h.hold _ (List.mem_map_of_mem h0))
  have c1 : max 0 (t0.lo - a) ≤ stn xs t0.s t0.l := c1
  rw [badT_iff]
  refine ⟨?_, fun i hi => ?_⟩
  · show max 0 (t0.lo - b) ≤ stn xs t0.s t0.l
    omega
  · have hi : t0.hi.map (fun i => i + b) = some i := hi
    obtain ⟨j, hj, rfl⟩ := Option.map_eq_some_iff.mp hi
    have := c2 (j + a) (by show t0.hi.map _ = _; rw [hj]; rfl)
    have : stn xs t0.s t0.l ≤ j + a := this
    show stn xs t0.s t0.l ≤ j + b
    omega
theorem stn_le_sum {n : Nat} {xs : List Int} {f l : Int} (hx : xs.length = n) (h0 : ∀ x ∈ xs, 0 ≤ x) (h1 : 1 ≤ n) (f0 : 0 ≤ f) (f1 : f < n) (l0 : 1 ≤ l) (l1 : l ≤ n) : 0 ≤ stn xs f l ∧ stn xs f l ≤ xs.sum := by
  have mono : ∀ a d, pre xs a ≤ pre xs (a + d) := by
    intro a d
    induction d with
    | zero => exact Int.le_refl _
    | succ d ih => exact Int.le_trans ih (pre_mono h0 _)
  rw [stn_fl hx h1 f0 f1 l0 l1]
  generalize hF : f.toNat = F
  generalize hL : l.toNat = L
  have a := pre_nn h0 F
  by_cases q : F + L < n
  · rw [Nat.mod_eq_of_lt q, Nat.div_eq_of_lt q]
    have b := mono F L
    have c := pre_le_all h0 (F + L)
    omega
  · have e1 : (F + L) % n = F + L - n := by
      rw [Nat.mod_eq_sub_mod (by omega)]
      exact Nat.mod_eq_of_lt (by omega)
    have e2 : (F + L) / n = 1 := Nat.div_eq_of_lt_le (by omega) (by omega)
    rw [e1, e2]
    have b := mono (F + L - n) (F - (F + L - n))
    rw [show F + L - n + (F - (F + L - n)) = F by omega] at b
    have c := pre_nn h0 (F + L - n)
    have d := pre_le_all h0 F
    omega
theorem int_max : ∀ {xs : List Int}, xs ≠ [] → ∃ m ∈ xs, ∀ y ∈ xs, y ≤ m
  | [], h => absurd rfl h
  | [x], _ => ⟨x, by simp, by simp⟩
  | x :: y :: r, _ => by
    obtain ⟨m, hm, h⟩ := int_max (xs := y :: r) (by simp)
    by_cases q : m ≤ x
    · exact ⟨x, by simp, fun z hz => by
        rcases List.mem_cons.mp hz with rfl | hz
        · exact Int.le_refl _
        · have := h z hz; omega⟩
    · exact ⟨m, List.mem_cons_of_mem _ hm, fun z hz => by
        rcases List.mem_cons.mp hz with rfl | hz
        · omega
        · exact h z hz⟩
theorem F_ease_eq {n : Nat} {T : Int} {ts : List Tm} (h1 : 1 ≤ n) (h2 : n ≤ 40) (ht : ∀ t ∈ ts, t.ok n) (hs : ts.length ≤ 10000) (hT : 0 ≤ T) (bT : T ≤ 100000000) (bl : ∀ t ∈ ts, t.lo ≤ 100000000) :
    ∃ e b t, 0 ≤ e ∧ (∃ xs, LayOf n T (ts.map (easT e)) xs) ∧ (∀ e', 0 ≤ e' → e' < e → ∀ xs, ¬ LayOf n T (ts.map (easT e')) xs) ∧ ((e = 0 ∧ b = .none) ∨ (0 < e ∧ BelowD n (ts.map (easT (e - 1))) T b)) ∧ e ≤ 100000000 ∧
      F_ease [.im (rgD n ts), .im (.int T)] = .ok (.tuple [.int e, b], t) := by
  suffices h : Ev (F_ease [.im (rgD n ts), .im (.int T)]) (fun x s => ∃ e b, 0 ≤ e ∧ (∃ xs, LayOf n T (ts.map (easT e)) xs) ∧ (∀ e', 0 ≤ e' → e' < e → ∀ xs, ¬ LayOf n T (ts.map (easT e')) xs) ∧ ((e = 0 ∧ b = PyData.none) ∨ (0 < e ∧ BelowD n (ts.map (easT (e - 1))) T b)) ∧ e ≤ 100000000 ∧ x = .tuple [.int e, b]) fun _ _ => False by
    obtain ⟨x, s, q, e, b, a1, a2, a3, a4, a5, rfl⟩ := ev_eq h; exact ⟨e, b, s, a1, a2, a3, a4, a5, q⟩
  have eE := fun (e : Int) (he : 0 ≤ e) => F_found_bar_is (n := n) (T := T) (ts := ts.map (easT e)) h1 (by omega) (fun t tm => by
    obtain ⟨t0, q, rfl⟩ := List.mem_map.mp tm
    exact easT_ok (ht t0 q) he) (by rw [List.length_map]; exact hs)
  have eR := fun (e : Int) => F_eased_eq (n := n) (e := e) (ts := ts) hs
  refine ev_fun ?_
  unfold g_ease
  walk_at "mirn"
  refine ev_of (F_look_at_ring_ok (short_of (by omega)) (ringD_ok (by omega) (by omega) ht)) ?_
  rw [back_ims rfl]
  walk_at "mirn"
  refine ev_of (F_look_at_total_ok (by simp [fromD, hT])) ?_
  rw [back_ims rfl]
  have hix : ixD (rgD n ts) (.int 1) = some (.tuple (ts.map Tm.d)) := rfl
  generalize hRR : rgD n ts = R at *
  let A0 : Sl := .im R
  let A1 : Sl := .im (.int T)
  walk_at "mirn"
  refine ev_lcm (v := loOf) ?_
  refine ev_items (ev_op (ev_var rfl (ev_c (ev_o hix ?_))))
  walk_at "mirn"
  refine ⟨rfl, by rw [List.length_map]; exact sizeLine_lt _ (by omega), fun d hd => ?_, ?_⟩
  · obtain ⟨t, tm, rfl⟩ := List.mem_map.mp hd
    unfold Tm.d
    walk_at "mirn"
    exact ⟨rfl, rfl, rfl⟩
  rw [los_data]
  walk_at "mirn"
  have lm : ([PyData.int T] : List D).length + ((ts.map fun t => t.lo).map PyData.int).length ≤ 1000000 := by
    rw [List.length_map, List.length_map, List.length_singleton]; omega
  refine ev_o (addD_list lm) ?_
  obtain ⟨mx, hm, hmax⟩ := int_max (xs := T :: ts.map fun t => t.lo) (by simp)
  have mT : T ≤ mx := hmax T (by simp)
  have mL : ∀ t ∈ ts, t.lo ≤ mx := fun t tm => hmax _ (List.mem_cons_of_mem _ (List.mem_map_of_mem tm))
  have mB : mx ≤ 100000000 := by
    rcases List.mem_cons.mp hm with rfl | hm
    · exact bT
    · obtain ⟨t, tm, rfl⟩ := List.mem_map.mp hm
      exact bl t tm
  have e2 : ([PyData.int T] : List D) ++ (ts.map fun t => t.lo).map PyData.int = (T :: ts.map fun t => t.lo).map .int := rfl
  rw [e2]
  walk_at "mirn"
  refine ev_o (maxD_ints hm hmax) ?_
  walk_at "mirn"
  have top : ∃ xs, LayOf n T (ts.map (easT mx)) xs := by
    have ln : ((T :: List.replicate (n - 1) 0) : List Int).length = n := by simp; omega
    have nn : ∀ x ∈ ((T :: List.replicate (n - 1) 0) : List Int), 0 ≤ x := fun x hx => by
      rcases List.mem_cons.mp hx with rfl | hx
      · exact hT
      · rw [List.eq_of_mem_replicate hx]; exact Int.le_refl _
    have sm : ((T :: List.replicate (n - 1) 0) : List Int).sum = T := by
      rw [List.sum_cons]
      have : ∀ k, (List.replicate k (0 : Int)).sum = 0 := fun k => by
        induction k with
        | zero => rfl
        | succ k ih => rw [List.replicate_succ, List.sum_cons, ih]; rfl
      rw [this]; omega
    refine ⟨_, ln, nn, sm, fun t tm => ?_⟩
    obtain ⟨t0, q, rfl⟩ := List.mem_map.mp tm
    have ok := ht t0 q
    obtain ⟨b1, b2⟩ := stn_le_sum ln nn h1 ok.s0 ok.s1 ok.l0 ok.l1
    rw [sm] at b2
    rw [badT_iff]
    refine ⟨?_, fun i hi => ?_⟩
    · show max 0 (t0.lo - mx) ≤ stn _ t0.s t0.l
      have := mL t0 q
      omega
    · have hi : t0.hi.map (fun i => i + mx) = some i := hi
      obtain ⟨j, hj, rfl⟩ := Option.map_eq_some_iff.mp hi
      have := ok.hi0 j hj
      show stn _ t0.s t0.l ≤ j + mx
      omega
  refine es_whileI (I := fun e => ∃ lo hi a4, -1 ≤ lo ∧ lo < hi ∧ hi ≤ mx ∧ (∃ xs, LayOf n T (ts.map (easT hi)) xs) ∧ (0 ≤ lo → ∀ xs, ¬ LayOf n T (ts.map (easT lo)) xs) ∧ e = [some A0, some A1, some (.im (.int lo)), some (.im (.int hi)), a4, none])
    (m := fun e : En => match e[2]?, e[3]? with | some (some (Sl.im (.int lo))), some (some (Sl.im (.int hi))) => (hi - lo).toNat | _, _ => 0) ?_ ⟨-1, mx, _, by omega, by omega, by omega, top, (fun q => by omega), rfl⟩ ?_
  · rintro e ⟨lo, hi, a4, l0, lh, hb, hA, nA, rfl⟩
    walk_at "mirn"
    refine ⟨fun q => ?_, fun q => ?_⟩
    · have q := of_decide_eq_true q
      walk_at "mirn"
      have m0 : lo < (lo + hi) / 2 ∧ (lo + hi) / 2 < hi ∧ 0 ≤ (lo + hi) / 2 := by omega
      generalize (lo + hi) / 2 = M at m0
      obtain ⟨t1, e1⟩ := eR M
      obtain ⟨t2, e2⟩ := eE M m0.2.2
      refine es_if ?_
      walk_at "mirn"
      refine ev_of e1 ?_
      rw [back_ims rfl]
      walk_at "mirn"
      rcases e2 with ⟨e2, hx⟩ | ⟨us, ws, r, B, S, no, e2⟩
      · refine ev_of e2 ?_
        rw [back_ims rfl]
        walk_at "mirn"
        refine ⟨⟨lo, M, _, l0, by omega, by omega, hx, nA, rfl⟩, ?_⟩
        show (M - lo).toNat < (hi - lo).toNat
        omega
      · refine ev_of e2 ?_
        rw [back_ims rfl]
        unfold barD
        walk_at "mirn"
        refine ⟨⟨M, hi, _, by omega, by omega, hb, hA, fun _ => no, rfl⟩, ?_⟩
        show (hi - M).toNat < (hi - lo).toNat
        omega
    · have q := of_decide_eq_false q
      have e0 : lo = hi - 1 := by omega
      subst e0
      have min : ∀ e', 0 ≤ e' → e' < hi → ∀ xs, ¬ LayOf n T (ts.map (easT e')) xs := fun e' a b xs X => nA (by omega) xs (eas_less X (by omega))
      walk_at "mirn"
      refine ⟨fun z => ?_, fun z => ?_⟩
      · have z := of_decide_eq_true z
        obtain ⟨t1, e1⟩ := eR (hi - 1)
        obtain ⟨t2, e2⟩ := eE (hi - 1) (by omega)
        walk_at "mirn"
        refine ev_of e1 ?_
        rw [back_ims rfl]
        walk_at "mirn"
        rcases e2 with ⟨e2, xs, hx⟩ | ⟨us, ws, r, B, S, no, e2⟩
        · exact absurd hx (nA (by omega) xs)
        · refine ev_of e2 ?_
          rw [back_ims rfl]
          walk_at "mirn"
          exact ⟨hi, _, by omega, hA, min, .inr ⟨z, us, ws, r, rfl, S, B⟩, by omega, rfl⟩
      · have z := of_decide_eq_false z
        walk_at "mirn"
        exact ⟨hi, _, by omega, hA, min, .inl ⟨by omega, rfl⟩, by omega, rfl⟩
  · unfold n_ease_0
    show (mx - -1).toNat < 1000000000000
    omega
/-! ### insert, and the law's own sorting -/
theorem es_ins {N : En → Prop} {P : D → En → Prop} {B C : En → Prop} {E : Exn → En → Prop} {env : En} {f g : EF} {i : Nat} {ds0 : List D} (hi : env[i]? = some (some (.ow ds0)))
    (q : Ev (g env) (fun k e => Ev (f e) (fun d e => ∃ ds, e[i]? = some (some (.ow ds)) ∧ ∃ n : Int, k = .int n ∧ ds.length < sizeLine ∧ 0 ≤ n ∧ n < 2 ^ 63 ∧ N (e.set i (some (.ow (insD ds n.toNat d))))) E) E) : Es (sIns i g f env) N P B C E := by
  unfold sIns
  rw [hi]
  refine es_bind (ev_imp1 q fun k e q => es_bind (ev_imp1 q fun d e q => ?_))
  obtain ⟨ds, he, n, rfl, h1, h2, h3, q⟩ := q
  simp only [he]
  rw [if_pos ⟨h1, h2, h3⟩]
  exact ⟨q⟩
def ltB (x : Int) : D → Bool
  | .int i => decide (i < x)
  | _ => false
def cntL (L : List Int) (x : Int) : Nat := (L.filter fun y => decide (y < x)).length
def insL (L : List Int) (k : Nat) (x : Int) : List Int := L.take k ++ [x] ++ L.drop k
theorem insL_perm (L : List Int) (k : Nat) (x : Int) : (insL L k x).Perm (L ++ [x]) := by
  unfold insL
  have h : (L.take k ++ [x] ++ L.drop k).Perm (L.take k ++ L.drop k ++ [x]) := by
    rw [List.append_assoc, List.append_assoc]
    exact List.Perm.append_left _ List.perm_append_comm
  rw [List.take_append_drop] at h
  exact h
theorem cnt_take : ∀ {L : List Int} {x : Int}, L.Pairwise (· ≤ ·) → (∀ y ∈ L.take (cntL L x), y < x) ∧ ∀ y ∈ L.drop (cntL L x), x ≤ y
  | [], x, _ => by simp
  | y :: L, x, h => by
    rw [List.pairwise_cons] at h
    obtain ⟨i1, i2⟩ := cnt_take (x := x) h.2
    by_cases q : y < x
    · have e : cntL (y :: L) x = cntL L x + 1 := by unfold cntL; rw [List.filter_cons, if_pos (decide_eq_true q), List.length_cons]
      rw [e, List.take_succ_cons, List.drop_succ_cons]
      refine ⟨fun z hz => ?_, i2⟩
      rcases List.mem_cons.mp hz with rfl | hz
      · exact q
      · exact i1 z hz
    · have e0 : L.filter (fun y => decide (y < x)) = [] := by
        rw [List.filter_eq_nil_iff]
        intro z hz
        have := h.1 z hz
        rw [decide_eq_true_eq]; omega
      have e : cntL (y :: L) x = 0 := by
        unfold cntL
        rw [List.filter_cons, if_neg (by simpa using q), e0]; rfl
      rw [e]
      refine ⟨by simp, fun z hz => ?_⟩
      rw [List.drop_zero] at hz
      rcases List.mem_cons.mp hz with rfl | hz
      · omega
      · have := h.1 z hz; omega
theorem insL_sorted {L : List Int} {x : Int} (h : L.Pairwise (· ≤ ·)) : (insL L (cntL L x) x).Pairwise (· ≤ ·) := by
  obtain ⟨i1, i2⟩ := cnt_take (x := x) h
  unfold insL
  rw [List.append_assoc, List.pairwise_append]
  refine ⟨h.sublist (List.take_sublist _ _), ?_, fun a ha b hb => ?_⟩
  · rw [List.singleton_append, List.pairwise_cons]
    exact ⟨i2, h.sublist (List.drop_sublist _ _)⟩
  · have := i1 a ha
    rw [List.singleton_append] at hb
    rcases List.mem_cons.mp hb with rfl | hb
    · omega
    · have := i2 b hb; omega
theorem insL_srt (xs : List Int) (x : Int) : insL (sortI xs) (cntL (sortI xs) x) x = sortI (xs ++ [x]) :=
  sortI_is ((insL_perm _ _ _).trans ((sortI_perm xs).append_right _)) (insL_sorted (sortI_sorted xs))
theorem ltB_filter (L : List Int) (x : Int) : ((L.map PyData.int).filter (ltB x)).length = cntL L x := by
  unfold cntL
  rw [List.filter_map, List.length_map]
  rfl
theorem insD_map (L : List Int) (k : Nat) (x : Int) : insD (L.map PyData.int) k (.int x) = (insL L k x).map .int := by
  unfold insD insL
  rw [List.map_append, List.map_append, List.map_take, List.map_drop]; rfl
/-! ### each once; short bars -/
theorem es_setDk0 {N : En → Prop} {P : D → En → Prop} {B C : En → Prop} {E : Exn → En → Prop} {env : En} {j : Nat} (q : N (env.set j (some (.dk [])))) : Es (sSetDk0 j env) N P B C E := ⟨q⟩
theorem ev_dkeys {Q : D → En → Prop} {E : Exn → En → Prop} {env : En} {i : Nat} {kvs : List (Key × D)} (hi : env[i]? = some (some (.dk kvs))) (hl : kvs.length < sizeLine) (q : Q (.list (kvs.map fun kv => keyD kv.1)) env) : Ev (fDKeys i env) Q E := by
  unfold fDKeys
  rw [hi]
  simp only [hl, if_true]
  exact ⟨q⟩
def onceK (us : List Nat) : List (Key × D) := us.map fun j : Nat => (Sum.inl (j : Int), .bool true)
theorem onceK_put {us : List Nat} {j : Nat} (h : j ∉ us) : putD (onceK us) (.inl (j : Int)) (.bool true) = onceK (us ++ [j]) := by
  unfold putD
  rw [if_neg]
  · unfold onceK; rw [List.map_append]; rfl
  · intro q
    obtain ⟨p, hp, e⟩ := List.any_eq_true.mp q
    obtain ⟨i, hi, rfl⟩ := List.mem_map.mp hp
    have e := of_decide_eq_true e
    have e : (i : Int) = j := by injection e
    exact h (by rw [← Int.natCast_inj.mp e]; exact hi)
theorem F_law_once_nd {us : List Nat} (nd : us.Nodup) (hl : us.length ≤ 1000000) : ∃ t, F_law_once [.im (.list ((nI us).map .int))] = .ok (.list ((nI us).map .int), t) := by
  suffices h : Ev (F_law_once [.im (.list ((nI us).map .int))]) (fun x t => x = .list ((nI us).map .int)) fun _ _ => False by
    obtain ⟨x, t, e, rfl⟩ := ev_eq h; exact ⟨t, e⟩
  refine ev_fun ?_
  unfold g_law_once
  refine es_seq (es_setDk0 ?_)
  let A0 : Sl := .im (.list ((nI us).map .int))
  walk_at "mirn"
  refine es_forK (fun k e => ∃ a2, e = [some A0, some (.dk (onceK (us.take k))), a2]) ⟨_, rfl⟩ ?_ ?_
  · rintro k d e hk ⟨a2, rfl⟩
    have hk1 : k < us.length := by
      have := (List.getElem?_eq_some_iff.mp hk).1
      rwa [nI_len] at this
    have ed : d = .int ((us[k] : Nat) : Int) := by
      unfold nI at hk
      rw [List.getElem?_map, List.getElem?_map, List.getElem?_eq_getElem hk1] at hk
      cases hk; rfl
    subst ed
    have tk : us.take (k + 1) = us.take k ++ [us[k]] := by rw [List.take_succ_eq_append_getElem hk1]
    have ni : us[k] ∉ us.take k := fun q => by
      rw [← List.take_append_drop (k + 1) us, tk, List.append_assoc, List.nodup_append] at nd
      exact nd.2.2 _ q _ (List.mem_append.mpr (.inl (List.mem_singleton_self _))) rfl
    walk_at "mirn"
    refine es_dsto ?_
    walk_at "mirn"
    refine ⟨⟨_, rfl⟩, ?_⟩
    walk_at "mirn"
    refine ⟨?_, .inl ((us[k] : Nat) : Int), rfl, ?_⟩
    · unfold onceK
      rw [List.length_map, List.length_take]
      exact Nat.lt_of_lt_of_le (show min k us.length < 2000000 by omega) (sizeLine_lt _ (by decide))
    · have e := onceK_put ni
      rw [← tk] at e
      exact ⟨_, by rw [← e]; rfl⟩
  · rintro e ⟨a2, rfl⟩
    rw [nI_len, List.take_length]
    refine es_ret (ev_dkeys rfl ?_ ?_)
    · unfold onceK
      rw [List.length_map]
      exact Nat.lt_of_lt_of_le (show us.length < 2000000 by omega) (sizeLine_lt _ (by decide))
    · unfold onceK nI
      rw [List.map_map, List.map_map]
      rfl
theorem F_law_short_ok {n : Nat} {ts : List Tm} {us ws : List Nat} {r : Int} (S : Short n us ws r) (h2 : n ≤ 1000) : ∃ t, F_law_short [.im (rgD n ts), .im (barD us ws r)] = .ok (.bool true, t) := by
  suffices h : Ev (F_law_short [.im (rgD n ts), .im (barD us ws r)]) (fun x t => x = .bool true) fun _ _ => False by
    obtain ⟨x, t, e, rfl⟩ := ev_eq h; exact ⟨t, e⟩
  have sl := S.len
  obtain ⟨t1, e1⟩ := F_law_once_nd S.ud (by omega)
  obtain ⟨t2, e2⟩ := F_law_once_nd S.wd (by omega)
  refine ev_fun ?_
  unfold g_law_short barD
  have e3 : addD (.list ((nI us).map .int)) (.list ((nI ws).map .int)) = some (.list ((nI us).map .int ++ (nI ws).map .int)) := by
    simp only [addD]; rw [if_pos (by rw [nI_len, nI_len]; exact sizeLine_lt _ (by omega))]
  unfold rgD
  walk_at "mirn"
  refine es_if ?_
  walk_at "mirn"
  refine ev_of e1 ?_
  rw [back_ims rfl]
  walk_at "mirn"
  refine ff_of (by simp) ?_
  walk_at "mirn"
  refine ev_of e2 ?_
  rw [back_ims rfl]
  walk_at "mirn"
  refine ff_of (by simp) ?_
  walk_at "mirn"
  refine ev_o e3 ?_
  walk_at "mirn"
  show PyData.bool _ = _
  congr 1
  rw [decide_eq_true_eq, List.length_append, nI_len, nI_len]
  omega
/-! ### words told; sizes of bars -/
theorem eq_bl : eqD (.str "laying") (.str "barred") = some (.bool false) := by kernel_rfl
theorem eq_bb : eqD (.str "barred") (.str "barred") = some (.bool true) := by kernel_rfl
theorem eq_ll : eqD (.str "laying") (.str "laying") = some (.bool true) := by kernel_rfl
theorem eq_lb : eqD (.str "barred") (.str "laying") = some (.bool false) := by kernel_rfl
theorem eq_tt : eqD (.str "totals") (.str "totals") = some (.bool true) := by kernel_rfl
theorem eq_bt : eqD (.str "barred") (.str "totals") = some (.bool false) := by kernel_rfl
theorem ne_tt : neD (.str "totals") (.str "totals") = some (.bool false) := by kernel_rfl
theorem ne_ll : neD (.str "laying") (.str "laying") = some (.bool false) := by kernel_rfl
theorem ne_bb : neD (.str "barred") (.str "barred") = some (.bool false) := by kernel_rfl
theorem ne_lb : neD (.str "laying") (.str "barred") = some (.bool true) := by kernel_rfl
theorem loS_raw {m : Int} {ts : List Tm} (h : ∀ t ∈ ts, RawT m t) : loS ts ≤ 1000000 * ts.length ∧ hiS ts ≤ 1000000 * ts.length := by
  unfold loS hiS
  induction ts with
  | nil => exact ⟨by simp, by simp⟩
  | cons t ts ih =>
    obtain ⟨a, b⟩ := ih fun x hx => h x (by simp [hx])
    have c := (h t (by simp)).lo1
    have d := (h t (by simp)).hi0
    rw [List.map_cons, List.sum_cons, List.filterMap_cons, List.length_cons]
    refine ⟨by omega, ?_⟩
    cases hh : t.hi with
    | none => simp only; omega
    | some i =>
      have := d i hh
      simp only [List.sum_cons]
      omega
theorem barSz_short {n : Nat} {us ws : List Nat} {r : Int} (S : Short n us ws r) (h2 : n ≤ 40) : BarSz (barD us ws r) := by
  have sl := S.len
  refine ⟨fun a b c e => ?_⟩
  unfold barD at e
  cases e
  exact ⟨fun xs e => by cases e; unfold nI; rw [List.length_map, List.length_map]; omega, fun xs e => by cases e; unfold nI; rw [List.length_map, List.length_map]; omega⟩
/-! ### the law's own look at a bar -/
theorem law_whole_eq (d : D) : F_law_whole [.im d] = .ok (.bool (wholeD d), [.im d]) := by cases d <;> rfl
theorem law_is_from_eq (d : D) (lo : Int) : F_law_is_from [.im d, .im (.int lo)] = .ok (.bool (fromD d lo), [.im d, .im (.int lo)]) := by
  refine ev_eqs (ev_fun ?_)
  unfold g_law_is_from
  walk_at "mir"
  refine ev_of (law_whole_eq d) ?_
  walk_at "mir"
  cases d with
  | int i =>
    refine ⟨fun _ => ?_, fun h => nomatch h⟩
    walk_at "mir"
    exact ⟨rfl, rfl⟩
  | _ => exact ⟨(fun h => nomatch h), fun _ => ⟨rfl, rfl⟩⟩
def dscB (xs : List Int) : D → Bool
  | .int k => decide (xs.getD k.toNat 0 < xs.getD (k.toNat - 1) 0)
  | _ => false
theorem asc_filter : ∀ xs : List Int, ((rangeL 1 (xs.length - 1)).filter (dscB xs)).isEmpty = ascB xs := by
  intro xs
  have step : ∀ (ys : List Int), ascB ys = (List.range (ys.length - 1)).all fun i => decide (ys.getD i 0 ≤ ys.getD (i + 1) 0) := by
    intro ys
    induction ys with
    | nil => rfl
    | cons x r ih =>
      cases r with
      | nil => rfl
      | cons y r =>
        rw [ascB_cons2, ih, show (x :: y :: r).length - 1 = ((y :: r).length - 1) + 1 by simp, List.range_succ_eq_map, List.all_cons, List.all_map]
        rfl
  rw [step]
  have e : (rangeL 1 (xs.length - 1)).filter (dscB xs) = ((List.range (xs.length - 1)).filter fun i => !decide (xs.getD i 0 ≤ xs.getD (i + 1) 0)).map fun i => PyData.int (1 + (i : Nat)) := by
    unfold rangeL
    rw [List.filter_map]
    congr 1
    apply List.filter_congr
    intro i _
    show decide (xs.getD (1 + (i : Int)).toNat 0 < xs.getD ((1 + (i : Int)).toNat - 1) 0) = !decide (xs.getD i 0 ≤ xs.getD (i + 1) 0)
    rw [show (1 + (i : Int)).toNat = i + 1 by omega, Nat.add_sub_cancel]
    by_cases h : xs.getD i 0 ≤ xs.getD (i + 1) 0
    · rw [decide_eq_true h, decide_eq_false (by omega)]; rfl
    · rw [decide_eq_false h, decide_eq_true (by omega)]; rfl
  rw [e]
  generalize List.range (xs.length - 1) = is
  induction is with
  | nil => rfl
  | cons i is ih =>
    rw [List.filter_cons, List.all_cons]
    cases h : decide (xs.getD i 0 ≤ xs.getD (i + 1) 0)
    · rfl
    · simp only [Bool.not_true, Bool.false_eq_true, if_false, Bool.true_and]; exact ih
theorem nice_rngf {lo : Int} {n : Nat} (p : D → Bool) (h0 : -1000000000 ≤ lo) (h1 : lo + n ≤ 1000000000) : Nice 1 ((100 + 1) * n) (.list ((rangeL lo n).filter p)) := by
  refine nice_list (n := 0) (fun d hd => ?_) (Nat.le_trans (List.length_filter_le _ _) (by rw [rangeL_length]; exact Nat.le_refl _))
  obtain ⟨i, hi, rfl⟩ := rangeL_mem (List.mem_filter.mp hd).1
  exact nice_small (by omega) (by omega)
def noHi (ts : List Tm) (d : D) : Bool := (hiN ts (whlI d).toNat).isNone
theorem cap_filter (ts : List Tm) (ws : List Nat) : (((nI ws).map PyData.int).filter (noHi ts)).isEmpty = capB ts ws := by
  unfold capB nI
  induction ws with
  | nil => rfl
  | cons j ws ih =>
    rw [List.map_cons, List.map_cons, List.filter_cons, List.all_cons]
    show (if (hiN ts ((j : Int)).toNat).isNone = true then _ else _ : List D).isEmpty = _
    rw [Int.toNat_natCast]
    cases h : hiN ts j
    · rfl
    · simp only [Option.isNone_some, Bool.false_eq_true, if_false, Option.isSome_some, Bool.true_and]; exact ih
theorem nice_nIf {c : Nat} {us : List Nat} (p : D → Bool) (h : ∀ j ∈ us, j < c) (hc : c ≤ 1000000) : Nice 1 ((100 + 1) * us.length) (.list (((nI us).map PyData.int).filter p)) := by
  refine nice_list (n := 0) (fun d hd => ?_) (Nat.le_trans (List.length_filter_le _ _) (by rw [nI_len]; exact Nat.le_refl _))
  obtain ⟨j, hj, rfl⟩ := nI_mem (List.mem_filter.mp hd).1
  have := h j hj
  exact nice_small (by omega) (by omega)
theorem exmax (f : Nat → Int) : ∀ n, 1 ≤ n → ∃ k, k < n ∧ ∀ q, q < n → f q ≤ f k
  | 0, h => absurd h (by decide)
  | n + 1, _ => by
    by_cases z : n = 0
    · subst z; exact ⟨0, by omega, fun q hq => by rw [show q = 0 by omega]; exact Int.le_refl _⟩
    · obtain ⟨k, hk, h⟩ := exmax f n (by omega)
      by_cases w : f n ≤ f k
      · refine ⟨k, by omega, fun q hq => ?_⟩
        by_cases e : q = n
        · rw [e]; exact w
        · exact h q (by omega)
      · refine ⟨n, by omega, fun q hq => ?_⟩
        by_cases e : q = n
        · rw [e]; exact Int.le_refl _
        · have := h q (by omega); omega
theorem maxD_cL {n : Nat} (f : Nat → Int) (h1 : 1 ≤ n) : ∃ m, maxD [.list (cL n f)] = some (.int m) ∧ ∀ r, decide (m ≤ r) = (List.range n).all fun q => decide (f q ≤ r) := by
  obtain ⟨k, hk, h⟩ := exmax f n h1
  refine ⟨f k, ?_, fun r => ?_⟩
  · have e : cL n f = ((List.range n).map f).map .int := by unfold cL; rw [List.map_map]; rfl
    rw [e]
    refine maxD_ints (List.mem_map.mpr ⟨k, List.mem_range.mpr hk, rfl⟩) fun y hy => ?_
    obtain ⟨q, hq, rfl⟩ := List.mem_map.mp hy
    exact h q (List.mem_range.mp hq)
  · rw [Bool.eq_iff_iff, decide_eq_true_eq, List.all_eq_true]
    constructor
    · intro a q hq
      have := h q (List.mem_range.mp hq)
      exact decide_eq_true (by omega)
    · intro a
      exact of_decide_eq_true (a k (List.mem_range.mpr hk))
theorem isD_none (o : Option Int) : isD (oI o) .none = some (.bool o.isNone) := by cases o <;> rfl
theorem F_law_is_bar_eq {n : Nat} {T : Int} {ts : List Tm} {d : D} (h1 : 1 ≤ n) (h2 : n ≤ 40) (ht : ∀ t ∈ ts, t.ok n) (hs : ts.length ≤ 10000) (hT : 0 ≤ T) (hT1 : T ≤ 1000000) (hd : BarSz d) :
    ∃ t, F_law_is_bar [.im (rgD n ts), .im (.int T), .im d] = .ok (.bool (isBarB n ts T d), t) := by
  suffices h : Ev (F_law_is_bar [.im (rgD n ts), .im (.int T), .im d]) (fun x t => x = .bool (isBarB n ts T d)) fun _ _ => False by
    obtain ⟨x, t, e, rfl⟩ := ev_eq h; exact ⟨t, e⟩
  have tt : ∀ j, j < ts.length → ∃ t, ts[j]? = some t := fun j hj => ⟨_, List.getElem?_eq_getElem hj⟩
  refine ev_fun ?_
  unfold g_law_is_bar
  generalize hN : (n : Int) = N at *
  walk_at "mir"
  refine ev_o isTy_tuple_of ?_
  walk_at "mir"
  cases d with
  | tuple ds =>
    refine ⟨(fun h => nomatch h), fun _ => ?_⟩
    walk_at "mir"
    refine ⟨fun h => ?_, fun h => ?_⟩
    · walk_at "mir"
      match ds, h with
      | [], _ => rfl
      | [_], _ => rfl
      | [_, _], _ => rfl
      | [_, _, _], h => simp at h
      | _ :: _ :: c :: _ :: _, _ => cases c <;> rfl
    · have hl : (ds.length : Int) = 3 := by simpa using h
      match ds, hl with
      | [], hl => simp at hl
      | [_], hl => simp at hl
      | [_, _], hl => simp at hl
      | _ :: _ :: _ :: _ :: r, hl => simp at hl; omega
      | [a, b, c], _ =>
      obtain ⟨da, db⟩ := hd.sz a b c rfl
      walk_at "mir"
      refine ev_of (law_whole_eq _) ?_
      rw [back_ims rfl]
      walk_at "mir"
      cases c with
      | int r =>
        refine ⟨(fun h => nomatch h), fun _ => ?_⟩
        walk_at "mir"
        let A0 : Sl := .im (rgD N ts)
        let A1 : Sl := .im (.int T)
        let A2 : Sl := .im (.tuple [a, b, .int r])
        rw [show cutD [a, b, .int r] none (some 2) = [a, b] from rfl]
        refine es_forK (fun k e => (1 ≤ k → numsB ts.length a = true) ∧ (2 ≤ k → numsB ts.length b = true) ∧ ∃ a3 a4, OkS a4 ∧ e = [some A0, some A1, some A2, a3, a4, none, none, none, none]) ⟨(fun q => by omega), (fun q => by omega), _, _, okS_none, rfl⟩ ?_ ?_
        · rintro k x e hk ⟨ka, kb, a3, a4, ok4, rfl⟩
          have hx : (k = 0 ∧ x = a) ∨ (k = 1 ∧ x = b) := by
            match k, hk with
            | 0, hk => exact .inl ⟨rfl, by simpa using hk.symm⟩
            | 1, hk => exact .inr ⟨rfl, by simpa using hk.symm⟩
            | k + 2, hk => simp at hk
          have sx : ∀ xs, x = .list xs → xs.length ≤ 1000000 := by
            rcases hx with ⟨_, rfl⟩ | ⟨_, rfl⟩
            · exact da
            · exact db
          have bad : numsB ts.length x = false → isBarB n ts T (.tuple [a, b, .int r]) = false := by
            intro q
            rcases hx with ⟨_, rfl⟩ | ⟨k1, rfl⟩
            · simp only [isBarB, q, Bool.false_and]
            · simp only [isBarB, q, Bool.false_and, Bool.and_false]
          have good : numsB ts.length x = true → (1 ≤ k + 1 → numsB ts.length a = true) ∧ (2 ≤ k + 1 → numsB ts.length b = true) := by
            intro q
            rcases hx with ⟨k0, rfl⟩ | ⟨k1, rfl⟩
            · exact ⟨fun _ => q, fun z => by omega⟩
            · exact ⟨fun _ => ka (by omega), fun _ => q⟩
          clear hk hx
          walk_at "mir"
          refine ev_o isTy_list_of ?_
          walk_at "mir"
          cases x with
          | list xs =>
            have hl := sx xs rfl
            refine ⟨(fun h => nomatch h), fun _ => ?_⟩
            walk_at "mir"
            refine es_forK (fun j e => (∀ y ∈ xs.take j, numD ts.length y = true) ∧ ∃ a4, OkS a4 ∧ e = [some A0, some A1, some A2, some (.im (.list xs)), a4, none, none, none, none]) ⟨by simp, _, ok4, rfl⟩ ?_ ?_
            · rintro j y e hj ⟨hy, a4, _, rfl⟩
              obtain ⟨hj1, hj2⟩ := List.getElem?_eq_some_iff.mp hj
              have tk : xs.take (j + 1) = xs.take j ++ [y] := by rw [List.take_succ_eq_append_getElem hj1, hj2]
              have no : numD ts.length y = false → isBarB n ts T (.tuple [a, b, .int r]) = false := by
                intro q
                refine bad ?_
                have : xs.all (numD ts.length) = false := by
                  rw [List.all_eq_false]
                  exact ⟨y, List.mem_of_getElem? hj, by rw [q]; simp⟩
                simp only [numsB, this, Bool.false_and]
              walk_at "mir"
              refine ev_of (law_is_from_eq _ _) ?_
              rw [back_ims rfl]
              walk_at "mir"
              cases y with
              | int i =>
                refine ⟨fun q => ?_, fun q => ?_⟩
                · have q : decide (0 ≤ i) = false := by rw [Bool.not_eq_true'] at q; exact q
                  walk_at "mir"
                  rw [no (by simp only [numD, q, Bool.false_and])]
                have q : decide (0 ≤ i) = true := by rw [Bool.not_eq_false'] at q; exact q
                walk_at "mir"
                refine ⟨fun w => ?_, fun w => ?_⟩
                · have w : ¬ i < (ts.length : Int) := by have := of_decide_eq_true w; omega
                  walk_at "mir"
                  rw [no (by simp only [numD, decide_eq_false w, Bool.and_false])]
                · have w : i < (ts.length : Int) := by have := of_decide_eq_false w; omega
                  walk_at "mir"
                  refine ⟨fun y hy' => ?_, _, okS_im, rfl⟩
                  rw [tk] at hy'
                  rcases List.mem_append.mp hy' with hy' | hy'
                  · exact hy y hy'
                  · rw [List.mem_singleton] at hy'
                    subst hy'
                    simp only [numD, q, decide_eq_true w, Bool.and_self]
              | _ =>
                refine ⟨fun _ => ?_, fun h => nomatch h⟩
                walk_at "mir"
                rw [no rfl]
            · rintro e ⟨hy, a4, ok4, rfl⟩
              rw [List.take_length] at hy
              have hall : xs.all (numD ts.length) = true := List.all_eq_true.mpr hy
              obtain ⟨e1, e2, e3⟩ := nums_all hall
              have e4 : numsB ts.length (.list xs) = ascB (nI (natsOf (.list xs))) := by
                show (xs.all _ && ascB (xs.map whlI)) = _
                rw [hall, e3, Bool.true_and]
              have hn : (nI (natsOf (.list xs))).length = xs.length := by rw [← e3, List.length_map]
              generalize natsOf (.list xs) = us at e1 e2 e3 e4 hn
              walk_at "mir"
              refine ev_lc (b := dscB (nI us)) (v := id) (P0 := fun _ _ => True) ?_
              walk_at "mir"
              have e5 : ((xs.length : Int) - 1).toNat = (nI us).length - 1 := by omega
              rw [e5]
              refine ⟨rfl, by rw [rangeL_length]; exact sizeLine_lt _ (by omega), fun d hd => ?_, ?_⟩
              · obtain ⟨i, hi, rfl⟩ := rangeL_mem hd
                walk_at "mir"
                refine ev_o (r := .int ((nI us).getD i 0)) (by rw [e1, ixD_list, atI_int (by omega) (by omega)]; congr 2; rw [show (1 + (i : Int) - 1).toNat = i by omega]) ?_
                walk_at "mir"
                refine ev_o (r := .int ((nI us).getD (i + 1) 0)) (by rw [e1, ixD_list, atI_int (by omega) (by omega)]; congr 2; rw [show (1 + (i : Int)).toNat = i + 1 by omega]) ?_
                walk_at "mir"
                refine ⟨?_, fun _ => ev_var rfl ⟨rfl, rfl, rfl⟩, fun _ => ⟨rfl, rfl⟩⟩
                show _ = decide ((nI us).getD (1 + (i : Int)).toNat 0 < (nI us).getD ((1 + (i : Int)).toNat - 1) 0)
                rw [show (1 + (i : Int)).toNat = i + 1 by omega, Nat.add_sub_cancel]
              rw [List.map_id]
              walk_at "mir"
              refine ev_o (neD_nilN (nice_rngf _ (by decide) (by omega))) ?_
              rw [asc_filter]
              walk_at "mir"
              refine ⟨fun q => ?_, fun q => ?_⟩
              · walk_at "mir"
                rw [bad (by rw [e4]; simpa using q)]
              · walk_at "mir"
                obtain ⟨g1, g2⟩ := good (by rw [e4]; simpa using q)
                exact ⟨g1, g2, _, _, ok4, rfl⟩
          | _ =>
            refine ⟨(fun h => ?_), fun h => nomatch h⟩
            walk_at "mir"
            rw [bad rfl]
        · rintro e ⟨ka, kb, a3, a4, ok4, rfl⟩
          have ha := ka (Nat.le_of_ble_eq_true rfl)
          have hb := kb (Nat.le_of_ble_eq_true rfl)
          have e0 : isBarB n ts T (.tuple [a, b, .int r]) = restB n ts T (natsOf a) (natsOf b) r := by simp only [isBarB, ha, hb, Bool.true_and]
          rw [e0]
          obtain ⟨ea, ua, _⟩ := numsB_is ha
          obtain ⟨eb, ub, _⟩ := numsB_is hb
          clear e0 ka kb
          generalize natsOf a = us at ea ua ⊢
          generalize natsOf b = ws at eb ub ⊢
          subst ea eb
          have su : us.length ≤ 1000000 := by have := da _ rfl; rw [nI_len] at this; exact this
          have sw : ws.length ≤ 1000000 := by have := db _ rfl; rw [nI_len] at this; exact this
          walk_at "mir"
          refine ev_lc (b := noHi ts) (v := id) (P0 := fun _ _ => True) ?_
          walk_at "mir"
          refine ⟨by rcases ok4 with rfl | ⟨_, rfl⟩ <;> rfl, by rw [nI_len]; exact sizeLine_lt _ (by omega), fun d hd => ?_, ?_⟩
          · obtain ⟨j, hj, rfl⟩ := nI_mem hd
            obtain ⟨t, htj⟩ := tt j (ub j hj)
            walk_at "mir"
            refine ev_o (ix_termU (m := N) htj) ?_
            walk_at "mir"
            refine ev_o (isD_none _) ?_
            walk_at "mir"
            refine ⟨?_, fun _ => ev_var rfl ⟨rfl, rfl, rfl⟩, fun _ => ⟨rfl, rfl⟩⟩
            show _ = (hiN ts ((j : Int)).toNat).isNone
            unfold hiN
            rw [Int.toNat_natCast, htj]
          rw [List.map_id]
          walk_at "mir"
          refine ev_o (neD_nilN (nice_nIf (c := ts.length) _ ub (by omega))) ?_
          rw [cap_filter]
          walk_at "mir"
          refine ⟨fun hc => ?_, fun hc => ?_⟩
          · rw [Bool.not_eq_true'] at hc
            walk_at "mir"
            simp only [restB, hc, Bool.false_and]
          rw [Bool.not_eq_false'] at hc
          walk_at "mir"
          refine ev_o (repD_zero (by omega) (by omega)) ?_
          walk_at "mir"
          rw [show N.toNat = n by omega, cL_zero]
          refine es_forK (fun k e => ∃ f a4 a7, (∀ q, q < n → f q = covN N ts (us.take k) q) ∧ e = [some A0, some A1, some A2, a3, a4, some (.ow (cL n f)), some (.im (.int ((us.take k).map (loN ts)).sum)), a7, none]) ⟨fun _ => 0, _, _, fun q hq => rfl, rfl⟩ ?_ ?_
          · rintro k d e hk ⟨f, a4, a7, hf, rfl⟩
            unfold nI at hk
            rw [List.getElem?_map, List.getElem?_map, Option.map_map, Option.map_eq_some_iff] at hk
            obtain ⟨j, hj, rfl⟩ := hk
            obtain ⟨hk1, hk2⟩ := List.getElem?_eq_some_iff.mp hj
            have tk : us.take (k + 1) = us.take k ++ [j] := by rw [List.take_succ_eq_append_getElem hk1, hk2]
            obtain ⟨t, htj⟩ := tt j (ua j (List.mem_of_getElem? hj))
            have tok := ht t (List.mem_of_getElem? htj)
            have q1 := tok.l0; have q2 := tok.l1
            have elo : loN ts j = t.lo := by unfold loN; rw [htj]
            show EvO (tN 4 (.int (j : Int)) _) _
            walk_at "mir"
            refine ev_o (ix_termU (m := N) htj) ?_
            walk_at "mir"
            refine ev_o (ix_termU (m := N) htj) ?_
            walk_at "mir"
            refine ev_o (ix_termU (m := N) htj) ?_
            walk_at "mir"
            obtain ⟨t1, e1⟩ := F_law_places_eq (n := N) (s := t.s) (l := t.l) (by omega) (by omega) (by omega)
            refine ev_of e1 ?_
            rw [back_ims rfl]
            unfold lI
            walk_at "mir"
            refine es_forK (fun i e => ∃ f' a7, (∀ q, q < n → f' q = f q + 1 * cntP ((plc N t.s t.l).take i) q) ∧ e = [some A0, some A1, some A2, a3, some (.im (.int (j : Int))), some (.ow (cL n f')), some (.im (.int (((us.take k).map (loN ts)).sum + t.lo))), a7, none]) ⟨f, _, fun q hq => by simp [cntP], rfl⟩ ?_ ?_
            · rintro i d e hi ⟨f', a7, hf', rfl⟩
              rw [List.getElem?_map, Option.map_eq_some_iff] at hi
              obtain ⟨p, hp, rfl⟩ := hi
              obtain ⟨hp1, hp2⟩ := List.getElem?_eq_some_iff.mp hp
              obtain ⟨p0, p1⟩ := plc_lt (n := N) (by omega) (List.mem_of_getElem? hp)
              have tk2 : (plc N t.s t.l).take (i + 1) = (plc N t.s t.l).take i ++ [p] := by rw [List.take_succ_eq_append_getElem hp1, hp2]
              walk_at "mir"
              refine ⟨p0, f' p.toNat, cL_get (by omega), ?_⟩
              walk_at "mir"
              refine ⟨by rw [cL_length]; omega, ?_⟩
              obtain ⟨f2, e2, h2⟩ := cL_step (x := f' p.toNat + 1) p0 (by omega) rfl hf'
              rw [e2]
              rw [← tk2] at h2
              exact ⟨f2, _, h2, rfl⟩
            · rintro e ⟨f', a7, hf', rfl⟩
              rw [List.length_map, List.take_length] at hf'
              refine ⟨f', some (.im (.int (j : Int))), a7, fun q hq => ?_, ?_⟩
              · rw [hf' q hq, hf q hq, tk, covN_app]
                unfold covT
                rw [htj, Int.one_mul]
              · rw [tk, List.map_append, List.sum_append]
                simp only [List.map_cons, List.map_nil, List.sum_cons, List.sum_nil, elo, Int.add_zero]
          rintro e ⟨f, a4, a7, hf, rfl⟩
          rw [List.length_map, show (nI us).length = us.length by simp [nI], List.take_length] at hf
          rw [List.length_map, show (nI us).length = us.length by simp [nI], List.take_length]
          walk_at "mir"
          refine es_forK (fun k e => ∃ f a4 a7, (∀ q, q < n → f q = covN N ts us q - covN N ts (ws.take k) q) ∧ e = [some A0, some A1, some A2, a3, a4, some (.ow (cL n f)), some (.im (.int ((us.map (loN ts)).sum - ((ws.take k).map (hiV ts)).sum))), a7, none]) ⟨f, a4, a7, fun q hq => by rw [hf q hq]; simp [covN], by rw [List.take_zero, List.map_nil, List.sum_nil, Int.sub_zero]⟩ ?_ ?_
          · clear hf f
            rintro k d e hk ⟨f, a4, a7, hf, rfl⟩
            unfold nI at hk
            rw [List.getElem?_map, List.getElem?_map, Option.map_map, Option.map_eq_some_iff] at hk
            obtain ⟨j, hj, rfl⟩ := hk
            obtain ⟨hk1, hk2⟩ := List.getElem?_eq_some_iff.mp hj
            have tk : ws.take (k + 1) = ws.take k ++ [j] := by rw [List.take_succ_eq_append_getElem hk1, hk2]
            obtain ⟨t, htj⟩ := tt j (ub j (List.mem_of_getElem? hj))
            have tok := ht t (List.mem_of_getElem? htj)
            have q1 := tok.l0; have q2 := tok.l1
            have hs := List.all_eq_true.mp hc j (List.mem_of_getElem? hj)
            unfold hiN at hs
            rw [htj] at hs
            obtain ⟨h, hh⟩ := Option.isSome_iff_exists.mp hs
            have hh : t.hi = some h := hh
            have ehi : hiV ts j = h := by unfold hiV hiN; rw [htj]; show t.hi.getD 0 = h; rw [hh]; rfl
            show EvO (tN 4 (.int (j : Int)) _) _
            walk_at "mir"
            refine ev_o (ix_termU (m := N) htj) ?_
            rw [hh]
            unfold oI
            walk_at "mir"
            refine ev_o (ix_termU (m := N) htj) ?_
            walk_at "mir"
            refine ev_o (ix_termU (m := N) htj) ?_
            walk_at "mir"
            obtain ⟨t1, e1⟩ := F_law_places_eq (n := N) (s := t.s) (l := t.l) (by omega) (by omega) (by omega)
            refine ev_of e1 ?_
            rw [back_ims rfl]
            unfold lI
            walk_at "mir"
            refine es_forK (fun i e => ∃ f' a7, (∀ q, q < n → f' q = f q + (-1) * cntP ((plc N t.s t.l).take i) q) ∧ e = [some A0, some A1, some A2, a3, some (.im (.int (j : Int))), some (.ow (cL n f')), some (.im (.int ((us.map (loN ts)).sum - ((ws.take k).map (hiV ts)).sum - h))), a7, none]) ⟨f, _, fun q hq => by simp [cntP], rfl⟩ ?_ ?_
            · rintro i d e hi ⟨f', a7, hf', rfl⟩
              rw [List.getElem?_map, Option.map_eq_some_iff] at hi
              obtain ⟨p, hp, rfl⟩ := hi
              obtain ⟨hp1, hp2⟩ := List.getElem?_eq_some_iff.mp hp
              obtain ⟨p0, p1⟩ := plc_lt (n := N) (by omega) (List.mem_of_getElem? hp)
              have tk2 : (plc N t.s t.l).take (i + 1) = (plc N t.s t.l).take i ++ [p] := by rw [List.take_succ_eq_append_getElem hp1, hp2]
              walk_at "mir"
              refine ⟨p0, f' p.toNat, cL_get (by omega), ?_⟩
              walk_at "mir"
              refine ⟨by rw [cL_length]; omega, ?_⟩
              obtain ⟨f2, e2, h2⟩ := cL_step (s := -1) (x := f' p.toNat - 1) p0 (by omega) (by omega) hf'
              rw [e2]
              rw [← tk2] at h2
              exact ⟨f2, _, h2, rfl⟩
            · rintro e ⟨f', a7, hf', rfl⟩
              rw [List.length_map, List.take_length] at hf'
              refine ⟨f', some (.im (.int (j : Int))), a7, fun q hq => ?_, ?_⟩
              · rw [hf' q hq, hf q hq, tk, covN_app]
                unfold covT
                rw [htj]
                simp only
                omega
              · rw [tk, List.map_append, List.sum_append]
                simp only [List.map_cons, List.map_nil, List.sum_cons, List.sum_nil, ehi, Int.add_zero]
                rw [Int.sub_sub]
          clear hf f
          rintro e ⟨f, a4, a7, hf, rfl⟩
          rw [List.length_map, show (nI ws).length = ws.length by simp [nI], List.take_length] at hf
          rw [List.length_map, show (nI ws).length = ws.length by simp [nI], List.take_length]
          obtain ⟨m, em, hm⟩ := maxD_cL f h1
          walk_at "mir"
          refine ev_o em ?_
          walk_at "mir"
          have ef : decide (m ≤ r) = fitB n ts us ws r := by
            rw [hm]
            unfold fitB
            rw [hN, Bool.eq_iff_iff, List.all_eq_true, List.all_eq_true]
            exact ⟨fun z q hq => by rw [← hf q (List.mem_range.mp hq)]; exact z q hq, fun z q hq => by rw [hf q (List.mem_range.mp hq)]; exact z q hq⟩
          rw [ef]
          refine ⟨fun q => ?_, fun q => ?_⟩
          · walk_at "mir"
            simp only [restB, hc, q, Bool.true_and]
            rfl
          · simp only [restB, hc, q, Bool.true_and, Bool.false_and]
      | _ =>
        refine ⟨(fun h => ?_), fun h => nomatch h⟩
        walk_at "mir"
        rfl
  | _ =>
    refine ⟨(fun h => ?_), fun h => nomatch h⟩
    walk_at "mir"
    rfl
theorem spS_int (i : Int) : spS (some (.im (.int i))) = some (.im (.int i)) := spS_im (by simp only [noLst])
theorem spS_str (x : Str) : spS (some (.im (.str x))) = some (.im (.str x)) := spS_im (by simp only [noLst])
theorem spS_none : spS none = none := rfl
theorem spoil10 {R F : D} {T : Int} {s1 s7 : Str} {a4 a5 a6 : Option Sl} (hR : noLst R = true) : ([some (.im R), some (.im (.int T)), some (.im (.str s1)), some (.im F), a4, a5, a6, some (.im (.str s7)), none, none] : En).map spS = [some (.im R), some (.im (.int T)), some (.im (.str s1)), spS (some (.im F)), spS a4, spS a5, spS a6, some (.im (.str s7)), none, none] := by
  simp only [List.map_cons, List.map_nil, spS_im hR, spS_int, spS_str, spS_none]
theorem okT_im (d : D) : okS (some (.im d)) = true := rfl
theorem okT_none : okS none = true := rfl
theorem spoil10_ok {R F : D} {T : Int} {s1 s7 : Str} {a4 a5 a6 : Option Sl} (h4 : okS a4 = true) (h5 : okS a5 = true) (h6 : okS a6 = true) : ([some (.im R), some (.im (.int T)), some (.im (.str s1)), some (.im F), a4, a5, a6, some (.im (.str s7)), none, none] : En).all okS = true := by
  simp only [List.all_cons, List.all_nil, okT_im, okT_none, h4, h5, h6, Bool.and_self, Bool.and_true]
theorem spoil8 {R F : D} {T : Int} {s1 s7 : Str} {a4 a5 a6 : Option Sl} (hR : noLst R = true) : ([some (.im R), some (.im (.int T)), some (.im (.str s1)), some (.im F), a4, a5, a6, some (.im (.str s7))] : En).map spS = [some (.im R), some (.im (.int T)), some (.im (.str s1)), spS (some (.im F)), spS a4, spS a5, spS a6, some (.im (.str s7))] := by
  simp only [List.map_cons, List.map_nil, spS_im hR, spS_int, spS_str]
theorem spoil8_ok {R F : D} {T : Int} {s1 s7 : Str} {a4 a5 a6 : Option Sl} (h4 : okS a4 = true) (h5 : okS a5 = true) (h6 : okS a6 = true) : ([some (.im R), some (.im (.int T)), some (.im (.str s1)), some (.im F), a4, a5, a6, some (.im (.str s7))] : En).all okS = true := by
  simp only [List.all_cons, List.all_nil, okT_im, h4, h5, h6, Bool.and_self, Bool.and_true]
local macro_rules | `(tactic| walk_at "gd") => `(tactic| repeat (first
  | assumption
  | exact gd_none
  | exact gd_bool _
  | exact gd_int (by omega) (by omega)
  | exact gd_str (by decide +kernel)
  | exact gdl_nil
  | apply gd_tuple
  | apply gd_list
  | apply gdl_cons
  | apply gdl_append))
local macro_rules | `(tactic| walk_at "gdf") => `(tactic| ((apply gd_fin); (focus walk_at "gd"); decide; decide))
local macro_rules | `(tactic| walk_at "gdlf") => `(tactic| ((apply gdl_fin); (focus walk_at "gd"); decide; decide))
local macro_rules | `(tactic| walk_at "mir2") => `(tactic| with_reducible refine ev_o (addD_list (Nat.le_of_ble_eq_true rfl)) ?_)
local macro_rules | `(tactic| walk_at "gda") => `(tactic| repeat (first
  | assumption
  | exact all_nil
  | ((apply all_cons); (focus walk_at "gdf"))
  | apply all_append))
theorem gdl_tm {m : Int} {t : Tm} (h : RawT m t) (hm : m ≤ 1000) : GdL 0 404 [.int t.s, .int t.l, .int t.lo, oI t.hi] := by
  have h1 := h.s0; have h2 := h.s1; have h3 := h.l0; have h4 := h.l1; have h5 := h.lo0; have h6 := h.lo1
  have q : Gd 0 100 (oI t.hi) := by
    cases hh : t.hi with
    | none => exact gd_none.mono (by decide) (by decide)
    | some i => have := h.hi0 i hh; exact gd_int (by omega) (by omega)
  have i1 : ∀ x : Int, -1000000 ≤ x → x ≤ 1000000 → Gd 0 100 (.int x) := fun x a b => gd_int (by omega) (by omega)
  exact (gdl_cons (i1 _ (by omega) (by omega)) (gdl_cons (i1 _ (by omega) (by omega)) (gdl_cons (i1 _ (by omega) (by omega)) (gdl_cons q gdl_nil)))).mono (by decide) (by decide)
theorem gdl_tms {m : Int} (hm : m ≤ 1000) : ∀ {ts : List Tm}, (∀ t ∈ ts, RawT m t) → GdL 1 (405 * ts.length) (ts.map Tm.d)
  | [], _ => gdl_nil.mono (by decide) (by decide)
  | t :: ts, h => (gdl_cons (gd_tuple (gdl_tm (h t (by simp)) hm)) (gdl_tms hm (ts := ts) fun x hx => h x (by simp [hx]))).mono (by omega) (by rw [List.length_cons]; omega)
/-! ### bars are short data -/
theorem gdl_nn : ∀ {xs : List Int}, (∀ x ∈ xs, 0 ≤ x ∧ x ≤ 1000000) → GdL 0 (101 * xs.length) (xs.map .int)
  | [], _ => gdl_nil.mono (Nat.le_refl _) (by simp)
  | x :: xs, h => by
    have a := h x (by simp)
    exact (gdl_cons (gd_int (i := x) (by omega) (by omega)) (gdl_nn fun y hy => h y (by simp [hy]))).mono (by decide) (by simp; omega)
theorem gd_barS {n : Nat} {us ws : List Nat} {r : Int} (h2 : n ≤ 40) (S : Short n us ws r) (hu : ∀ j ∈ us, j < 1000) (hw : ∀ j ∈ ws, j < 1000) : Gd 3 9000 (barD us ws r) := by
  have sl := S.len
  have r0 := S.r0
  have r1 := S.r1
  have g : ∀ (vs : List Nat), (∀ j ∈ vs, j < 1000) → GdL 0 (101 * vs.length) ((nI vs).map .int) := fun vs h => by
    have := gdl_nn (xs := nI vs) fun x hx => by
      unfold nI at hx
      obtain ⟨j, hj, rfl⟩ := List.mem_map.mp hx
      have := h j hj
      show (0 : Int) ≤ (j : Int) ∧ (j : Int) ≤ 1000000
      omega
    unfold nI at this
    rw [List.length_map] at this
    exact this
  unfold barD
  exact (gd_tuple (gdl_cons (gd_list (g us hu)) (gdl_cons (gd_list (g ws hw)) (gdl_cons (gd_int (i := r) (by omega) (by omega)) gdl_nil)))).mono (by decide) (by omega)
/-! ### what the kernel runs -/
def okFst : R (List Sl) (D × List Sl) → Option D
  | .ok (.tuple (a :: _), _) => some a
  | _ => none
theorem okFst_is {r : R (List Sl) (D × List Sl)} {d : D} (h : okFst r = some d) : ∃ ds t, r = .ok (.tuple (d :: ds), t) := by
  unfold okFst at h
  split at h
  · cases h
    exact ⟨_, _, rfl⟩
  · cases h
theorem ix_first (d : D) (ds : List D) : ixD (.tuple (d :: ds)) (.int 0) = some d := atI_nat' (i := 0) (by decide) rfl
/-! ### k22 -/
theorem easT_zero {n : Int} {t : Tm} (h : t.ok n) : easT 0 t = t := by
  obtain ⟨s, l, lo, hi⟩ := t
  have := h.lo0
  have this : 0 ≤ lo := this
  unfold easT
  have e1 : max 0 (lo - 0) = lo := by omega
  have e2 : hi.map (fun i => i + 0) = hi := by cases hi <;> simp
  simp only [e1, e2]
theorem easT_zeros {n : Int} {ts : List Tm} (h : ∀ t ∈ ts, t.ok n) : ts.map (easT 0) = ts :=
  (List.map_congr_left (g := id) fun t q => easT_zero (h t q)).trans (List.map_id ts)
theorem F_law_eased_eq {n : Int} {e : Int} {ts : List Tm} (hs : ts.length ≤ 10000) : ∃ t, F_law_eased [.im (rgD n ts), .im (.int e)] = .ok (rgD n (ts.map (easT e)), t) := by
  suffices h : Ev (F_law_eased [.im (rgD n ts), .im (.int e)]) (fun x s => x = rgD n (ts.map (easT e))) fun _ _ => False by
    obtain ⟨x, s, e, rfl⟩ := ev_eq h; exact ⟨s, e⟩
  refine ev_fun ?_
  unfold g_law_eased rgD
  walk_at "mirn"
  let A0 : Sl := .im (.tuple [.int n, .tuple (ts.map Tm.d)])
  let A1 : Sl := .im (.int e)
  refine es_forK (fun k en => ∃ a3 a4 a5 a6, en = [some A0, some A1, some (.ow (((ts.take k).map (easT e)).map Tm.d)), a3, a4, a5, a6]) ⟨_, _, _, _, rfl⟩ ?_ ?_
  · rintro k d en hk ⟨a3, a4, a5, a6, rfl⟩
    rw [List.getElem?_map, Option.map_eq_some_iff] at hk
    obtain ⟨t, hk, rfl⟩ := hk
    obtain ⟨hk1, hk2⟩ := List.getElem?_eq_some_iff.mp hk
    have tk : ts.take (k + 1) = ts.take k ++ [t] := by rw [List.take_succ_eq_append_getElem hk1, hk2]
    have ln : (((ts.take k).map (easT e)).map Tm.d).length < sizeLine := by
      rw [List.length_map, List.length_map, List.length_take]
      exact Nat.lt_of_lt_of_le (show min k ts.length < 100000 by omega) (sizeLine_lt _ (by decide))
    have e1 : ∀ o : D, o = oI (t.hi.map fun i => i + e) → (((ts.take k).map (easT e)).map Tm.d) ++ [PyData.tuple [.int t.s, .int t.l, .int (max 0 (t.lo - e)), o]] = ((ts.take (k + 1)).map (easT e)).map Tm.d := by
      rintro o rfl
      rw [tk, List.map_append, List.map_append]
      rfl
    have ix : ixD (.list [.int 0, .int (t.lo - e)]) (.int (if decide (e < t.lo) = true then 1 else 0)) = some (.int (max 0 (t.lo - e))) := by
      by_cases q : e < t.lo
      · rw [decide_eq_true q, show max 0 (t.lo - e) = t.lo - e by omega]
        rfl
      · rw [decide_eq_false q, show max 0 (t.lo - e) = 0 by omega]
        rfl
    show EvO (tTuple 4 _ (.tuple [.int t.s, .int t.l, .int t.lo, oI t.hi]) _) _
    cases hh : t.hi with
    | none =>
      unfold oI
      walk_at "mirn"
      refine es_if ?_
      walk_at "mirn"
      refine ev_o ix ?_
      walk_at "mirn"
      refine ⟨ln, ?_⟩
      rw [e1 .none (by rw [hh]; rfl)]
      exact ⟨_, _, _, _, rfl⟩
    | some i =>
      unfold oI
      walk_at "mirn"
      refine es_if ?_
      walk_at "mirn"
      refine ev_o ix ?_
      walk_at "mirn"
      refine ⟨ln, ?_⟩
      rw [e1 (.int (i + e)) (by rw [hh]; rfl)]
      exact ⟨_, _, _, _, rfl⟩
  · rintro en ⟨a3, a4, a5, a6, rfl⟩
    rw [List.length_map, List.take_length]
    walk_at "mirn"
    rfl
theorem F_law_good_ok {n : Nat} {T : Int} {ts : List Tm} (h1 : 1 ≤ n) (h2 : n ≤ 12) (hraw : ∀ t ∈ ts, RawT n t ∧ hiOk t = true) (hs : ts.length ≤ 10) (hT : 0 ≤ T) (T1 : T ≤ 1000) :
    ∃ t, F_law_good [.im (rgD n ts), .im (.int T)] = .ok (.bool true, t) := by
  suffices h : Ev (F_law_good [.im (rgD n ts), .im (.int T)]) (fun x t => x = .bool true) fun _ _ => False by
    obtain ⟨x, t, e, rfl⟩ := ev_eq h; exact ⟨t, e⟩
  have ht : ∀ t ∈ ts, t.ok n := fun t q => (hraw t q).1.ok (hraw t q).2
  have mlo : ∀ t ∈ ts, t.lo ≤ 100000000 := fun t q => by have := (hraw t q).1.lo1; omega
  obtain ⟨e, b, t1, e0, ⟨xs, hxs⟩, min, hb, eb, e1⟩ := F_ease_eq (T := T) h1 (by omega) ht (by omega) hT (by omega) mlo
  have eok : ∀ k, 0 ≤ k → ∀ t ∈ ts.map (easT k), t.ok n := fun k hk t q => by
    obtain ⟨t0, h0, rfl⟩ := List.mem_map.mp q
    exact easT_ok (ht t0 h0) hk
  have el : ∀ k, (ts.map (easT k)).length ≤ 10000 := fun k => by rw [List.length_map]; omega
  obtain ⟨t2, e2⟩ := F_law_eased_eq (n := (n : Int)) (e := e) (ts := ts) (by omega)
  obtain ⟨x3, t3, q3, e3⟩ := F_lay_eq (T := T) h1 (by omega) (eok e e0) (el e) hT
  obtain ⟨x4, t4, q4, e4⟩ := F_lay_eq (T := T) h1 (by omega) ht (by omega) hT
  have q3 := q3.is h1 (eok e e0)
  have q4 := q4.is h1 ht
  have gR := gd_rg hraw (by omega) (by omega) hs
  have rR := reprD_nice gR.nice (by decide) (by decide)
  have hnl := noLst_rg n ts
  have gB : Gd 3 9000 b := by
    rcases hb with ⟨_, rfl⟩ | ⟨_, us, ws, r, rfl, S, B⟩
    · exact gd_none.mono (by decide) (by decide)
    · have h : ∀ {vs : List Nat}, (∀ j ∈ vs, j < (ts.map (easT (e - 1))).length) → ∀ j ∈ vs, j < 1000 := fun h j hj => by have := h j hj; rw [List.length_map] at this; omega
      exact gd_barS (by omega) S (h B.up) (h B.dn)
  have gE : Gd 0 100 (.int e) := gd_int (by omega) (by omega)
  have gF : Gd 4 9102 (.tuple [.int e, b]) := (gd_tuple (gdl_cons gE (gdl_cons gB gdl_nil))).mono (by decide) (by decide)
  obtain ⟨sF, rF, sF1⟩ : ∃ s, reprD [.tuple [.int e, b]] = some (.str s) ∧ eqD (.str s) (.str s) = some (.bool true) := ⟨_, reprD_nice gF.nice (by decide) (by decide), eqD_strSame gF.tx⟩
  have hpos : 0 < e → isBarB n (ts.map (easT (e - 1))) T b = true ∧ BarSz b ∧ ∃ t, F_law_short [.im (rgD n ts), .im b] = .ok (.bool true, t) := fun he => by
    rcases hb with ⟨z, _⟩ | ⟨_, us, ws, r, rfl, S, B⟩
    · omega
    · exact ⟨isBarB_iff.mpr B, barSz_short S (by omega), F_law_short_ok S (by omega)⟩
  have l1 : ∃ a c, x3 = .tuple [.str "laying", a, c] := by
    rcases q3 with ⟨as, bs, _, rfl⟩ | ⟨us, ws, r, _, _, no, rfl⟩
    · exact ⟨_, _, rfl⟩
    · exact absurd hxs (no xs)
  have l2 : (e = 0 ∧ ∃ a c, x4 = .tuple [.str "laying", a, c]) ∨ (0 < e ∧ ∃ a, x4 = .tuple [.str "barred", a]) := by
    have hz : LayOf n T ts = LayOf n T (ts.map (easT 0)) := by rw [easT_zeros ht]
    rcases q4 with ⟨as, bs, E, rfl⟩ | ⟨us, ws, r, _, _, no, rfl⟩
    · refine .inl ⟨?_, _, _, rfl⟩
      by_cases he : 0 < e
      · have := E.a
        rw [hz] at this
        exact absurd this (min 0 (by omega) he as)
      · omega
    · refine .inr ⟨?_, _, rfl⟩
      by_cases he : 0 < e
      · exact he
      · have : e = 0 := by omega
        subst this
        rw [← hz] at hxs
        exact absurd hxs (no xs)
  have bn : (e = 0 ∧ b = .none) ∨ (0 < e ∧ ∃ a c d, b = .tuple [a, c, d]) := by
    rcases hb with h | ⟨h, us, ws, r, rfl, _⟩
    · exact .inl h
    · exact .inr ⟨h, _, _, _, rfl⟩
  obtain ⟨a3, c3, rfl⟩ := l1
  refine ev_fun ?_
  unfold g_law_good
  generalize hR : rgD n ts = R at *
  let A0 : Sl := .im R
  let A1 : Sl := .im (.int T)
  walk_at "mirn"
  refine ev_o rR ?_
  walk_at "mirn"
  refine ev_of e1 ?_
  rw [back_ims rfl]
  walk_at "mirn"
  refine es_if ?_
  walk_at "mirn"
  refine ff_of (by rfl) ?_
  walk_at "mirn"
  refine ev_of (law_is_from_eq _ _) ?_
  rw [back_ims rfl]
  walk_at "mirn"
  refine nt_of (by simp [fromD]; omega) ?_
  walk_at "mirn"
  refine ev_o rR ?_
  walk_at "mirn"
  refine ev_o (neD_strSame gR.tx) ?_
  walk_at "mirn"
  refine es_if ?_
  walk_at "mirn"
  refine ev_of e2 ?_
  rw [back_ims rfl]
  walk_at "mirn"
  refine ev_of e3 ?_
  rw [back_ims rfl]
  walk_at "mirn"
  refine ev_o ne_ll ?_
  walk_at "mirn"
  refine ev_of e4 ?_
  rw [back_ims rfl]
  rcases l2 with ⟨rfl, a4, c4, rfl⟩ | ⟨he, a4, rfl⟩
  · rcases bn with ⟨_, rfl⟩ | ⟨z, _⟩
    rotate_left
    · omega
    walk_at "mirn"
    refine ev_o eq_ll ?_
    walk_at "mirn"
    refine ff_of (by rfl) ?_
    walk_at "mirn"
    refine es_if ?_
    walk_at "mirn"
    refine ff_of (by rfl) ?_
    walk_at "mirn"
    refine es_if ?_
    walk_at "mirn"
    refine ff_of (by rfl) ?_
    refine es_nil ?_
    refine es_seq (es_set (ev_ca (ev_cons (ev_var rfl (ev_nil (ev_o rF ?_))))))
    refine es_seq (es_spoil (spoil8_ok (okT_im _) (okT_im _) okT_none) (spoil8 hnl) ?_)
    refine es_ret (ev_op (ev_ca (ev_cons ?_)))
    refine ev_call ?_
    walk_at "mirn"
    refine ev_of e1 ?_
    rw [back_ims rfl]
    refine ev_nil (ev_o rF ?_)
    refine ev_var rfl ?_
    exact ev_o sF1 rfl
  · obtain ⟨e6, bz, t7, e7⟩ := hpos he
    obtain ⟨a, c, d, rfl⟩ : ∃ a c d, b = .tuple [a, c, d] := by
      rcases bn with ⟨z, _⟩ | ⟨_, h⟩
      · omega
      · exact h
    obtain ⟨t5, e5⟩ := F_law_eased_eq (n := (n : Int)) (e := e - 1) (ts := ts) (by omega)
    rw [hR] at e5
    obtain ⟨t6, e8⟩ := F_law_is_bar_eq (T := T) (d := .tuple [a, c, d]) h1 (by omega) (eok (e - 1) (by omega)) (el (e - 1)) hT (by omega) bz
    rw [e6] at e8
    have ne0 : decide (e = 0) = false := decide_eq_false (by omega)
    have gt0 : decide (0 < e) = true := decide_eq_true he
    walk_at "mirn"
    refine ev_o eq_lb ?_
    walk_at "mirn"
    rw [ne0]
    refine ff_of (by rfl) ?_
    walk_at "mirn"
    refine es_if ?_
    walk_at "mirn"
    rw [ne0]
    refine ff_of (by rfl) ?_
    walk_at "mirn"
    refine es_if ?_
    walk_at "mirn"
    rw [gt0]
    refine tt_of (by rfl) ?_
    walk_at "mirn"
    refine ev_of e5 ?_
    rw [back_ims rfl]
    walk_at "mirn"
    refine es_if ?_
    walk_at "mirn"
    refine ev_of e8 ?_
    rw [back_ims rfl]
    walk_at "mirn"
    refine ev_of e7 ?_
    rw [back_ims rfl]
    walk_at "mirn"
    refine ev_o rF ?_
    walk_at "mirn"
    refine es_spoil (spoil8_ok (okT_im _) (okT_im _) (okT_im _)) (spoil8 hnl) ?_
    walk_at "mirn"
    refine ev_of e1 ?_
    rw [back_ims rfl]
    walk_at "mirn"
    refine ev_o rF ?_
    walk_at "mirn"
    exact ev_o sF1 rfl
theorem ease1 : ∃ ds t, F_ease [.im (.tuple [.int 1, .tuple [.tuple [.int 0, .int 1, .int 1000, .none]]]), .im (.int 0)] = .ok (.tuple (.int 1000 :: ds), t) := okFst_is (by kernel_rfl)
theorem ease2 : ∃ ds t, F_ease [.im (.tuple [.int 2, .tuple [.tuple [.int 0, .int 2, .int 0, .int 0]]]), .im (.int 1000)] = .ok (.tuple (.int 1000 :: ds), t) := okFst_is (by kernel_rfl)
theorem ease3 : ∃ ds t, F_ease [.im (.tuple [.int 3, .tuple [.tuple [.int 0, .int 3, .int 9, .none]]]), .im (.int 4)] = .ok (.tuple (.int 5 :: ds), t) := okFst_is (by kernel_rfl)
theorem ease4 : ∃ ds t, F_ease [.im (.tuple [.int 2, .tuple [.tuple [.int 0, .int 1, .int 0, .int 0], .tuple [.int 1, .int 1, .int 0, .int 0]]]), .im (.int 5)] = .ok (.tuple (.int 3 :: ds), t) := okFst_is (by kernel_rfl)
theorem law_true (ns : List Int) (hl : ns.length ≤ 63) : ∃ es', runD 5 g_law [.im (.list (ns.map .int))] = .ok (.bool true, es') := by
  suffices h : Ev (runD 5 g_law [.im (lI ns)]) (fun x t => x = .bool true) fun _ _ => False by
    obtain ⟨x, t, e, rfl⟩ := ev_eq h; exact ⟨t, e⟩
  refine ev_fun ?_
  unfold g_law lI
  walk_at "mirn"
  refine es_forK (fun k e => ∃ a1 a2 a3 a4, e = [some (.im (lI ns)), a1, a2, a3, a4]) ⟨_, _, _, _, rfl⟩ ?_ ?_
  · rintro k d e hk ⟨a1, a2, a3, a4, rfl⟩
    obtain ⟨hk, rfl⟩ := rangeL_get hk
    rw [Int.zero_add]
    walk_at "mirn"
    obtain ⟨p, t1, hp, e1⟩ := F_law_pile_eq ns (k := k) (by omega)
    refine ev_of e1 ?_
    rw [back_ims rfl]
    walk_at "mirn"
    obtain ⟨p1, m, ts, hp1, m1, m2, hts, hraw, e2⟩ := F_law_ring_eq (p := p) (a := 12) (b := 10) (c := 30) hp (by decide) (by decide) (by decide) (by decide) (by decide) (by decide)
    refine ev_of e2 ?_
    obtain ⟨n, rfl⟩ : ∃ n : Nat, m = n := ⟨m.toNat, by omega⟩
    let K0 : D := .int k
    let L0 : Sl := .im (lI ns)
    let R0 : D := rgD n ts
    have q1 := Int.emod_nonneg p1 (show (40 : Int) ≠ 0 by decide)
    have q2 := Int.emod_lt_of_pos p1 (show (0 : Int) < 40 by decide)
    have q3 : 0 ≤ p1 / 40 := Int.ediv_nonneg hp1 (by decide)
    have q4 := Int.emod_nonneg (p1 / 40) (show (400 : Int) ≠ 0 by decide)
    have q5 := Int.emod_lt_of_pos (p1 / 40) (show (0 : Int) < 400 by decide)
    have q6 : 0 ≤ p1 / 40 / 400 := Int.ediv_nonneg q3 (by decide)
    have good := fun (T : Int) (h0 : 0 ≤ T) (h1 : T ≤ 1000) => F_law_good_ok (n := n) (T := T) (ts := ts) (by omega) (by omega) hraw (by omega) h0 h1
    generalize rgD n ts = R at *
    walk_at "mirn"
    refine ev_of (F_law_take_eq (by omega) (by omega)) ?_
    walk_at "mirn"
    refine ev_of (F_law_take_eq (by omega) (by omega)) ?_
    walk_at "mirn"
    generalize p1 % 40 = A at *
    generalize p1 / 40 % 400 = B at *
    generalize p1 / 40 / 400 = C at *
    refine es_forK (fun j e => ∃ a4, e = [some L0, some (.im K0), some (.ow [.int C]), some (.im R), a4]) ⟨_, rfl⟩ ?_ ?_
    · rintro j d e hj ⟨a4, rfl⟩
      have hd := List.mem_of_getElem? hj
      obtain ⟨T, rfl, T0, T1⟩ : ∃ T : Int, d = .int T ∧ 0 ≤ T ∧ T ≤ 1000 := by
        simp only [List.mem_cons, List.not_mem_nil, or_false] at hd
        rcases hd with rfl | rfl | rfl
        · exact ⟨_, rfl, by omega, by omega⟩
        · exact ⟨_, rfl, by omega, by omega⟩
        · exact ⟨_, rfl, by omega, by omega⟩
      obtain ⟨t5, e5⟩ := good T T0 T1
      walk_at "mirn"
      refine es_if ?_
      walk_at "mirn"
      refine ev_of e5 ?_
      rw [back_ims rfl]
      walk_at "mirn"
      exact ⟨_, rfl⟩
    · rintro e ⟨a4, rfl⟩
      exact ⟨_, _, _, _, rfl⟩
  · rintro e ⟨a1, a2, a3, a4, rfl⟩
    obtain ⟨d1, t1, e1⟩ := ease1
    obtain ⟨d2, t2, e2⟩ := ease2
    obtain ⟨d3, t3, e3⟩ := ease3
    obtain ⟨d4, t4, e4⟩ := ease4
    walk_at "mirn"
    refine es_if ?_
    walk_at "mirn"
    refine ev_of e1 ?_
    rw [back_ims rfl]
    walk_at "mirn"
    refine ev_o (ix_first _ _) ?_
    walk_at "mirn"
    refine ff_of (by rfl) ?_
    walk_at "mirn"
    refine es_if ?_
    walk_at "mirn"
    refine ev_of e2 ?_
    rw [back_ims rfl]
    walk_at "mirn"
    refine ev_o (ix_first _ _) ?_
    walk_at "mirn"
    refine ff_of (by rfl) ?_
    walk_at "mirn"
    refine ev_of e3 ?_
    rw [back_ims rfl]
    walk_at "mirn"
    refine ev_o (ix_first _ _) ?_
    walk_at "mirn"
    refine ff_of (by rfl) ?_
    walk_at "mirn"
    refine ev_of e4 ?_
    rw [back_ims rfl]
    walk_at "mirn"
    refine ev_o (ix_first _ _) ?_
    walk_at "mirn"
    rfl
end DL
open PySem PySem.W PyProof.Rows
set_option maxHeartbeats 0 in
theorem PySem.Challenge.cw_ringstints_k22_terms_eased_holds : PySem.Challenge.rw_ringstints_k22_terms_eased.Holds := by
  w_on; o_law; k_head; (case hw => w_witness2)
  k_fill
  refine DL.walk_ofG (l := PySem.Challenge.rw_ringstints_k22_terms_eased) (n := 63) (k := 11) (m := 5) (x := "_law_script") (g := DL.g_law) (fr := true) rfl (by decide) rfl ⟨rfl, by decide, by decide⟩ (fun w h Y => PySem.W.kIn_of Y) ?F DL.law_true
  case F =>
    intro w mg fa h KX G hmg
    have T : DL.Blt mg := by
      refine' DL.Blt.mk (PySem.W.mg_none_of KX G ?b_len) (PySem.W.mg_none_of KX G ?b_range) (PySem.W.mg_none_of KX G ?b_int) (PySem.W.mg_none_of KX G ?b_str) (PySem.W.mg_none_of KX G ?b_tuple) (PySem.W.mg_none_of KX G ?b_list) (PySem.W.mg_none_of KX G ?b_sum) (PySem.W.mg_none_of KX G ?b_max) (PySem.W.mg_none_of KX G ?b_min) (PySem.W.mg_none_of KX G ?b_abs) (PySem.W.mg_none_of KX G ?b_all) (PySem.W.mg_none_of KX G ?b_sorted) (PySem.W.mg_none_of KX G ?b_repr) (PySem.W.mg_none_of KX G ?b_isinstance) (PySem.W.mg_none_of KX G ?b_bool) (PySem.W.mg_none_of KX G ?b_enumerate) (PySem.W.mg_none_of KX G ?b_zip) (PySem.W.mg_none_of KX G ?b_ValueError)
      (case b_len => k_is); (case b_range => k_is); (case b_int => k_is); (case b_str => k_is); (case b_tuple => k_is); (case b_list => k_is); (case b_sum => k_is); (case b_max => k_is); (case b_min => k_is); (case b_abs => k_is); (case b_all => k_is); (case b_sorted => k_is); (case b_repr => k_is); (case b_isinstance => k_is); (case b_bool => k_is); (case b_enumerate => k_is); (case b_zip => k_is); (case b_ValueError => k_is)
    obtain ⟨C_NoRing, x_NoRing⟩ : ∃ C, DL.ExF _ mg "NoRing" C := by
      refine' ⟨_, DL.exf_of KX G ?a ?k ?b ?t ?x⟩
      (case a => k_is); (case k => k_is); (case b => k_is); (case t => k_is); (case x => k_exc)
    obtain ⟨C_NoTotal, x_NoTotal⟩ : ∃ C, DL.ExF _ mg "NoTotal" C := by
      refine' ⟨_, DL.exf_of KX G ?a ?k ?b ?t ?x⟩
      (case a => k_is); (case k => k_is); (case b => k_is); (case t => k_is); (case x => k_exc)
    obtain ⟨t_MOST_PLACES, g_MOST_PLACES⟩ : ∃ t, mg "MOST_PLACES" = some (.int 40 t) := by
      obtain ⟨v, hv, t, ht⟩ : ∃ v, mg "MOST_PLACES" = some v ∧ ∃ t, v = .int 40 t := by
        refine' ⟨_, PySem.W.mg_of KX G ?aMOST_PLACES, ?bMOST_PLACES⟩
        (case aMOST_PLACES => k_is)
        exact ⟨_, rfl⟩
      exact ⟨t, ht ▸ hv⟩
    have S_is_whole : DL.Stands (DL.FrX KX) mg "is_whole" DL.s_is_whole ["thing"] := by
      refine' (DL.stands_of KX G ?a ?l ?c ?k (fun _ _ _ _ _ _ us hl => match us, hl with | [_], _ => rfl) : DL.Stands _ mg "is_whole" DL.s_is_whole ["thing"])
      (case a => k_is); (case l => k_is); (case c => k_is); (case k => k_is)
    have S_is_from : DL.Stands (DL.FrX KX) mg "is_from" DL.s_is_from ["thing", "low"] := by
      refine' (DL.stands_of KX G ?a ?l ?c ?k (fun _ _ _ _ _ _ us hl => match us, hl with | [_, _], _ => rfl) : DL.Stands _ mg "is_from" DL.s_is_from ["thing", "low"])
      (case a => k_is); (case l => k_is); (case c => k_is); (case k => k_is)
    have S_is_within : DL.Stands (DL.FrX KX) mg "is_within" DL.s_is_within ["thing", "low", "high"] := by
      refine' (DL.stands_of KX G ?a ?l ?c ?k (fun _ _ _ _ _ _ us hl => match us, hl with | [_, _, _], _ => rfl) : DL.Stands _ mg "is_within" DL.s_is_within ["thing", "low", "high"])
      (case a => k_is); (case l => k_is); (case c => k_is); (case k => k_is)
    have S_is_term : DL.Stands (DL.FrX KX) mg "is_term" DL.s_is_term ["many", "thing"] := by
      refine' (DL.stands_of KX G ?a ?l ?c ?k (fun _ _ _ _ _ _ us hl => match us, hl with | [_, _], _ => rfl) : DL.Stands _ mg "is_term" DL.s_is_term ["many", "thing"])
      (case a => k_is); (case l => k_is); (case c => k_is); (case k => k_is)
    have S_is_right_ring : DL.Stands (DL.FrX KX) mg "is_right_ring" DL.s_is_right_ring ["thing"] := by
      refine' (DL.stands_of KX G ?a ?l ?c ?k (fun _ _ _ _ _ _ us hl => match us, hl with | [_], _ => rfl) : DL.Stands _ mg "is_right_ring" DL.s_is_right_ring ["thing"])
      (case a => k_is); (case l => k_is); (case c => k_is); (case k => k_is)
    have S_look_at_ring : DL.Stands (DL.FrX KX) mg "look_at_ring" DL.s_look_at_ring ["ring"] := by
      refine' (DL.stands_of KX G ?a ?l ?c ?k (fun _ _ _ _ _ _ us hl => match us, hl with | [_], _ => rfl) : DL.Stands _ mg "look_at_ring" DL.s_look_at_ring ["ring"])
      (case a => k_is); (case l => k_is); (case c => k_is); (case k => k_is)
    have S_look_at_total : DL.Stands (DL.FrX KX) mg "look_at_total" DL.s_look_at_total ["total"] := by
      refine' (DL.stands_of KX G ?a ?l ?c ?k (fun _ _ _ _ _ _ us hl => match us, hl with | [_], _ => rfl) : DL.Stands _ mg "look_at_total" DL.s_look_at_total ["total"])
      (case a => k_is); (case l => k_is); (case c => k_is); (case k => k_is)
    have S_demands : DL.Stands (DL.FrX KX) mg "demands" DL.s_demands ["ring", "total"] := by
      refine' (DL.stands_of KX G ?a ?l ?c ?k (fun _ _ _ _ _ _ us hl => match us, hl with | [_, _], _ => rfl) : DL.Stands _ mg "demands" DL.s_demands ["ring", "total"])
      (case a => k_is); (case l => k_is); (case c => k_is); (case k => k_is)
    have S_contradiction : DL.Stands (DL.FrX KX) mg "contradiction" DL.s_contradiction ["many", "edges"] := by
      refine' (DL.stands_of KX G ?a ?l ?c ?k (fun _ _ _ _ _ _ us hl => match us, hl with | [_, _], _ => rfl) : DL.Stands _ mg "contradiction" DL.s_contradiction ["many", "edges"])
      (case a => k_is); (case l => k_is); (case c => k_is); (case k => k_is)
    have S_found_bar : DL.Stands (DL.FrX KX) mg "found_bar" DL.s_found_bar ["ring", "total"] := by
      refine' (DL.stands_of KX G ?a ?l ?c ?k (fun _ _ _ _ _ _ us hl => match us, hl with | [_, _], _ => rfl) : DL.Stands _ mg "found_bar" DL.s_found_bar ["ring", "total"])
      (case a => k_is); (case l => k_is); (case c => k_is); (case k => k_is)
    have S_heights_from : DL.Stands (DL.FrX KX) mg "heights_from" DL.s_heights_from ["many", "edges", "place"] := by
      refine' (DL.stands_of KX G ?a ?l ?c ?k (fun _ _ _ _ _ _ us hl => match us, hl with | [_, _, _], _ => rfl) : DL.Stands _ mg "heights_from" DL.s_heights_from ["many", "edges", "place"])
      (case a => k_is); (case l => k_is); (case c => k_is); (case k => k_is)
    have S_turned : DL.Stands (DL.FrX KX) mg "turned" DL.s_turned ["edges"] := by
      refine' (DL.stands_of KX G ?a ?l ?c ?k (fun _ _ _ _ _ _ us hl => match us, hl with | [_], _ => rfl) : DL.Stands _ mg "turned" DL.s_turned ["edges"])
      (case a => k_is); (case l => k_is); (case c => k_is); (case k => k_is)
    have S_laid : DL.Stands (DL.FrX KX) mg "laid" DL.s_laid ["sums", "total"] := by
      refine' (DL.stands_of KX G ?a ?l ?c ?k (fun _ _ _ _ _ _ us hl => match us, hl with | [_, _], _ => rfl) : DL.Stands _ mg "laid" DL.s_laid ["sums", "total"])
      (case a => k_is); (case l => k_is); (case c => k_is); (case k => k_is)
    have S_found_lay : DL.Stands (DL.FrX KX) mg "found_lay" DL.s_found_lay ["ring", "total"] := by
      refine' (DL.stands_of KX G ?a ?l ?c ?k (fun _ _ _ _ _ _ us hl => match us, hl with | [_, _], _ => rfl) : DL.Stands _ mg "found_lay" DL.s_found_lay ["ring", "total"])
      (case a => k_is); (case l => k_is); (case c => k_is); (case k => k_is)
    have S_lay : DL.Stands (DL.FrX KX) mg "lay" DL.s_lay ["ring", "total"] := by
      refine' (DL.stands_of KX G ?a ?l ?c ?k (fun _ _ _ _ _ _ us hl => match us, hl with | [_, _], _ => rfl) : DL.Stands _ mg "lay" DL.s_lay ["ring", "total"])
      (case a => k_is); (case l => k_is); (case c => k_is); (case k => k_is)
    have S_eased : DL.Stands (DL.FrX KX) mg "eased" DL.s_eased ["ring", "by"] := by
      refine' (DL.stands_of KX G ?a ?l ?c ?k (fun _ _ _ _ _ _ us hl => match us, hl with | [_, _], _ => rfl) : DL.Stands _ mg "eased" DL.s_eased ["ring", "by"])
      (case a => k_is); (case l => k_is); (case c => k_is); (case k => k_is)
    have S_ease : DL.Stands (DL.FrX KX) mg "ease" DL.s_ease ["ring", "total"] := by
      refine' (DL.stands_of KX G ?a ?l ?c ?k (fun _ _ _ _ _ _ us hl => match us, hl with | [_, _], _ => rfl) : DL.Stands _ mg "ease" DL.s_ease ["ring", "total"])
      (case a => k_is); (case l => k_is); (case c => k_is); (case k => k_is)
    have S_law_once : DL.Stands (DL.FrX KX) mg "_law_once" DL.s_law_once ["_law_some"] := by
      refine' (DL.stands_of KX G ?a ?l ?c ?k (fun _ _ _ _ _ _ us hl => match us, hl with | [_], _ => rfl) : DL.Stands _ mg "_law_once" DL.s_law_once ["_law_some"])
      (case a => k_is); (case l => k_is); (case c => k_is); (case k => k_is)
    have S_law_short : DL.Stands (DL.FrX KX) mg "_law_short" DL.s_law_short ["_law_ring_here", "_law_bar"] := by
      refine' (DL.stands_of KX G ?a ?l ?c ?k (fun _ _ _ _ _ _ us hl => match us, hl with | [_, _], _ => rfl) : DL.Stands _ mg "_law_short" DL.s_law_short ["_law_ring_here", "_law_bar"])
      (case a => k_is); (case l => k_is); (case c => k_is); (case k => k_is)
    have S_law_mixed : DL.Stands (DL.FrX KX) mg "_law_mixed" DL.s_law_mixed ["_law_cell", "_law_k"] := by
      refine' (DL.stands_of KX G ?a ?l ?c ?k (fun _ _ _ _ _ _ us hl => match us, hl with | [_, _], _ => rfl) : DL.Stands _ mg "_law_mixed" DL.s_law_mixed ["_law_cell", "_law_k"])
      (case a => k_is); (case l => k_is); (case c => k_is); (case k => k_is)
    have S_law_pile : DL.Stands (DL.FrX KX) mg "_law_pile" DL.s_law_pile ["_law_script", "_law_k"] := by
      refine' (DL.stands_of KX G ?a ?l ?c ?k (fun _ _ _ _ _ _ us hl => match us, hl with | [_, _], _ => rfl) : DL.Stands _ mg "_law_pile" DL.s_law_pile ["_law_script", "_law_k"])
      (case a => k_is); (case l => k_is); (case c => k_is); (case k => k_is)
    have S_law_take : DL.Stands (DL.FrX KX) mg "_law_take" DL.s_law_take ["_law_pile_here", "_law_size"] := by
      refine' (DL.stands_of KX G ?a ?l ?c ?k (fun _ _ _ _ _ _ us hl => match us, hl with | [_, _], _ => rfl) : DL.Stands _ mg "_law_take" DL.s_law_take ["_law_pile_here", "_law_size"])
      (case a => k_is); (case l => k_is); (case c => k_is); (case k => k_is)
    have S_law_whole : DL.Stands (DL.FrX KX) mg "_law_whole" DL.s_law_whole ["_law_thing"] := by
      refine' (DL.stands_of KX G ?a ?l ?c ?k (fun _ _ _ _ _ _ us hl => match us, hl with | [_], _ => rfl) : DL.Stands _ mg "_law_whole" DL.s_law_whole ["_law_thing"])
      (case a => k_is); (case l => k_is); (case c => k_is); (case k => k_is)
    have S_law_lists : DL.Stands (DL.FrX KX) mg "_law_lists" DL.s_law_lists ["_law_thing"] := by
      refine' (DL.stands_of KX G ?a ?l ?c ?k (fun _ _ _ _ _ _ us hl => match us, hl with | [_], _ => rfl) : DL.Stands _ mg "_law_lists" DL.s_law_lists ["_law_thing"])
      (case a => k_is); (case l => k_is); (case c => k_is); (case k => k_is)
    have S_law_lists_apart : DL.Stands (DL.FrX KX) mg "_law_lists_apart" DL.s_law_lists_apart ["_law_found"] := by
      refine' (DL.stands_of KX G ?a ?l ?c ?k (fun _ _ _ _ _ _ us hl => match us, hl with | [_], _ => rfl) : DL.Stands _ mg "_law_lists_apart" DL.s_law_lists_apart ["_law_found"])
      (case a => k_is); (case l => k_is); (case c => k_is); (case k => k_is)
    have S_law_places : DL.Stands (DL.FrX KX) mg "_law_places" DL.s_law_places ["_law_many", "_law_first", "_law_length"] := by
      refine' (DL.stands_of KX G ?a ?l ?c ?k (fun _ _ _ _ _ _ us hl => match us, hl with | [_, _, _], _ => rfl) : DL.Stands _ mg "_law_places" DL.s_law_places ["_law_many", "_law_first", "_law_length"])
      (case a => k_is); (case l => k_is); (case c => k_is); (case k => k_is)
    have S_law_stones : DL.Stands (DL.FrX KX) mg "_law_stones" DL.s_law_stones ["_law_laying", "_law_first", "_law_length"] := by
      refine' (DL.stands_of KX G ?a ?l ?c ?k (fun _ _ _ _ _ _ us hl => match us, hl with | [_, _, _], _ => rfl) : DL.Stands _ mg "_law_stones" DL.s_law_stones ["_law_laying", "_law_first", "_law_length"])
      (case a => k_is); (case l => k_is); (case c => k_is); (case k => k_is)
    have S_law_drawn : DL.Stands (DL.FrX KX) mg "_law_drawn" DL.s_law_drawn ["_law_pile_here", "_law_many", "_law_total"] := by
      refine' (DL.stands_of KX G ?a ?l ?c ?k (fun _ _ _ _ _ _ us hl => match us, hl with | [_, _, _], _ => rfl) : DL.Stands _ mg "_law_drawn" DL.s_law_drawn ["_law_pile_here", "_law_many", "_law_total"])
      (case a => k_is); (case l => k_is); (case c => k_is); (case k => k_is)
    have S_law_ring : DL.Stands (DL.FrX KX) mg "_law_ring" DL.s_law_ring ["_law_pile_here", "_law_places_here", "_law_count", "_law_wide"] := by
      refine' (DL.stands_of KX G ?a ?l ?c ?k (fun _ _ _ _ _ _ us hl => match us, hl with | [_, _, _, _], _ => rfl) : DL.Stands _ mg "_law_ring" DL.s_law_ring ["_law_pile_here", "_law_places_here", "_law_count", "_law_wide"])
      (case a => k_is); (case l => k_is); (case c => k_is); (case k => k_is)
    have S_law_is_from : DL.Stands (DL.FrX KX) mg "_law_is_from" DL.s_law_is_from ["_law_thing", "_law_low"] := by
      refine' (DL.stands_of KX G ?a ?l ?c ?k (fun _ _ _ _ _ _ us hl => match us, hl with | [_, _], _ => rfl) : DL.Stands _ mg "_law_is_from" DL.s_law_is_from ["_law_thing", "_law_low"])
      (case a => k_is); (case l => k_is); (case c => k_is); (case k => k_is)
    have S_law_is_bar : DL.Stands (DL.FrX KX) mg "_law_is_bar" DL.s_law_is_bar ["_law_ring_here", "_law_total", "_law_thing"] := by
      refine' (DL.stands_of KX G ?a ?l ?c ?k (fun _ _ _ _ _ _ us hl => match us, hl with | [_, _, _], _ => rfl) : DL.Stands _ mg "_law_is_bar" DL.s_law_is_bar ["_law_ring_here", "_law_total", "_law_thing"])
      (case a => k_is); (case l => k_is); (case c => k_is); (case k => k_is)
    have S_law_eased : DL.Stands (DL.FrX KX) mg "_law_eased" DL.s_law_eased ["_law_ring_here", "_law_by"] := by
      refine' (DL.stands_of KX G ?a ?l ?c ?k (fun _ _ _ _ _ _ us hl => match us, hl with | [_, _], _ => rfl) : DL.Stands _ mg "_law_eased" DL.s_law_eased ["_law_ring_here", "_law_by"])
      (case a => k_is); (case l => k_is); (case c => k_is); (case k => k_is)
    have S_law_good : DL.Stands (DL.FrX KX) mg "_law_good" DL.s_law_good ["_law_ring_here", "_law_total"] := by
      refine' (DL.stands_of KX G ?a ?l ?c ?k (fun _ _ _ _ _ _ us hl => match us, hl with | [_, _], _ => rfl) : DL.Stands _ mg "_law_good" DL.s_law_good ["_law_ring_here", "_law_total"])
      (case a => k_is); (case l => k_is); (case c => k_is); (case k => k_is)
    have S_law : DL.Stands (DL.FrX KX) mg "law" DL.s_law ["_law_script"] := by
      refine' (DL.stands_of KX G ?a ?l ?c ?k (fun _ _ _ _ _ _ us hl => match us, hl with | [_], _ => rfl) : DL.Stands _ mg "law" DL.s_law ["_law_script"])
      (case a => k_is); (case l => k_is); (case c => k_is); (case k => k_is)
    have H : ∀ base : Heap, (DL.FrX KX).In base → base.Ns mainGlobals mg → DL.Has PySem.Challenge.pw_ringstints_k22_terms_eased w (DL.FrX KX) mg base (DL.caOf mg) "law" 11 ["_law_script"] [] true DL.F_law := by
      intro base _ _
      have h_is_whole := DL.ok_is_whole (P := PySem.Challenge.pw_ringstints_k22_terms_eased) (w := w) (base := base) T S_is_whole
      have h_is_from := DL.ok_is_from (P := PySem.Challenge.pw_ringstints_k22_terms_eased) (w := w) (base := base) T S_is_from h_is_whole
      have h_is_within := DL.ok_is_within (P := PySem.Challenge.pw_ringstints_k22_terms_eased) (w := w) (base := base) T S_is_within h_is_whole
      have h_is_term := DL.ok_is_term (P := PySem.Challenge.pw_ringstints_k22_terms_eased) (w := w) (base := base) T S_is_term h_is_within h_is_from
      have h_is_right_ring := DL.ok_is_right_ring (P := PySem.Challenge.pw_ringstints_k22_terms_eased) (w := w) (base := base) T S_is_right_ring g_MOST_PLACES h_is_within h_is_term
      have h_look_at_ring := DL.ok_look_at_ring (P := PySem.Challenge.pw_ringstints_k22_terms_eased) (w := w) (base := base) T S_look_at_ring x_NoRing h_is_right_ring
      have h_look_at_total := DL.ok_look_at_total (P := PySem.Challenge.pw_ringstints_k22_terms_eased) (w := w) (base := base) T S_look_at_total x_NoTotal h_is_from
      have h_demands := DL.ok_demands (P := PySem.Challenge.pw_ringstints_k22_terms_eased) (w := w) (base := base) T S_demands
      have h_contradiction := DL.ok_contradiction (P := PySem.Challenge.pw_ringstints_k22_terms_eased) (w := w) (base := base) T S_contradiction
      have h_found_bar := DL.ok_found_bar (P := PySem.Challenge.pw_ringstints_k22_terms_eased) (w := w) (base := base) T S_found_bar h_contradiction h_demands
      have h_heights_from := DL.ok_heights_from (P := PySem.Challenge.pw_ringstints_k22_terms_eased) (w := w) (base := base) T S_heights_from
      have h_turned := DL.ok_turned (P := PySem.Challenge.pw_ringstints_k22_terms_eased) (w := w) (base := base) T S_turned
      have h_laid := DL.ok_laid (P := PySem.Challenge.pw_ringstints_k22_terms_eased) (w := w) (base := base) T S_laid
      have h_found_lay := DL.ok_found_lay (P := PySem.Challenge.pw_ringstints_k22_terms_eased) (w := w) (base := base) T S_found_lay h_found_bar h_demands h_laid h_heights_from h_turned
      have h_lay := DL.ok_lay (P := PySem.Challenge.pw_ringstints_k22_terms_eased) (w := w) (base := base) T S_lay h_look_at_ring h_look_at_total h_found_lay
      have h_eased := DL.ok_eased (P := PySem.Challenge.pw_ringstints_k22_terms_eased) (w := w) (base := base) T S_eased
      have h_ease := DL.ok_ease (P := PySem.Challenge.pw_ringstints_k22_terms_eased) (w := w) (base := base) T S_ease h_look_at_ring h_look_at_total h_found_bar h_eased
      have h_law_once := DL.ok_law_once (P := PySem.Challenge.pw_ringstints_k22_terms_eased) (w := w) (base := base) T S_law_once
      have h_law_short := DL.ok_law_short (P := PySem.Challenge.pw_ringstints_k22_terms_eased) (w := w) (base := base) T S_law_short h_law_once
      have h_law_mixed := DL.ok_law_mixed (P := PySem.Challenge.pw_ringstints_k22_terms_eased) (w := w) (base := base) T S_law_mixed
      have h_law_pile := DL.ok_law_pile (P := PySem.Challenge.pw_ringstints_k22_terms_eased) (w := w) (base := base) T S_law_pile h_law_mixed
      have h_law_take := DL.ok_law_take (P := PySem.Challenge.pw_ringstints_k22_terms_eased) (w := w) (base := base) T S_law_take
      have h_law_whole := DL.ok_law_whole (P := PySem.Challenge.pw_ringstints_k22_terms_eased) (w := w) (base := base) T S_law_whole
      have h_law_lists := DL.ok_law_lists (P := PySem.Challenge.pw_ringstints_k22_terms_eased) (w := w) (base := base) T S_law_lists
      have h_law_lists_apart := DL.ok_law_lists_apart (P := PySem.Challenge.pw_ringstints_k22_terms_eased) (w := w) (base := base) T S_law_lists_apart h_law_lists
      have h_law_places := DL.ok_law_places (P := PySem.Challenge.pw_ringstints_k22_terms_eased) (w := w) (base := base) T S_law_places
      have h_law_stones := DL.ok_law_stones (P := PySem.Challenge.pw_ringstints_k22_terms_eased) (w := w) (base := base) T S_law_stones h_law_places
      have h_law_drawn := DL.ok_law_drawn (P := PySem.Challenge.pw_ringstints_k22_terms_eased) (w := w) (base := base) T S_law_drawn h_law_take
      have h_law_ring := DL.ok_law_ring (P := PySem.Challenge.pw_ringstints_k22_terms_eased) (w := w) (base := base) T S_law_ring h_law_take h_law_drawn h_law_stones
      have h_law_is_from := DL.ok_law_is_from (P := PySem.Challenge.pw_ringstints_k22_terms_eased) (w := w) (base := base) T S_law_is_from h_law_whole
      have h_law_is_bar := DL.ok_law_is_bar (P := PySem.Challenge.pw_ringstints_k22_terms_eased) (w := w) (base := base) T S_law_is_bar h_law_whole h_law_is_from h_law_places
      have h_law_eased := DL.ok_law_eased (P := PySem.Challenge.pw_ringstints_k22_terms_eased) (w := w) (base := base) T S_law_eased
      have h_law_good := DL.ok_law_good (P := PySem.Challenge.pw_ringstints_k22_terms_eased) (w := w) (base := base) T S_law_good h_ease h_law_is_from h_lay h_law_eased h_law_is_bar h_law_short h_law_lists_apart
      have h_law := DL.ok_law (P := PySem.Challenge.pw_ringstints_k22_terms_eased) (w := w) (base := base) T S_law h_law_pile h_law_ring h_law_take h_law_good h_ease
      exact h_law
    exact DL.has_fit S_law H hmg

