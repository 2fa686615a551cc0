import PyProof.Rows.All
import Wide.All
import OpenK.AllK
import Wide.FinOn
import HandS.ForMost
import HandS.ForExc
import HandS.Walk
import HandS.Sort
import HandS.SortInts
import HandS.ExcIs
import HandS.SetBool
import PyProof.ListMulRoad
import HandS.Wide
import HandS.TupAny
import HandS.TupMul
import HandS.IsInst
import HandS.Style
import HandS.Deep
import PyProof.ReprRoads
import KE.KExcIs
import KE.GoesEnum
import PyProof.FactsAll.tuple_2
import HandS.Star
import HandS.RevTup
import HandS.Dict
import HandS.Iter
import HandS.ExcInit
import HandS.ExcField
import HandS.Conv
import HandS.Zip
import HandS.Text
import HandS.Codes
import PyProof.StrBlock2
import KE.KDictZip
import KE.KItemsList
import PyProof.CollectWalk
import HandS.ListItems
import PyProof.ReprLen
import PyProof.P3Eq
import HandS.Defaults
import HandS.MakeKwOnly
import HandS.IterNext
import HandS.OwnIter
import HandS.IterVal
import PyProof.InstNe
import PySem.Challenge.RW_ringstints_k51_stints_beside_one_another
import KE.DataFind
set_option Elab.async false
set_option linter.all false
set_option maxRecDepth 100000
set_option maxHeartbeats 4000000
namespace DL
/-- the package's errors that the text has -/
def exNames : List PySem.Str := ["StintsError", "NoPlaces", "NoTerms", "NoTerm", "NoNumber", "NoMost", "NoTurn", "Unlike"]
end DL
namespace DL
open PySem PySem.Spec PyProof.Rows L2
abbrev D := PyData
/-- an exception: its class's name, its fields -/
structure Exn where
  cls : Str
  dat : List (Str × D)
inductive R (S α : Type) where
  | stuck
  | ok (a : α)
  | err (x : Exn) (s : S)
def R.bind {S α β : Type} : R S α → (α → R S β) → R S β
  | .stuck, _ => .stuck
  | .ok a, f => f a
  | .err x s, _ => .err x s
def ofO {S α : Type} : Option α → R S α
  | some a => .ok a
  | none => .stuck
/-- what is wanted of a run -/
def R.post {S α : Type} (p : α → Prop) (q : Exn → S → Prop) : R S α → Prop
  | .stuck => False
  | .ok a => p a
  | .err x s => q x s
theorem R.post_bind {S α β : Type} {p : β → Prop} {q : Exn → S → Prop} {r : R S α} {f : α → R S β} (h : (r.bind f).post p q) : r.post (fun a => (f a).post p q) q := by
  cases r with
  | stuck => exact h
  | ok a => exact h
  | err x s => exact h
theorem R.post.imp {S α : Type} {p p' : α → Prop} {q q' : Exn → S → Prop} {r : R S α} (h : r.post p q) (hp : ∀ a, p a → p' a) (hq : ∀ x s, q x s → q' x s) : r.post p' q' := by
  cases r with
  | stuck => exact h
  | ok a => exact hp a h
  | err x s => exact hq x s h
theorem ofO_post {S α : Type} {p : α → Prop} {q : Exn → S → Prop} {o : Option α} (h : (ofO o : R S α).post p q) : ∃ a, o = some a ∧ p a := by
  cases o with
  | none => exact h.elim
  | some a => exact ⟨a, rfl, h⟩
/-- what the dict at a holds -/
def BDk (h : Heap) (a : Addr) (vs : List (Bool × V)) : Prop := vs.length ≤ sizeLine ∧ (a == sysModules) = false ∧
  ∃ (P : Program) (w : World) (us : List (Bool × Value)), KV vs us ∧ h.DictOf (PpSet.boolK P w) a us
def BD (a : Addr) (vs : List (Bool × V)) : HO := .ext fun h => BDk h a vs
/-- what a slot holds: data that nobody changes; a list that is the slot's own; a dict that is -/
inductive Sl where
  | im (d : D)
  | ow (ds : List D)
  | dk (kvs : List (Key × D))
  /-- .. whose keys are truth values -/
  | db (kvs : List (Bool × D))
def Sl.own : Sl → Bool
  | .im _ => false
  | _ => true
abbrev En := List (Option Sl)
variable {K : PySem.W.Frag}
/-- a list, a tuple that stays: O tells the addresses that may be changed -/
def LL (K : PySem.W.Frag) (O : Addr → Prop) (H : Hp) (a : Addr) (xs : List V) : Prop := SqL K H a xs ∧ (O a → ∀ H' : Hp, SqL K H' a xs)
def LT (K : PySem.W.Frag) (O : Addr → Prop) (H : Hp) (a : Addr) (xs : List V) : Prop := SqT K H a xs ∧ (O a → ∀ H' : Hp, SqT K H' a xs)
/-- the class that the main module's name x stands for -/
def caK (K : PySem.W.Frag) (x : Str) : Addr := match PySem.W.nsIn K mainGlobals x with
  | some (some (.ref a)) => a
  | _ => 0
/-- an exception that was caught, at a; its dict, if it has fields -/
def ExB (cls : Value) (d : Option Addr) (a : Addr) : HO := .ext fun h => ∃ (ob : Obj) (fs : Array Value), h.get? a = some ob ∧ (ob.cls = cls ∧ ob.dict = d) ∧ ob.data = .fields fs
def ExH (K : PySem.W.Frag) (O : Addr → Prop) (H : Hp) (a : Addr) (n : Str) : Prop := H a = some (ExB (.ref (caK K n)) none a) ∧ ¬ O a
/-- .. with one field -/
def ExP (K : PySem.W.Frag) (O : Addr → Prop) (H : Hp) (a dx : Addr) (n f : Str) (v : V) : Prop := (H a = some (ExB (.ref (caK K n)) (some dx) a) ∧ ¬ O a) ∧ (∃ fs, H dx = some (.xd fs) ∧ fs.lookup f = some v) ∧ ¬ O dx
def exSub (n m : Str) : Bool := n == m || m == "StintsError"
def tyFive : List String := ["int", "bool", "tuple", "list", "str"]
/-- what the written part tells of the class of an error -/
structure ExI (K : PySem.W.Frag) (n : Str) : Prop where
  c : ExcC K (caK K n)
  b : ∀ T : String, T ∈ tyFive → PySem.W.kitOne K (.ref (caK K n)) (.type T) = some false
  v : PySem.W.kitOne K (.ref (caK K n)) (.type "ValueError") = some true
  e : PySem.W.exmOne K (.ref (caK K n)) (.ref (caK K "StintsError")) = some true
  s : ∀ m : Str, m ∈ exNames → PySem.W.kitOne K (.ref (caK K n)) (.ref (caK K m)) = some (exSub n m)
/-- the fields of a Stints: its places, its list of terms, its list of what was before -/
abbrev stF (m : Int) (n p : Addr) : List (Str × V) := [("many", .int m), ("now", .ref n), ("past", .ref p)]
/-- a Stints that nobody changes -/
def StH (K : PySem.W.Frag) (O : Addr → Prop) (H : Hp) (a dx n p : Addr) (m : Int) : Prop := H a = some (.ins (caK K "Stints") dx (stF m n p)) ∧ ¬ O a
/-- the list of what was before, where it is known -/
def PaH (O : Addr → Prop) (H : Hp) (p : Addr) (c : Int) : Prop := c < 0 → H p = some (.lst []) ∧ ¬ O p
theorem paH_of {O : Addr → Prop} {H : Hp} {p : Addr} {c : Int} (h : 0 ≤ c) : PaH O H p c := fun q => absurd q (Int.not_lt.mpr h)
/-- what the written part tells of the class Stints -/
structure StI (K : PySem.W.Frag) : Prop where
  cl : Cls K (caK K "Stints")
  ha : PySem.W.findIn K (.ref (caK K "Stints")) "__class__" = some (some (.builtin "object.__class__"))
  hn : PySem.W.specialIn K (.builtin "object.__class__") "__get__" = some (some (.builtin "getset_descriptor.__get__"))
  ht : PySem.W.takesIn K (.builtin "object.__class__") = some true
  hm : PySem.W.mroIn K (caK K "Stints") (.type "object") = some true
  b : ∀ T : String, T ∈ tyFive → PySem.W.kitOne K (.ref (caK K "Stints")) (.type T) = some false
  nM : NoAttr K (caK K "Stints") "many"
  nN : NoAttr K (caK K "Stints") "now"
  nP : NoAttr K (caK K "Stints") "past"
/-- a Stints as data; c below 0: it was never changed, its list of what was before is empty (c else is of no account there) -/
abbrev stiD (m : Int) (ds : List D) (c : Int) : D := .dict [(.str "Stints", .int m), (.str "now", .list ds), (.str "past", .int c)]
mutual
inductive At (K : PySem.W.Frag) (O : Addr → Prop) (H : Hp) : V → D → Prop
  | non : At K O H .non .none
  | bl (b : Bool) : At K O H (.bl b) (.bool b)
  | int (i : Int) : At K O H (.int i) (.int i)
  | str (x : Str) : At K O H (.str x) (.str x)
  | lst {a : Addr} {xs : List V} {ds : List D} : LL K O H a xs → AtAll K O H xs ds → At K O H (.ref a) (.list ds)
  | tup {a : Addr} {xs : List V} {ds : List D} : LT K O H a xs → AtAll K O H xs ds → At K O H (.ref a) (.tuple ds)
  | exc {a : Addr} (n : Str) : ExH K O H a n → ExI K n → At K O H (.ref a) (.dict [(.str n, .none)])
  | excP {a dx : Addr} {v : V} {d : D} (n f : Str) : ExP K O H a dx n f v → ExI K n → At K O H v d → At K O H (.ref a) (.dict [(.str n, .none), (.str f, d)])
  | sti {a dx n p : Addr} {xs : List V} {ds : List D} (m : Int) (c : Int) : StI K → StH K O H a dx n p m → LL K O H n xs → AtAll K O H xs ds → PaH O H p c → At K O H (.ref a) (stiD m ds c)
inductive AtAll (K : PySem.W.Frag) (O : Addr → Prop) (H : Hp) : List V → List D → Prop
  | nil : AtAll K O H [] []
  | cons {v : V} {vs : List V} {d : D} {ds : List D} : At K O H v d → AtAll K O H vs ds → AtAll K O H (v :: vs) (d :: ds)
end
/-- the heap moves: what may not be changed stays; what is newly to be changed is new -/
structure Mv (O O' : Addr → Prop) (H H' : Hp) : Prop where
  keep : ∀ a o, H a = some o → ¬ O a → H' a = some o
  own : ∀ a, O' a → O a ∨ H a = none
  dom : ∀ a, H' a = none → H a = none
section
variable {O O' O'' : Addr → Prop} {H H' H'' : Hp}
theorem Mv.refl : Mv O O H H := ⟨fun _ _ e _ => e, fun _ h => .inl h, fun _ h => h⟩
theorem Mv.trans (a : Mv O O' H H') (b : Mv O' O'' H' H'') : Mv O O'' H H'' :=
  ⟨fun p o e n => b.keep p o (a.keep p o e n) fun h => (a.own p h).elim n fun z => (by rw [e] at z; cases z),
   fun p h => (b.own p h).elim (a.own p) fun z => .inr (a.dom p z), fun p h => a.dom p (b.dom p h)⟩
theorem SqL.mv {a : Addr} {xs : List V} (k : ∀ o, H a = some o → H' a = some o) (h : SqL K H a xs) : SqL K H' a xs := by
  rcases h with (h | ⟨o, h⟩) | h
  · exact .inl (.inl (k _ h))
  · exact .inl (.inr ⟨o, k _ h⟩)
  · exact .inr h
theorem SqT.mv {a : Addr} {xs : List V} (k : ∀ o, H a = some o → H' a = some o) (h : SqT K H a xs) : SqT K H' a xs := by
  rcases h with (h | ⟨o, h⟩) | h
  · exact .inl (.inl (k _ h))
  · exact .inl (.inr ⟨o, k _ h⟩)
  · exact .inr h
theorem LL.mv {a : Addr} {xs : List V} (m : Mv O O' H H') (h : LL K O H a xs) : LL K O' H' a xs := by
  obtain ⟨s, k⟩ := h
  by_cases hO : O a
  · exact ⟨k hO H', fun _ => k hO⟩
  · refine ⟨SqL.mv (fun o e => m.keep a o e hO) s, fun h' => ?_⟩
    rcases m.own a h' with z | z
    · exact absurd z hO
    · rcases s with (s | ⟨o, s⟩) | s
      · rw [s] at z; cases z
      · rw [s] at z; cases z
      · exact fun _ => .inr s
theorem LT.mv {a : Addr} {xs : List V} (m : Mv O O' H H') (h : LT K O H a xs) : LT K O' H' a xs := by
  obtain ⟨s, k⟩ := h
  by_cases hO : O a
  · exact ⟨k hO H', fun _ => k hO⟩
  · refine ⟨SqT.mv (fun o e => m.keep a o e hO) s, fun h' => ?_⟩
    rcases m.own a h' with z | z
    · exact absurd z hO
    · rcases s with (s | ⟨o, s⟩) | s
      · rw [s] at z; cases z
      · rw [s] at z; cases z
      · exact fun _ => .inr s
theorem ExH.mv {a : Addr} {n : Str} (m : Mv O O' H H') (h : ExH K O H a n) : ExH K O' H' a n := by
  obtain ⟨e, no⟩ := h
  refine ⟨m.keep a _ e no, fun z => ?_⟩
  rcases m.own a z with z | z
  · exact no z
  · rw [z] at e; cases e
theorem ExP.mv {a dx : Addr} {n f : Str} {v : V} (m : Mv O O' H H') (h : ExP K O H a dx n f v) : ExP K O' H' a dx n f v := by
  obtain ⟨⟨e, no⟩, ⟨fs, e2, l⟩, no2⟩ := h
  have key : ∀ {b : Addr} {o : HO}, H b = some o → ¬ O b → ¬ O' b := fun {b o} e n z => by
    rcases m.own b z with z | z
    · exact n z
    · rw [z] at e; cases e
  exact ⟨⟨m.keep a _ e no, key e no⟩, ⟨fs, m.keep dx _ e2 no2, l⟩, key e2 no2⟩
theorem StH.mv {a dx n p : Addr} {k : Int} (m : Mv O O' H H') (h : StH K O H a dx n p k) : StH K O' H' a dx n p k := by
  obtain ⟨e, no⟩ := h
  refine ⟨m.keep a _ e no, fun z => ?_⟩
  rcases m.own a z with z | z
  · exact no z
  · rw [z] at e; cases e
theorem PaH.mv {p : Addr} {c : Int} (m : Mv O O' H H') (h : PaH O H p c) : PaH O' H' p c := fun q => ⟨m.keep p _ (h q).1 (h q).2, fun z => (m.own p z).elim (h q).2 fun e => by rw [(h q).1] at e; cases e⟩
mutual
theorem At.mv (m : Mv O O' H H') : ∀ {v : V} {d : D}, At K O H v d → At K O' H' v d
  | _, _, .non => .non
  | _, _, .bl b => .bl b
  | _, _, .int i => .int i
  | _, _, .str x => .str x
  | _, _, .lst l r => .lst (l.mv m) (AtAll.mv m r)
  | _, _, .tup l r => .tup (l.mv m) (AtAll.mv m r)
  | _, _, .exc n h i => .exc n (h.mv m) i
  | _, _, .excP n f h i a => .excP n f (h.mv m) i (At.mv m a)
  | _, _, .sti k c i h l r q => .sti k c i (h.mv m) (l.mv m) (AtAll.mv m r) (q.mv m)
theorem AtAll.mv (m : Mv O O' H H') : ∀ {vs : List V} {ds : List D}, AtAll K O H vs ds → AtAll K O' H' vs ds
  | _, _, .nil => .nil
  | _, _, .cons a r => .cons (At.mv m a) (AtAll.mv m r)
end
mutual
theorem At.dp : ∀ {v : V} {d : D}, At K O H v d → PyData.canLay0 d = true → Dp K H v d
  | _, _, .non, _ => .non
  | _, _, .bl b, _ => .bl b
  | _, _, .int i, _ => .int i
  | _, _, .str x, _ => .str x
  | _, _, .lst l r, h => .lst l.1 (AtAll.dp r (by simpa only [PyData.canLay0] using h))
  | _, _, .tup l r, h => .tup l.1 (AtAll.dp r (by simpa only [PyData.canLay0] using h))
  | _, _, .exc n _ _, h => by simp [PyData.canLay0] at h
  | _, _, .excP n f _ _ _, h => by simp [PyData.canLay0] at h
  | _, _, .sti _ _ _ _ _ _ _, h => by simp [PyData.canLay0] at h
theorem AtAll.dp : ∀ {vs : List V} {ds : List D}, AtAll K O H vs ds → PyData.canLayAll0 ds = true → DpAll K H vs ds
  | _, _, .nil, _ => .nil
  | _, _, .cons a r, h => by
    simp only [PyData.canLayAll0, Bool.and_eq_true] at h
    exact .cons (At.dp a h.1) (AtAll.dp r h.2)
end
theorem AtAll.length : ∀ {vs : List V} {ds : List D}, AtAll K O H vs ds → vs.length = ds.length
  | _, _, .nil => rfl
  | _, _, .cons _ r => congrArg (· + 1) (AtAll.length r)
theorem AtAll.get : ∀ {vs : List V} {ds : List D} {i : Nat} {d : D}, AtAll K O H vs ds → ds[i]? = some d → ∃ v, vs[i]? = some v ∧ At K O H v d
  | _, _, _, _, .nil, e => by simp at e
  | _, _, 0, _, .cons a _, e => by simp at e; subst e; exact ⟨_, rfl, a⟩
  | _, _, i + 1, d, .cons _ r, e => by
    obtain ⟨v, h1, h2⟩ := AtAll.get (i := i) (d := d) r (by simpa using e)
    exact ⟨v, by simpa using h1, h2⟩
theorem AtAll.append : ∀ {vs us : List V} {ds es : List D}, AtAll K O H vs ds → AtAll K O H us es → AtAll K O H (vs ++ us) (ds ++ es)
  | _, _, _, _, .nil, q => q
  | _, _, _, _, .cons a r, q => .cons a (AtAll.append r q)
theorem AtAll.take : ∀ {vs : List V} {ds : List D} (n : Nat), AtAll K O H vs ds → AtAll K O H (vs.take n) (ds.take n)
  | _, _, 0, _ => by simp only [List.take_zero]; exact .nil
  | _, _, _ + 1, .nil => .nil
  | _, _, n + 1, .cons a r => .cons a (AtAll.take n r)
theorem AtAll.drop : ∀ {vs : List V} {ds : List D} (n : Nat), AtAll K O H vs ds → AtAll K O H (vs.drop n) (ds.drop n)
  | _, _, 0, r => by simpa only [List.drop_zero] using r
  | _, _, _ + 1, .nil => .nil
  | _, _, n + 1, .cons _ r => AtAll.drop n r
theorem AtAll.set {v : V} {d : D} (h : At K O H v d) : ∀ {vs : List V} {ds : List D} (n : Nat), AtAll K O H vs ds → AtAll K O H (vs.set n v) (ds.set n d)
  | _, _, _, .nil => .nil
  | _, _, 0, .cons _ r => .cons h r
  | _, _, n + 1, .cons a r => .cons a (AtAll.set h n r)
theorem AtAll.ints : ∀ {vs : List V} {ns : List Int}, AtAll K O H vs (ns.map PyData.int) → vs = ns.map V.int
  | _, [], .nil => rfl
  | _, _ :: _, .cons (.int _) r => congrArg (_ :: ·) (AtAll.ints r)
theorem AtAll.of_ints : ∀ (ns : List Int), AtAll K O H (ns.map V.int) (ns.map PyData.int)
  | [] => .nil
  | i :: r => .cons (.int i) (AtAll.of_ints r)
end
end DL
namespace DL
open PySem PySem.Spec PyProof.Rows L2
variable {K : PySem.W.Frag}
abbrev Sg := List (Option V)
def SlotR (K : PySem.W.Frag) (O : Addr → Prop) (H : Hp) (v : V) : Sl → Prop
  | .im d => At K O H v d
  | .ow ds => ∃ a xs, v = .ref a ∧ O a ∧ H a = some (.lst xs) ∧ AtAll K O H xs ds
  | .dk kvs => ∃ a vs, v = .ref a ∧ O a ∧ H a = some (.dK vs) ∧ vs.map Prod.fst = kvs.map Prod.fst ∧ AtAll K O H (vs.map Prod.snd) (kvs.map Prod.snd)
  | .db kvs => ∃ a vs, v = .ref a ∧ O a ∧ H a = some (BD a vs) ∧ vs.map Prod.fst = kvs.map Prod.fst ∧ AtAll K O H (vs.map Prod.snd) (kvs.map Prod.snd)
def ownedAt (σ : Sg) (env : En) (i : Nat) (a : Addr) : Prop := ∃ s, env[i]? = some (some s) ∧ s.own = true ∧ σ[i]? = some (some (.ref a))
/-- a def's run: what others may change; the heap at the entry; the parameters that it may change -/
structure Bs where
  O0 : Addr → Prop
  H0 : Hp
  ps : List (Nat × Addr)
  /-- what stays as it is, though it is nobody's data -/
  kp : Addr → Option HO
  /-- names whose value stays -/
  fx : List (Nat × V) := []
def Bs.O (B : Bs) (σ : Sg) (env : En) (a : Addr) : Prop := B.O0 a ∨ ∃ i, ownedAt σ env i a
structure SR (K : PySem.W.Frag) (np : List Nat) (B : Bs) (σ : Sg) (H : Hp) (env : En) : Prop where
  len : σ.length = env.length
  slot : ∀ (i : Nat) (s : Sl), env[i]? = some (some s) → ∃ v : V, σ[i]? = some (some v) ∧ SlotR K (B.O σ env) H v s
  dist : ∀ i j a, ownedAt σ env i a → ownedAt σ env j a → i = j
  keep : ∀ a o, B.H0 a = some o → (∀ p ∈ B.ps, p.2 ≠ a) → H a = some o
  dom : ∀ a, H a = none → B.H0 a = none
  new : ∀ i a, ownedAt σ env i a → (i, a) ∈ B.ps ∨ B.H0 a = none
  o0 : ∀ a, B.O0 a → H a ≠ none ∧ ∀ p ∈ B.ps, p.2 ≠ a
  kept : ∀ a o, B.kp a = some o → H a = some o
  kpo : ∀ i a, ownedAt σ env i a → B.kp a = none
  own0 : ∀ i a, ownedAt σ env i a → ¬ B.O0 a
  par : ∀ p ∈ B.ps, ownedAt σ env p.1 p.2 ∧ B.H0 p.2 ≠ none ∧ p.1 ∈ np
  fix : ∀ p ∈ B.fx, σ[p.1]? = some (some p.2) ∧ p.1 ∈ np
abbrev Ex (H H' : Hp) : Prop := ∀ a o, H a = some o → H' a = some o
theorem Ex.dom {H H' : Hp} (e : Ex H H') (a : Addr) (h : H' a = none) : H a = none := by
  cases q : H a with
  | none => rfl
  | some o => rw [e a o q] at h; cases h
theorem Ex.new {H : Hp} {p : Addr} {o : HO} (h : H p = none) : Ex H (upd H p o) := fun a u e => by
  rw [upd_ne (ne_of_none e h)]
  exact e
theorem Mv.ex {O : Addr → Prop} {H H' : Hp} (e : Ex H H') : Mv O O H H' := ⟨fun a o h _ => e a o h, fun _ h => .inl h, Ex.dom e⟩
def plus (O : Addr → Prop) (a : Addr) : Addr → Prop := fun b => O b ∨ b = a
theorem Mv.new {O : Addr → Prop} {H : Hp} {p : Addr} {o : HO} (h : H p = none) : Mv O (plus O p) H (upd H p o) :=
  ⟨fun a u e _ => Ex.new h a u e, fun a z => z.elim .inl fun e => .inr (e ▸ h), Ex.dom (Ex.new h)⟩
theorem Mv.less {O O' : Addr → Prop} {H : Hp} (h : ∀ a, O' a → O a) : Mv O O' H H := ⟨fun _ _ e _ => e, fun a z => .inl (h a z), fun _ e => e⟩
section
variable {O O' : Addr → Prop} {H H' : Hp} {v : V} {s : Sl}
/-- an own list stays where its object and O stay -/
theorem SlotR.mv (m : Mv O O' H H') (hO : ∀ a, v = .ref a → s.own = true → O' a) (hk : ∀ a o, v = .ref a → s.own = true → H a = some o → H' a = some o) (h : SlotR K O H v s) : SlotR K O' H' v s := by
  cases s with
  | im d => exact At.mv m h
  | ow ds =>
    obtain ⟨a, xs, e, _, q, r⟩ := h
    exact ⟨a, xs, e, hO a e rfl, hk a _ e rfl q, AtAll.mv m r⟩
  | dk kvs =>
    obtain ⟨a, vs, e, _, q, f, r⟩ := h
    exact ⟨a, vs, e, hO a e rfl, hk a _ e rfl q, f, AtAll.mv m r⟩
  | db kvs =>
    obtain ⟨a, vs, e, _, q, f, r⟩ := h
    exact ⟨a, vs, e, hO a e rfl, hk a _ e rfl q, f, AtAll.mv m r⟩
theorem SlotR.ref (h : SlotR K O H v s) (ho : s.own = true) : ∃ a o, v = .ref a ∧ O a ∧ H a = some o := by
  cases s with
  | im d => cases ho
  | ow ds => obtain ⟨a, xs, e, q, r, _⟩ := h; exact ⟨a, _, e, q, r⟩
  | dk ds => obtain ⟨a, xs, e, q, r, _⟩ := h; exact ⟨a, _, e, q, r⟩
  | db ds => obtain ⟨a, xs, e, q, r, _⟩ := h; exact ⟨a, _, e, q, r⟩
end
section
variable {np : List Nat} {B : Bs} {σ : Sg} {H H' : Hp} {env env' : En}
theorem SR.odom (I : SR K np B σ H env) (a : Addr) (h : B.O σ env a) : ∃ o, H a = some o := by
  rcases h with h | ⟨i, s, h1, h2, h3⟩
  · cases q : H a with
    | some o => exact ⟨o, rfl⟩
    | none => exact absurd q (I.o0 a h).1
  · obtain ⟨v, e, q⟩ := I.slot i s h1
    obtain ⟨b, o, eb, _, hb⟩ := q.ref h2
    rw [h3] at e
    cases e
    cases eb
    exact ⟨o, hb⟩
theorem SR.nO (I : SR K np B σ H env) {p : Addr} (h : H p = none) : ¬ B.O σ env p := fun z => by
  obtain ⟨o, e⟩ := I.odom p z
  rw [h] at e; cases e
theorem SR.fixSet (I : SR K np B σ H env) {i : Nat} {x : Option V} (hi : i ∉ np) : ∀ p ∈ B.fx, (σ.set i x)[p.1]? = some (some p.2) ∧ p.1 ∈ np := fun p hp => by
  obtain ⟨h1, h2⟩ := I.fix p hp
  exact ⟨by rw [List.getElem?_set_ne (fun z => hi (by rw [z]; exact h2))]; exact h1, h2⟩
theorem SR.ex (I : SR K np B σ H env) (e : Ex H H') : SR K np B σ H' env where
  len := I.len
  slot := fun i s h => by
    obtain ⟨v, e1, q⟩ := I.slot i s h
    exact ⟨v, e1, q.mv (Mv.ex e) (fun a ea ho => .inr ⟨i, s, h, ho, ea ▸ e1⟩) fun a o _ _ z => e a o z⟩
  dist := I.dist
  keep := fun a o h n => e a o (I.keep a o h n)
  dom := fun a h => I.dom a (Ex.dom e a h)
  new := I.new
  o0 := fun a h => ⟨fun z => (I.o0 a h).1 (Ex.dom e a z), (I.o0 a h).2⟩
  kept := fun a o h => e a o (I.kept a o h)
  kpo := I.kpo
  own0 := I.own0
  par := I.par
  fix := I.fix
/-- data in a slot -/
theorem SR.im (I : SR K np B σ H env) {i : Nat} {d : D} (h : env[i]? = some (some (.im d))) : ∃ v : V, σ[i]? = some (some v) ∧ At K (B.O σ env) H v d := I.slot i _ h
/-- an own list -/
theorem SR.ow (I : SR K np B σ H env) {i : Nat} {ds : List D} (h : env[i]? = some (some (.ow ds))) :
    ∃ a xs, σ[i]? = some (some (.ref a)) ∧ B.O σ env a ∧ H a = some (.lst xs) ∧ AtAll K (B.O σ env) H xs ds := by
  obtain ⟨v, e, a, xs, rfl, hO, q, r⟩ := I.slot i _ h
  exact ⟨a, xs, e, hO, q, r⟩
theorem SR.dk (I : SR K np B σ H env) {i : Nat} {kvs : List (Key × D)} (h : env[i]? = some (some (.dk kvs))) :
    ∃ a vs, σ[i]? = some (some (.ref a)) ∧ B.O σ env a ∧ H a = some (.dK vs) ∧ vs.map Prod.fst = kvs.map Prod.fst ∧ AtAll K (B.O σ env) H (vs.map Prod.snd) (kvs.map Prod.snd) := by
  obtain ⟨v, e, a, xs, rfl, hO, q, r⟩ := I.slot i _ h
  exact ⟨a, xs, e, hO, q, r⟩
theorem getElem?_set_some {α : Type} {l : List α} {i j : Nat} {x y : α} (h : (l.set i x)[j]? = some y) : (j = i ∧ y = x) ∨ (j ≠ i ∧ l[j]? = some y) := by
  by_cases e : i = j
  · subst e
    by_cases hl : i < l.length
    · rw [List.getElem?_set_self hl] at h
      cases h
      exact .inl ⟨rfl, rfl⟩
    · rw [List.getElem?_eq_none (by simpa using hl)] at h; cases h
  · rw [List.getElem?_set_ne e] at h
    exact .inr ⟨fun z => e z.symm, h⟩
/-- data is stored -/
theorem SR.setIm (I : SR K np B σ H env) {i : Nat} {v : V} {d : D} (hi : i ∉ np) (h : At K (B.O σ env) H v d) :
    SR K np B (σ.set i (some v)) H (env.set i (some (.im d))) ∧ Mv (B.O σ env) (B.O (σ.set i (some v)) (env.set i (some (.im d)))) H H := by
  have ow : ∀ j a, ownedAt (σ.set i (some v)) (env.set i (some (.im d))) j a → j ≠ i ∧ ownedAt σ env j a := fun j a ⟨s, h1, h2, h3⟩ => by
    rcases getElem?_set_some h1 with ⟨e, e2⟩ | ⟨e, h1⟩
    · cases e2; cases h2
    · rcases getElem?_set_some h3 with ⟨e3, _⟩ | ⟨_, h3⟩
      · exact absurd e3 e
      · exact ⟨e, s, h1, h2, h3⟩
  have wo : ∀ j a, j ≠ i → ownedAt σ env j a → ownedAt (σ.set i (some v)) (env.set i (some (.im d))) j a := fun j a n ⟨s, h1, h2, h3⟩ =>
    ⟨s, by rw [List.getElem?_set_ne (Ne.symm n)]; exact h1, h2, by rw [List.getElem?_set_ne (Ne.symm n)]; exact h3⟩
  have m : Mv (B.O σ env) (B.O (σ.set i (some v)) (env.set i (some (.im d)))) H H := Mv.less fun a z => z.elim .inl fun ⟨j, q⟩ => .inr ⟨j, (ow j a q).2⟩
  refine ⟨⟨by simpa using I.len, fun j s hs => ?_, fun j k a h1 h2 => I.dist j k a (ow j a h1).2 (ow k a h2).2, I.keep, I.dom, fun j a h => I.new j a (ow j a h).2, I.o0, I.kept, fun j a h => I.kpo j a (ow j a h).2, fun j a h => I.own0 j a (ow j a h).2, fun p hp => ?_, I.fixSet hi⟩, m⟩
  · rcases getElem?_set_some hs with ⟨e, e2⟩ | ⟨e, h1⟩
    · cases e2
      subst e
      have hl : j < σ.length := by
        rw [I.len]
        have := (List.getElem?_eq_some_iff.mp hs).1
        simpa using this
      exact ⟨v, by rw [List.getElem?_set_self hl], At.mv m h⟩
    · obtain ⟨u, e1, q⟩ := I.slot j s h1
      refine ⟨u, by rw [List.getElem?_set_ne (Ne.symm e)]; exact e1, q.mv m (fun a ea ho => .inr ⟨j, wo j a e ⟨s, h1, ho, ea ▸ e1⟩⟩) fun _ _ _ _ z => z⟩
  · obtain ⟨h1, h2, h3⟩ := I.par p hp
    exact ⟨wo _ _ (fun z => hi (z ▸ h3)) h1, h2, h3⟩
/-- all slots, with one address more that may be changed -/
def Clean (K : PySem.W.Frag) (O : Addr → Prop) (σ : Sg) (H : Hp) (env : En) : Prop := ∀ (i : Nat) (s : Sl), env[i]? = some (some s) → ∃ v : V, σ[i]? = some (some v) ∧ SlotR K O H v s
/-- a new list -/
def FRes (K : PySem.W.Frag) (O : Addr → Prop) (σ : Sg) (env : En) (H H' : Hp) (v : V) (d : D) : Prop :=
  ∀ ds, d = .list ds → ∃ a xs, v = .ref a ∧ H a = none ∧ ¬ O a ∧ H' a = some (.lst xs) ∧ AtAll K (plus O a) H' xs ds ∧ Clean K (plus O a) σ H' env
/-- a new list is stored as the slot's own -/
theorem SR.setOw (I : SR K np B σ H' env) {Hs : Hp} {i : Nat} {v : V} {ds : List D} (hi : i ∉ np) (hs : ∀ a, Hs a = none → B.H0 a = none) (hk : ∀ a, Hs a = none → B.kp a = none) (h : FRes K (B.O σ env) σ env Hs H' v (.list ds)) :
    SR K np B (σ.set i (some v)) H' (env.set i (some (.ow ds))) ∧ ∃ a, v = .ref a ∧ Hs a = none ∧ (∀ b, B.O (σ.set i (some v)) (env.set i (some (.ow ds))) b → B.O σ env b ∨ b = a) := by
  obtain ⟨a, xs, rfl, na, nO, ha, hx, hc⟩ := h ds rfl
  have ow : ∀ j b, ownedAt (σ.set i (some (.ref a))) (env.set i (some (.ow ds))) j b → (j = i ∧ b = a) ∨ (j ≠ i ∧ ownedAt σ env j b) := fun j b ⟨s, h1, h2, h3⟩ => by
    rcases getElem?_set_some h1 with ⟨e, e2⟩ | ⟨e, h1⟩
    · rcases getElem?_set_some h3 with ⟨_, e3⟩ | ⟨e3, _⟩
      · cases e3; exact .inl ⟨e, rfl⟩
      · exact absurd e e3
    · rcases getElem?_set_some h3 with ⟨e3, _⟩ | ⟨_, h3⟩
      · exact absurd e3 e
      · exact .inr ⟨e, s, h1, h2, h3⟩
  have wo : ∀ j b, j ≠ i → ownedAt σ env j b → ownedAt (σ.set i (some (.ref a))) (env.set i (some (.ow ds))) j b := fun j b n ⟨s, h1, h2, h3⟩ =>
    ⟨s, by rw [List.getElem?_set_ne (Ne.symm n)]; exact h1, h2, by rw [List.getElem?_set_ne (Ne.symm n)]; exact h3⟩
  have sub : ∀ b, B.O (σ.set i (some (.ref a))) (env.set i (some (.ow ds))) b → plus (B.O σ env) a b := fun b z => by
    rcases z with z | ⟨j, q⟩
    · exact .inl (.inl z)
    · rcases ow j b q with ⟨_, e⟩ | ⟨_, q⟩
      · exact .inr e
      · exact .inl (.inr ⟨j, q⟩)
  have m : Mv (plus (B.O σ env) a) (B.O (σ.set i (some (.ref a))) (env.set i (some (.ow ds)))) H' H' := Mv.less sub
  refine ⟨⟨by simpa using I.len, fun j s h1 => ?_, fun j k b h1 h2 => ?_, I.keep, I.dom, fun j b h => ?_, I.o0, I.kept, fun j b h => ?_, fun j b h => ?_, fun p hp => ?_, I.fixSet hi⟩, a, rfl, na, sub⟩
  · rcases getElem?_set_some h1 with ⟨e, e2⟩ | ⟨e, h2⟩
    · cases e2
      subst e
      have hl : j < env.length := by
        have := (List.getElem?_eq_some_iff.mp h1).1
        simpa using this
      have hl' : j < σ.length := by rw [I.len]; exact hl
      exact ⟨.ref a, by rw [List.getElem?_set_self hl'], a, xs, rfl, .inr ⟨j, .ow ds, by rw [List.getElem?_set_self hl], rfl, by rw [List.getElem?_set_self hl']⟩, ha, AtAll.mv m hx⟩
    · obtain ⟨u, e1, q⟩ := hc j s h2
      exact ⟨u, by rw [List.getElem?_set_ne (Ne.symm e)]; exact e1, q.mv m (fun b eb ho => .inr ⟨j, wo j b e ⟨s, h2, ho, eb ▸ e1⟩⟩) fun _ _ _ _ z => z⟩
  · have na' : ∀ l, ¬ ownedAt σ env l a := fun l q => nO (.inr ⟨l, q⟩)
    rcases ow j b h1 with ⟨e1, e2⟩ | ⟨e1, q1⟩
    · rcases ow k b h2 with ⟨e3, e4⟩ | ⟨e3, q2⟩
      · rw [e1, e3]
      · rw [e2] at q2
        exact absurd q2 (na' k)
    · rcases ow k b h2 with ⟨e3, e4⟩ | ⟨e3, q2⟩
      · rw [e4] at q1
        exact absurd q1 (na' j)
      · exact I.dist j k b q1 q2
  · rcases ow j b h with ⟨_, e⟩ | ⟨_, q⟩
    · exact .inr (e ▸ hs a na)
    · exact I.new j b q
  · rcases ow j b h with ⟨_, e⟩ | ⟨_, q⟩
    · exact e ▸ hk a na
    · exact I.kpo j b q
  · rcases ow j b h with ⟨_, e⟩ | ⟨_, q⟩
    · exact fun w => nO (.inl (e ▸ w))
    · exact I.own0 j b q
  · obtain ⟨h1, h2, h3⟩ := I.par p hp
    exact ⟨wo _ _ (fun z => hi (z ▸ h3)) h1, h2, h3⟩
/-- an own list changes in place -/
theorem SR.write (I : SR K np B σ H env) {i : Nat} {a : Addr} {s s' : Sl} {o : HO} (hs : env[i]? = some (some s)) (ho : s.own = true) (ho' : s'.own = true) (ha : σ[i]? = some (some (.ref a)))
    (h : SlotR K (B.O σ env) (upd H a o) (.ref a) s') :
    SR K np B σ (upd H a o) (env.set i (some s')) ∧ Mv (B.O σ env) (B.O σ (env.set i (some s'))) H (upd H a o) := by
  have oi : ownedAt σ env i a := ⟨s, hs, ho, ha⟩
  have ia : ∃ u, H a = some u := I.odom a (.inr ⟨i, oi⟩)
  have ow : ∀ j b, ownedAt σ (env.set i (some s')) j b ↔ ownedAt σ env j b := fun j b => by
    constructor
    · rintro ⟨t, h1, h2, h3⟩
      rcases getElem?_set_some h1 with ⟨e, _⟩ | ⟨_, h1⟩
      · subst e; exact ⟨s, hs, ho, h3⟩
      · exact ⟨t, h1, h2, h3⟩
    · rintro ⟨t, h1, h2, h3⟩
      by_cases e : i = j
      · subst e
        exact ⟨s', by rw [List.getElem?_set_self (List.getElem?_eq_some_iff.mp hs).1], ho', h3⟩
      · exact ⟨t, by rw [List.getElem?_set_ne e]; exact h1, h2, h3⟩
  have eO : ∀ b, B.O σ (env.set i (some s')) b ↔ B.O σ env b := fun b => ⟨fun z => z.elim .inl fun ⟨j, q⟩ => .inr ⟨j, (ow j b).1 q⟩, fun z => z.elim .inl fun ⟨j, q⟩ => .inr ⟨j, (ow j b).2 q⟩⟩
  have m : Mv (B.O σ env) (B.O σ (env.set i (some s'))) H (upd H a o) := ⟨fun b u e n => by
      rw [upd_ne (show b ≠ a from fun z => n (by rw [z]; exact .inr ⟨i, oi⟩))]; exact e, fun b z => .inl ((eO b).1 z), fun b e => by
      by_cases z : b = a
      · rw [z, upd_same] at e; cases e
      · rw [upd_ne z] at e; exact e⟩
  refine ⟨⟨by simpa using I.len, fun j t h1 => ?_, fun j k b h1 h2 => I.dist j k b ((ow j b).1 h1) ((ow k b).1 h2), fun b u e n => ?_, fun b e => I.dom b (m.dom b e), fun j b q => I.new j b ((ow j b).1 q), fun b h => ⟨fun z => (I.o0 b h).1 (m.dom b z), (I.o0 b h).2⟩, fun b u e => ?_, fun j b q => I.kpo j b ((ow j b).1 q), fun j b q => I.own0 j b ((ow j b).1 q), fun p hp => let ⟨h1, h2, h3⟩ := I.par p hp; ⟨(ow _ _).2 h1, h2, h3⟩, I.fix⟩, m⟩
  · rcases getElem?_set_some h1 with ⟨e, e2⟩ | ⟨e, h2⟩
    · cases e2
      subst e
      refine ⟨.ref a, ha, SlotR.mv (Mv.less fun b z => (eO b).1 z) (fun b eb _ => ?_) (fun _ _ _ _ z => z) h⟩
      cases eb
      exact (eO _).2 (.inr ⟨j, oi⟩)
    · obtain ⟨u, e1, q⟩ := I.slot j t h2
      refine ⟨u, e1, q.mv m (fun b eb hb => (eO b).2 (.inr ⟨j, t, h2, hb, eb ▸ e1⟩)) fun b w eb hb z => ?_⟩
      have n : b ≠ a := fun z => e (I.dist j i a ⟨t, h2, hb, by rw [e1, eb, z]⟩ oi)
      rw [upd_ne n]; exact z
  · have n2 : b ≠ a := fun z => by
      rcases I.new i a oi with q | q
      · exact n _ q z.symm
      · rw [z] at e; rw [q] at e; cases e
    rw [upd_ne n2]
    exact I.keep b u e n
  · have n2 : b ≠ a := fun z => by
      have q := I.kpo i a oi
      rw [z] at e; rw [q] at e; cases e
    rw [upd_ne n2]
    exact I.kept b u e
end
end DL
namespace DL
open PySem PySem.Spec PyProof.Rows L2
variable {K : PySem.W.Frag}
def ExnAt (K : PySem.W.Frag) (O : Addr → Prop) (H : Hp) (ca : Str → Addr) (x : Exn) (cls : Value) (dp : Option Addr) : Prop :=
  cls = .ref (ca x.cls) ∧ match x.dat with
    | [] => dp = none
    | f :: fs => ∃ (d : Addr) (vs : List (Str × V)), dp = some d ∧ (H d = some (.xd vs) ∧ ¬ O d) ∧ vs.map Prod.fst = (f :: fs).map Prod.fst ∧ AtAll K O H (vs.map Prod.snd) ((f :: fs).map Prod.snd)
/-- what a def's text stands in: the classes' addresses, the slots of what it may change, what is wanted of an exception -/
structure Z where
  ca : Str → Addr
  np : List Nat
  W : WX
  /-- what is told of a value that is handed back: the heap at the start, the value, the heap, the data -/
  rt : Hp → (Addr → Prop) → V → Hp → D → Prop := fun _ _ _ _ _ => True
def XP (K : PySem.W.Frag) (z : Z) (B : Bs) (σ : Sg) (H : Hp) (env : En) (x : Exn) (env' : En) : Prop :=
  ∀ (cls : Value) (dp : Option Addr) (H' : Hp), SR K z.np B σ H' env' → Mv (B.O σ env) (B.O σ env') H H' → ExnAt K (B.O σ env') H' z.ca x cls dp → z.W cls dp σ H'
theorem XP.step {z : Z} {B : Bs} {σ : Sg} {H H1 : Hp} {env env1 : En} {x : Exn} {e : En} (m : Mv (B.O σ env) (B.O σ env1) H H1) (h : XP K z B σ H env x e) : XP K z B σ H1 env1 x e :=
  fun cls dp H' I m' => h cls dp H' I (m.trans m')
/-- an expression's value -/
def EP1 (K : PySem.W.Frag) (z : Z) (fr : Bool) (B : Bs) (σ : Sg) (H : Hp) (env : En) (Q : VK) (p : D × En) : Prop :=
  ∀ (v : V) (H' : Hp), SR K z.np B σ H' p.2 → Mv (B.O σ env) (B.O σ p.2) H H' → At K (B.O σ p.2) H' v p.1 → (fr = true → FRes K (B.O σ p.2) σ p.2 H H' v p.1) → Q v H'
abbrev EF := En → R En (D × En)
def tE (K : PySem.W.Frag) (z : Z) (fr : Bool) (f : EF) : TE := fun σ H Q => ∃ (B : Bs) (env : En), SR K z.np B σ H env ∧ (f env).post (EP1 K z fr B σ H env Q) (XP K z B σ H env)
def tT (K : PySem.W.Frag) (z : Z) (f : En → R En (Bool × En)) : TT := fun σ H Q => ∃ (B : Bs) (env : En), SR K z.np B σ H env ∧
  (f env).post (fun p => ∀ H', SR K z.np B σ H' p.2 → Mv (B.O σ env) (B.O σ p.2) H H' → Q p.1 H') (XP K z B σ H env)
def tA (K : PySem.W.Frag) (z : Z) (f : En → R En (List D × En)) : TA := fun σ H Q => ∃ (B : Bs) (env : En), SR K z.np B σ H env ∧
  (f env).post (fun p => ∀ (vs : List V) H', SR K z.np B σ H' p.2 → Mv (B.O σ env) (B.O σ p.2) H H' → AtAll K (B.O σ p.2) H' vs p.1 → Q vs H') (XP K z B σ H env)
abbrev DE (z : Z) (X : Cx) (fr : Bool) (e : Expr) (f : EF) : Prop := PE X e (tE X.K z fr f)
abbrev DT (z : Z) (X : Cx) (e : Expr) (f : En → R En (Bool × En)) : Prop := PT X e (tT X.K z f)
abbrev DW (z : Z) (X : Cx) (e : Expr) (f : En → R En (Bool × En)) : Prop := PW X e (tT X.K z f)
abbrev DA (z : Z) (X : Cx) (es : List Expr) (f : En → R En (List D × En)) : Prop := PA X es (tA X.K z f)
section
variable {X : Cx} {e : Expr} {es : List Expr} {z : Z}
theorem pe_weak {t t' : TE} (h : PE X e t) (i : ∀ σ H Q, t' σ H Q → t σ H Q) : PE X e t' := ⟨fun pins s σ H Q I q => h.run pins s σ H Q I (i σ H Q q)⟩
theorem pt_weak {t t' : TT} (h : PT X e t) (i : ∀ σ H Q, t' σ H Q → t σ H Q) : PT X e t' := ⟨fun pins s σ H Q I q => h.run pins s σ H Q I (i σ H Q q)⟩
theorem pw_weak {t t' : TT} (h : PW X e t) (i : ∀ σ H Q, t' σ H Q → t σ H Q) : PW X e t' := ⟨fun whole pins s σ H Q I q => h.run whole pins s σ H Q I (i σ H Q q)⟩
theorem pa_weak {t t' : TA} (h : PA X es t) (i : ∀ σ H Q, t' σ H Q → t σ H Q) : PA X es t' := ⟨fun pos pins s σ H Q I q => h.run pos pins s σ H Q I (i σ H Q q)⟩
def fVar (i : Nat) : EF := fun env => match env[i]? with
  | some (some (.im d)) => .ok (d, env)
  | _ => .stuck
def fC (d : D) : EF := fun env => .ok (d, env)
theorem de_imp {fr : Bool} {f : EF} {t : TE} (h : PE X e t) (i : ∀ (B : Bs) (env : En) (σ : Sg) (H : Hp) (Q : VK), SR X.K z.np B σ H env → (f env).post (EP1 X.K z fr B σ H env Q) (XP X.K z B σ H env) → t σ H Q) : DE z X fr e f :=
  pe_weak h fun σ H Q ⟨B, env, I, p⟩ => i B env σ H Q I p
theorem dt_imp {f : En → R En (Bool × En)} {t : TT} (h : PT X e t) (i : ∀ (B : Bs) (env : En) (σ : Sg) (H : Hp) (Q : Bool → Hp → Prop), SR X.K z.np B σ H env →
    (f env).post (fun p => ∀ H', SR X.K z.np B σ H' p.2 → Mv (B.O σ env) (B.O σ p.2) H H' → Q p.1 H') (XP X.K z B σ H env) → t σ H Q) : DT z X e f :=
  pt_weak h fun σ H Q ⟨B, env, I, p⟩ => i B env σ H Q I p
theorem dw_imp {f : En → R En (Bool × En)} {t : TT} (h : PW X e t) (i : ∀ (B : Bs) (env : En) (σ : Sg) (H : Hp) (Q : Bool → Hp → Prop), SR X.K z.np B σ H env →
    (f env).post (fun p => ∀ H', SR X.K z.np B σ H' p.2 → Mv (B.O σ env) (B.O σ p.2) H H' → Q p.1 H') (XP X.K z B σ H env) → t σ H Q) : DW z X e f :=
  pw_weak h fun σ H Q ⟨B, env, I, p⟩ => i B env σ H Q I p
theorem da_imp {f : En → R En (List D × En)} {t : TA} (h : PA X es t) (i : ∀ (B : Bs) (env : En) (σ : Sg) (H : Hp) (Q : List V → Hp → Prop), SR X.K z.np B σ H env →
    (f env).post (fun p => ∀ (vs : List V) H', SR X.K z.np B σ H' p.2 → Mv (B.O σ env) (B.O σ p.2) H H' → AtAll X.K (B.O σ p.2) H' vs p.1 → Q vs H') (XP X.K z B σ H env) → t σ H Q) : DA z X es f :=
  pa_weak h fun σ H Q ⟨B, env, I, p⟩ => i B env σ H Q I p
theorem de_sh {fr : Bool} {f : EF} (h : DE z X fr e f) : DE z X false e f :=
  de_imp h fun B env σ H Q I p => ⟨B, env, I, p.imp (fun _ q v H' I' m a _ => q v H' I' m a fun z => nomatch z) fun _ _ q => q⟩
theorem FRes.flat {O : Addr → Prop} {σ : Sg} {env : En} {H H' : Hp} {v : V} {d : D} (h : ∀ ds, d ≠ .list ds) : FRes K O σ env H H' v d := fun ds e => absurd e (h ds)
theorem de_var {i : Nat} (h : PE X e (tVar i)) : DE z X false e (fVar i) := de_imp h fun B env σ H Q I p => by
  unfold fVar at p
  split at p
  · rename_i d e
    obtain ⟨v, e1, a⟩ := I.im e
    exact ⟨v, e1, p v H I .refl a fun z => nomatch z⟩
  · exact p.elim
theorem de_c {v : V} {d : D} (h : PE X e (tC v)) (ha : ∀ O H, At X.K O H v d) (hd : ∀ ds, d ≠ .list ds) : DE z X true e (fC d) := de_imp h fun B env σ H Q I p => p v H I .refl (ha _ _) fun _ => .flat hd
theorem de_int {i j pos} : DE z X true (.Constant (.int i) j pos) (fC (.int i)) := de_c pe_int (fun _ _ => .int i) (fun _ q => nomatch q)
theorem de_bl {b j pos} : DE z X true (.Constant (.bool b) j pos) (fC (.bool b)) := de_c pe_bl (fun _ _ => .bl b) (fun _ q => nomatch q)
theorem de_non {j pos} : DE z X true (.Constant .none j pos) (fC .none) := de_c pe_non (fun _ _ => .non) (fun _ q => nomatch q)
theorem de_str {x j pos} : DE z X true (.Constant (.str x) j pos) (fC (.str x)) := de_c pe_str (fun _ _ => .str x) (fun _ q => nomatch q)
/-- what an operator, a call gives -/
def Res (K : PySem.W.Frag) (fr : Bool) (O : Addr → Prop) (H H' : Hp) (v : V) (d : D) : Prop :=
  Ex H H' ∧ At K O H' v d ∧ (fr = true → ∀ ds, d = .list ds → ∃ (a : Addr) (xs : List V), v = .ref a ∧ H a = none ∧ H' a = some (.lst xs) ∧ AtAll K (plus O a) H' xs ds)
theorem Res.flat {fr : Bool} {O : Addr → Prop} {H : Hp} {v : V} {d : D} (a : At K O H v d) (h : ∀ ds, d ≠ .list ds) : Res K fr O H H v d := ⟨fun _ _ q => q, a, fun _ ds e => absurd e (h ds)⟩
theorem Res.sh {O : Addr → Prop} {H : Hp} {v : V} {d : D} (a : At K O H v d) : Res K false O H H v d := ⟨fun _ _ q => q, a, fun z => nomatch z⟩
def Od (O : Addr → Prop) (H : Hp) : Prop := ∀ a, H a = none → ¬ O a
/-- a new list, a new tuple -/
theorem Res.lst {fr : Bool} {O : Addr → Prop} {H : Hp} {p : Addr} {xs : List V} {ds : List D} (o : Od O H) (hp : H p = none) (a : AtAll K O H xs ds) : Res K fr O H (upd H p (.lst xs)) (.ref p) (.list ds) :=
  ⟨Ex.new hp, .lst ⟨.inl (.inl upd_same), fun z => absurd z (o p hp)⟩ (AtAll.mv (Mv.ex (Ex.new hp)) a), fun _ ds' e => by
    cases e
    exact ⟨p, xs, rfl, hp, upd_same, AtAll.mv (Mv.new hp) a⟩⟩
theorem Res.tup {fr : Bool} {O : Addr → Prop} {H : Hp} {p : Addr} {xs : List V} {ds : List D} (o : Od O H) (hp : H p = none) (a : AtAll K O H xs ds) : Res K fr O H (upd H p (.tup xs)) (.ref p) (.tuple ds) :=
  ⟨Ex.new hp, .tup ⟨.inl (.inl upd_same), fun z => absurd z (o p hp)⟩ (AtAll.mv (Mv.ex (Ex.new hp)) a), fun _ ds' e => nomatch e⟩
theorem SR.od {np : List Nat} {B : Bs} {σ : Sg} {H : Hp} {env : En} (I : SR K np B σ H env) : Od (B.O σ env) H := fun _ h => I.nO h
theorem Clean.of {np : List Nat} {B : Bs} {σ : Sg} {H H' : Hp} {env : En} {p : Addr} (I : SR K np B σ H env) (e : Ex H H') (hp : H p = none) : Clean K (plus (B.O σ env) p) σ H' env := fun i s h => by
  obtain ⟨v, e1, q⟩ := I.slot i s h
  refine ⟨v, e1, q.mv ⟨fun a o x _ => e a o x, fun a z => z.elim .inl fun w => .inr (w ▸ hp), Ex.dom e⟩ (fun a ea ho => .inl (.inr ⟨i, s, h, ho, ea ▸ e1⟩)) fun a o _ _ z => e a o z⟩
theorem FRes.of {fr : Bool} {np : List Nat} {B : Bs} {σ : Sg} {H H2 H' : Hp} {env : En} {v : V} {d : D} (I : SR K np B σ H2 env) (hd : ∀ a, H2 a = none → H a = none) (r : Res K fr (B.O σ env) H2 H' v d) (hf : fr = true) : FRes K (B.O σ env) σ env H H' v d := fun ds e => by
  obtain ⟨a, xs, e1, na, ha, q⟩ := r.2.2 hf ds e
  exact ⟨a, xs, e1, hd a na, I.nO na, ha, q, Clean.of I r.1 na⟩
/-- the end of a rule that makes a value -/
theorem EP1.give {fr : Bool} {B : Bs} {σ : Sg} {H H2 H' : Hp} {env env2 : En} {Q : VK} {v : V} {d : D} (h : EP1 K z fr B σ H env Q (d, env2)) (I : SR K z.np B σ H2 env2) (m : Mv (B.O σ env) (B.O σ env2) H H2) (r : Res K fr (B.O σ env2) H2 H' v d) : Q v H' :=
  h v H' (I.ex r.1) (m.trans (Mv.ex r.1)) r.2.1 (FRes.of I m.dom r)
def OpD (X : Cx) (f : Value → Value → Sem Value) (fr : Bool) (h : D → D → Option D) : Prop :=
  ∃ r : R2, OpR X f r ∧ ∀ (O : Addr → Prop) (H : Hp) (x y : V) (d e w : D) (Q : VK), Od O H → At X.K O H x d → At X.K O H y e → h d e = some w → (∀ v H', Res X.K fr O H H' v w → Q v H') → r x y H Q
def fOp (h : D → D → Option D) (f g : EF) : EF := fun env => (f env).bind fun p => (g p.2).bind fun q => (ofO (h p.1 q.1)).bind fun r => .ok (r, q.2)
theorem e_op {r : R2} {fa fb fr : Bool} {f g : EF} {h : D → D → Option D} {a b : Expr} (sem : ∀ (O : Addr → Prop) (H : Hp) (x y : V) (d e w : D) (Q : VK), Od O H → At X.K O H x d → At X.K O H y e → h d e = some w → (∀ v H', Res X.K fr O H H' v w → Q v H') → r x y H Q)
    {B : Bs} {env : En} {σ : Sg} {H : Hp} {Q : VK} (I : SR X.K z.np B σ H env) (hp : (fOp h f g env).post (EP1 X.K z fr B σ H env Q) (XP X.K z B σ H env)) : tOp r (tE X.K z fa f) (tE X.K z fb g) σ H Q := by
  refine ⟨B, env, I, (R.post_bind hp).imp (fun p hp v H1 I1 m1 a1 _ => ?_) fun _ _ q => q⟩
  refine ⟨B, p.2, I1, (R.post_bind hp).imp (fun q hq u H2 I2 m2 a2 _ => ?_) fun x e hx => hx.step m1⟩
  obtain ⟨w, ew, hw⟩ := ofO_post (R.post_bind hq)
  exact sem _ H2 v u p.1 q.1 w Q I2.od (At.mv m2 a1) a2 ew fun v' H' rr => EP1.give hw I2 (m1.trans m2) rr
theorem de_op {op : Operator} {fa fb fr : Bool} {f g : EF} {h : D → D → Option D} {a b : Expr} {pos : Pos} (ho : OpD X (binaryOp op) fr h) (ha : DE z X fa a f) (hb : DE z X fb b g) : DE z X fr (.BinOp a op b pos) (fOp h f g) := by
  obtain ⟨r, hr, sem⟩ := ho
  exact de_imp (pe_op hr ha hb) fun B env σ H Q I hp => e_op (a := a) (b := b) sem I hp
theorem de_cmp {op : CmpOp} {fa fb fr : Bool} {f g : EF} {h : D → D → Option D} {a b : Expr} {pos : Pos} (ho : OpD X (compareOp op) fr h) (ha : DE z X fa a f) (hb : DE z X fb b g) (hm : behindInMarks op b = false) : DE z X fr (.Compare a [op] [b] pos) (fOp h f g) := by
  obtain ⟨r, hr, sem⟩ := ho
  exact de_imp (pe_cmpR hr ha hb hm) fun B env σ H Q I hp => e_op (a := a) (b := b) sem I hp
def IxD (X : Cx) (fr : Bool) (h : D → D → Option D) : Prop :=
  ∃ r : R2, IxR X r ∧ ∀ (O : Addr → Prop) (H : Hp) (x y : V) (d e w : D) (Q : VK), Od O H → At X.K O H x d → At X.K O H y e → h d e = some w → (∀ v H', Res X.K fr O H H' v w → Q v H') → r x y H Q
theorem de_ix {fa fb fr : Bool} {f g : EF} {h : D → D → Option D} {a b : Expr} {pos : Pos} (ho : IxD X fr h) (ha : DE z X fa a f) (hb : DE z X fb b g) (hs : PlainIx b) : DE z X fr (.Subscript a b pos) (fOp h f g) := by
  obtain ⟨r, hr, sem⟩ := ho
  exact de_imp (pe_ix hr ha hb hs) fun B env σ H Q I hp => e_op (a := a) (b := b) sem I hp
def UnD (X : Cx) (f : Value → Sem Value) (fr : Bool) (h : D → Option D) : Prop :=
  ∃ r : V → Hp → VK → Prop, UnR X f r ∧ ∀ (O : Addr → Prop) (H : Hp) (x : V) (d w : D) (Q : VK), Od O H → At X.K O H x d → h d = some w → (∀ v H', Res X.K fr O H H' v w → Q v H') → r x H Q
def fUn (h : D → Option D) (f : EF) : EF := fun env => (f env).bind fun p => (ofO (h p.1)).bind fun r => .ok (r, p.2)
theorem de_un {op : UnaryOp} {fa fr : Bool} {f : EF} {h : D → Option D} {a : Expr} {pos : Pos} (ho : UnD X (unaryOp op) fr h) (ha : DE z X fa a f) : DE z X fr (.UnaryOp op a pos) (fUn h f) := by
  obtain ⟨r, hr, sem⟩ := ho
  refine de_imp (pe_un hr ha) fun B env σ H Q I hp => ⟨B, env, I, (R.post_bind hp).imp (fun p hp v H1 I1 m1 a1 _ => ?_) fun _ _ q => q⟩
  obtain ⟨w, ew, hw⟩ := ofO_post (R.post_bind hp)
  exact sem _ H1 v p.1 w Q I1.od a1 ew fun v' H' rr => EP1.give hw I1 m1 rr
def fBool (f : EF) : En → R En (Bool × En) := fun env => (f env).bind fun p => match p.1 with
  | .bool b => .ok (b, p.2)
  | _ => .stuck
theorem dt_val {fr : Bool} {f : EF} (h : DE z X fr e f) (he : ∀ whole, isTrue e X.env whole = (do let v ← whole; standAt e.pos; holding [v] (truthy v)) := by intro _; rfl) : DT z X e (fBool f) := by
  refine dt_imp (pt_val h he) fun B env σ H Q I hp => ⟨B, env, I, (R.post_bind hp).imp (fun p hp v H1 I1 m1 a1 _ => ?_) fun _ _ q => q⟩
  obtain ⟨d, e'⟩ := p
  cases d with
  | bool b =>
    cases a1
    exact ⟨b, rfl, hp H1 I1 m1⟩
  | _ => exact hp.elim
theorem dt_cmp {op : CmpOp} {fa fb fr : Bool} {f g : EF} {h : D → D → Option D} {a b : Expr} {pos : Pos} (ho : OpD X (compareOp op) fr h) (ha : DE z X fa a f) (hb : DE z X fb b g) (hm : behindInMarks op b = false) : DT z X (.Compare a [op] [b] pos) (fBool (fOp h f g)) := by
  obtain ⟨r, hr, sem⟩ := ho
  refine dt_imp (pt_cmpR hr ha hb hm) fun B env σ H Q I hp => e_op (a := a) (b := b) sem I ((R.post_bind hp).imp (fun p hp v H1 I1 m1 a1 _ => ?_) fun _ _ q => q)
  obtain ⟨d, e'⟩ := p
  cases d with
  | bool b =>
    cases a1
    exact ⟨b, rfl, hp H1 I1 m1⟩
  | _ => exact hp.elim
def fNotT (f : En → R En (Bool × En)) : En → R En (Bool × En) := fun env => (f env).bind fun p => .ok (!p.1, p.2)
def fAndT (f g : En → R En (Bool × En)) : En → R En (Bool × En) := fun env => (f env).bind fun p => if p.1 = true then g p.2 else .ok (false, p.2)
def fOrT (f g : En → R En (Bool × En)) : En → R En (Bool × En) := fun env => (f env).bind fun p => if p.1 = true then .ok (true, p.2) else g p.2
section
variable {a b : Expr} {rest : List Expr} {pos : Pos} {f g : En → R En (Bool × En)}
theorem dt_not (ha : DT z X a f) : DT z X (.UnaryOp .Not a pos) (fNotT f) :=
  dt_imp (pt_not ha) fun B env σ H Q I hp => ⟨B, env, I, (R.post_bind hp).imp (fun p hp H1 I1 m1 => hp H1 I1 m1) fun _ _ q => q⟩
theorem dw_and1 (ha : DT z X a f) : DW z X (.BoolOp .And [a] pos) f := pw_and1 ha
theorem dw_or1 (ha : DT z X a f) : DW z X (.BoolOp .Or [a] pos) f := pw_or1 ha
theorem dw_and (ha : DT z X a f) (hb : DW z X (.BoolOp .And (b :: rest) pos) g) : DW z X (.BoolOp .And (a :: b :: rest) pos) (fAndT f g) := by
  refine dw_imp (pw_and ha hb) fun B env σ H Q I hp => ⟨B, env, I, (R.post_bind hp).imp (fun p hp H1 I1 m1 => ?_) fun _ _ q => q⟩
  obtain ⟨c, e⟩ := p
  cases c with
  | true => exact ⟨B, e, I1, R.post.imp hp (fun q hq H2 I2 m2 => hq H2 I2 (m1.trans m2)) fun _ _ q => q.step m1⟩
  | false => exact hp H1 I1 m1
theorem dw_or (ha : DT z X a f) (hb : DW z X (.BoolOp .Or (b :: rest) pos) g) : DW z X (.BoolOp .Or (a :: b :: rest) pos) (fOrT f g) := by
  refine dw_imp (pw_or ha hb) fun B env σ H Q I hp => ⟨B, env, I, (R.post_bind hp).imp (fun p hp H1 I1 m1 => ?_) fun _ _ q => q⟩
  obtain ⟨c, e⟩ := p
  cases c with
  | true => exact hp H1 I1 m1
  | false => exact ⟨B, e, I1, R.post.imp hp (fun q hq H2 I2 m2 => hq H2 I2 (m1.trans m2)) fun _ _ q => q.step m1⟩
end
def fAndV (f g : EF) : EF := fun env => (f env).bind fun p => match p.1 with
  | .bool true => g p.2
  | .bool false => .ok (.bool false, p.2)
  | _ => .stuck
def fOrV (f g : EF) : EF := fun env => (f env).bind fun p => match p.1 with
  | .bool false => g p.2
  | .bool true => .ok (.bool true, p.2)
  | _ => .stuck
def notD : D → Option D
  | .bool b => some (.bool (!b))
  | _ => none
theorem EP1.step {fr : Bool} {B : Bs} {σ : Sg} {H H1 : Hp} {env env1 : En} {Q : VK} {p : D × En} (m : Mv (B.O σ env) (B.O σ env1) H H1) (h : EP1 K z fr B σ H env Q p) : EP1 K z fr B σ H1 env1 Q p :=
  fun v H' I m' a fr' => h v H' I (m.trans m') a fun z ds e => let ⟨b, xs, e1, na, r⟩ := fr' z ds e; ⟨b, xs, e1, m.dom b na, r⟩
section
variable {a b : Expr} {rest : List Expr} {pos : Pos} {f g : EF} {fa fb : Bool}
theorem de_one {op} (h : DE z X fa a f) : DE z X fa (.BoolOp op [a] pos) f := pe_one h
theorem de_and (ha : DE z X fa a f) (hb : DE z X fb (.BoolOp .And (b :: rest) pos) g) : DE z X fb (.BoolOp .And (a :: b :: rest) pos) (fAndV f g) := by
  refine de_imp (pe_and ha hb) fun B env σ H Q I hp => ⟨B, env, I, (R.post_bind hp).imp (fun p hp v H1 I1 m1 a1 _ => ?_) fun _ _ q => q⟩
  obtain ⟨d, e⟩ := p
  cases d with
  | bool c =>
    cases a1
    refine ⟨c, rfl, ?_⟩
    cases c with
    | true => exact ⟨B, e, I1, R.post.imp hp (fun q hq => hq.step m1) fun _ _ q => q.step m1⟩
    | false => exact hp (.bl false) H1 I1 m1 (.bl false) fun _ => .flat fun _ q => nomatch q
  | _ => exact hp.elim
theorem de_or (ha : DE z X fa a f) (hb : DE z X fb (.BoolOp .Or (b :: rest) pos) g) : DE z X fb (.BoolOp .Or (a :: b :: rest) pos) (fOrV f g) := by
  refine de_imp (pe_or ha hb) fun B env σ H Q I hp => ⟨B, env, I, (R.post_bind hp).imp (fun p hp v H1 I1 m1 a1 _ => ?_) fun _ _ q => q⟩
  obtain ⟨d, e⟩ := p
  cases d with
  | bool c =>
    cases a1
    refine ⟨c, rfl, ?_⟩
    cases c with
    | true => exact hp (.bl true) H1 I1 m1 (.bl true) fun _ => .flat fun _ q => nomatch q
    | false => exact ⟨B, e, I1, R.post.imp hp (fun q hq => hq.step m1) fun _ _ q => q.step m1⟩
  | _ => exact hp.elim
theorem de_not (ha : DE z X fa a f) : DE z X true (.UnaryOp .Not a pos) (fUn notD f) := by
  refine de_imp (pe_not ha) fun B env σ H Q I hp => ⟨B, env, I, (R.post_bind hp).imp (fun p hp v H1 I1 m1 a1 _ => ?_) fun _ _ q => q⟩
  obtain ⟨d, e⟩ := p
  obtain ⟨w, ew, hw⟩ := ofO_post (R.post_bind hp)
  cases d with
  | bool c =>
    cases a1
    cases ew
    exact ⟨c, rfl, EP1.give hw I1 m1 (.flat (.bl _) fun _ q => nomatch q)⟩
  | _ => cases ew
def fIf (t : En → R En (Bool × En)) (f g : EF) : EF := fun env => (t env).bind fun p => if p.1 = true then f p.2 else g p.2
theorem de_if {c : Expr} {t : En → R En (Bool × En)} (hc : DT z X c t) (ha : DE z X fa a f) (hb : DE z X fb b g) : DE z X (fa && fb) (.IfExp c a b pos) (fIf t f g) := by
  refine de_imp (pe_ifExp hc ha hb) fun B env σ H Q I hp => ⟨B, env, I, (R.post_bind hp).imp (fun p hp H1 I1 m1 => ?_) fun _ _ q => q⟩
  obtain ⟨k, e⟩ := p
  cases k with
  | true => exact ⟨B, e, I1, R.post.imp hp (fun q hq v H' I' m' a' f' => hq v H' I' (m1.trans m') a' fun w => let w' : fa = true := by (revert w; cases fa <;> simp)
      fun ds e => let ⟨b, xs, e1, na, r⟩ := f' w' ds e; ⟨b, xs, e1, m1.dom b na, r⟩) fun _ _ q => q.step m1⟩
  | false => exact ⟨B, e, I1, R.post.imp hp (fun q hq v H' I' m' a' f' => hq v H' I' (m1.trans m') a' fun w => let w' : fb = true := by (revert w; cases fa <;> simp)
      fun ds e => let ⟨b, xs, e1, na, r⟩ := f' w' ds e; ⟨b, xs, e1, m1.dom b na, r⟩) fun _ _ q => q.step m1⟩
end
def fChain (h h' : D → D → Option D) (f g k : EF) : EF := fun env => (f env).bind fun p => (g p.2).bind fun q => (ofO (h p.1 q.1)).bind fun r => match r with
  | .bool true => (k q.2).bind fun s => (ofO (h' q.1 s.1)).bind fun w => .ok (w, s.2)
  | .bool false => .ok (.bool false, q.2)
  | _ => .stuck
theorem de_chain {op op' : CmpOp} {fa fb fc : Bool} {f g k : EF} {h h' : D → D → Option D} {a b c : Expr} {pos : Pos} (ho : OpD X (compareOp op) true h) (ho' : OpD X (compareOp op') true h') (ha : DE z X fa a f) (hb : DE z X fb b g) (hc : DE z X fc c k)
    (hm : lastMarks [op, op'] [b, c] = false := by with_unfolding_all rfl) : DE z X true (.Compare a [op, op'] [b, c] pos) (fChain h h' f g k) := by
  obtain ⟨r, hr, sem⟩ := ho
  obtain ⟨r', hr', sem'⟩ := ho'
  refine de_imp (pe_chain hr hr' ha hb hc hm) fun B env σ H Q I hp => ?_
  refine ⟨B, env, I, (R.post_bind hp).imp (fun p hp v H1 I1 m1 a1 _ => ?_) fun _ _ q => q⟩
  refine ⟨B, p.2, I1, (R.post_bind hp).imp (fun q hq u H2 I2 m2 a2 _ => ?_) fun x e hx => hx.step m1⟩
  obtain ⟨w, ew, hw⟩ := ofO_post (R.post_bind hq)
  refine sem _ H2 v u p.1 q.1 w _ I2.od (At.mv m2 a1) a2 ew fun v' H3 rr => ?_
  have I3 := I2.ex rr.1
  have m3 : Mv (B.O σ env) (B.O σ q.2) H H3 := (m1.trans m2).trans (Mv.ex rr.1)
  cases w with
  | bool t =>
    have av := rr.2.1
    cases av
    refine ⟨t, rfl, ?_⟩
    cases t with
    | false => exact hw (.bl false) H3 I3 m3 (.bl false) fun _ => .flat fun _ q => nomatch q
    | true =>
      refine ⟨B, q.2, I3, (R.post_bind hw).imp (fun s hs u' H4 I4 m4 a4 _ => ?_) fun x e hx => hx.step m3⟩
      obtain ⟨w', ew', hw'⟩ := ofO_post (R.post_bind hs)
      exact sem' _ H4 u u' q.1 s.1 w' Q I4.od (At.mv m4 (At.mv (Mv.ex rr.1) a2)) a4 ew' fun v' H' rr' => EP1.give hw' I4 (m3.trans m4) rr'
  | _ => exact hw.elim
theorem da_nil : DA z X [] (fun env => .ok ([], env)) := da_imp pa_nil fun B env σ H Q I hp => hp [] H I .refl .nil
def fCons (f : EF) (g : En → R En (List D × En)) : En → R En (List D × En) := fun env => (f env).bind fun p => (g p.2).bind fun q => .ok (p.1 :: q.1, q.2)
theorem da_cons {fr : Bool} {f : EF} {g : En → R En (List D × En)} (ha : DE z X fr e f) (hr : DA z X es g) (hs : starEach (e :: es) X.env = (false, eval e X.env) :: starEach es X.env := by rfl) : DA z X (e :: es) (fCons f g) :=
  da_imp (pa_cons ha hr hs) fun B env σ H Q I hp => ⟨B, env, I, (R.post_bind hp).imp (fun p hp v H1 I1 m1 a1 _ =>
    ⟨B, p.2, I1, (R.post_bind hp).imp (fun q hq vs H2 I2 m2 a2 => hq (v :: vs) H2 I2 (m1.trans m2) (.cons (At.mv m2 a1) a2)) fun _ _ q => q.step m1⟩) fun _ _ q => q⟩
def fTup (g : En → R En (List D × En)) : EF := fun env => (g env).bind fun p => if p.1.length ≤ sizeLine then .ok (.tuple p.1, p.2) else .stuck
def fLst (g : En → R En (List D × En)) : EF := fun env => (g env).bind fun p => if p.1.length ≤ sizeLine then .ok (.list p.1, p.2) else .stuck
theorem de_tup {x1 : _} {pos : Pos} {g : En → R En (List D × En)} (h : DA z X es g) : DE z X true (.Tuple es x1 pos) (fTup g) :=
  de_imp (pe_tup h) fun B env σ H Q I hp => ⟨B, env, I, (R.post_bind hp).imp (fun p hp vs H1 I1 m1 a1 => by
    by_cases hl : p.1.length ≤ sizeLine
    · simp only [if_pos hl] at hp
      exact ⟨a1.length ▸ hl, fun q hq => EP1.give hp I1 m1 (Res.tup I1.od hq a1)⟩
    · simp only [if_neg hl] at hp
      exact hp.elim) fun _ _ q => q⟩
theorem de_lst {pos : Pos} {g : En → R En (List D × En)} (h : DA z X es g) : DE z X true (.List es pos) (fLst g) :=
  de_imp (pe_lst h) fun B env σ H Q I hp => ⟨B, env, I, (R.post_bind hp).imp (fun p hp vs H1 I1 m1 a1 => by
    by_cases hl : p.1.length ≤ sizeLine
    · simp only [if_pos hl] at hp
      exact ⟨a1.length ▸ hl, fun q hq => EP1.give hp I1 m1 (Res.lst I1.od hq a1)⟩
    · simp only [if_neg hl] at hp
      exact hp.elim) fun _ _ q => q⟩
def CallD (X : Cx) (f : Value) (fr : Bool) (h : List D → Option D) : Prop :=
  ∃ r : List V → Hp → VK → Prop, CallR X f r ∧ ∀ (O : Addr → Prop) (H : Hp) (vs : List V) (ds : List D) (w : D) (Q : VK), Od O H → AtAll X.K O H vs ds → h ds = some w → (∀ v H', Res X.K fr O H H' v w → Q v H') → r vs H Q
def fCall (h : List D → Option D) (g : En → R En (List D × En)) : EF := fun env => (g env).bind fun p => (ofO (h p.1)).bind fun r => .ok (r, p.2)
theorem de_callB {x : Str} {p pos : Pos} {id : String} {fr : Bool} {h : List D → Option D} {g : En → R En (List D × En)} (hc : CallD X (.builtin id) fr h) (hg : Gl X x) (hm : X.mg x = none) (hv : bootBuiltins x = some (.builtin id)) (ha : DA z X (e :: es) g)
    (hn : x ≠ "__name__" := by decide) (hdb : (x == ("__debug__" : Str)) = false := by decide) (he : starEach (e :: es) X.env = (false, eval e X.env) :: starEach es X.env := by rfl) (hpl : (backTo pos (starEach es X.env)).any (·.1) = false := by rfl) :
    DE z X fr (.Call (.Name x p) (e :: es) [] pos) (fCall h g) := by
  obtain ⟨r, hr, sem⟩ := hc
  refine de_imp (pe_callB hr hg hm hv ha hn hdb he hpl) fun B env σ H Q I hp => ⟨B, env, I, (R.post_bind hp).imp (fun p hp vs H1 I1 m1 a1 => ?_) fun _ _ q => q⟩
  obtain ⟨w, ew, hw⟩ := ofO_post (R.post_bind hp)
  exact sem _ H1 vs p.1 w Q I1.od a1 ew fun v H' rr => EP1.give hw I1 m1 rr
theorem de_callTy {x : Str} {p pos : Pos} {T : String} {fr : Bool} {h : List D → Option D} {g : En → R En (List D × En)} (hc : CallD X (.type T) fr h) (hg : Gl X x) (hm : X.mg x = none) (hv : bootBuiltins x = some (.type T)) (ha : DA z X (e :: es) g)
    (hn : x ≠ "__name__" := by decide) (hdb : (x == ("__debug__" : Str)) = false := by decide) (he : starEach (e :: es) X.env = (false, eval e X.env) :: starEach es X.env := by rfl) (hpl : (backTo pos (starEach es X.env)).any (·.1) = false := by rfl) :
    DE z X fr (.Call (.Name x p) (e :: es) [] pos) (fCall h g) := by
  obtain ⟨r, hr, sem⟩ := hc
  refine de_imp (pe_callTy hr hg hm hv ha hn hdb he hpl) fun B env σ H Q I hp => ⟨B, env, I, (R.post_bind hp).imp (fun p hp vs H1 I1 m1 a1 => ?_) fun _ _ q => q⟩
  obtain ⟨w, ew, hw⟩ := ofO_post (R.post_bind hp)
  exact sem _ H1 vs p.1 w Q I1.od a1 ew fun v H' rr => EP1.give hw I1 m1 rr
end
end DL
namespace DL
open PySem PySem.Spec PyProof.Rows L2
variable {K : PySem.W.Frag}
section
variable {X : Cx} {O : Addr → Prop} {H : Hp} {v : V}
theorem At.list_inv {ds : List D} (h : At K O H v (.list ds)) : ∃ a xs, v = .ref a ∧ LL K O H a xs ∧ AtAll K O H xs ds := by cases h with | lst l r => exact ⟨_, _, rfl, l, r⟩
theorem At.tuple_inv {ds : List D} (h : At K O H v (.tuple ds)) : ∃ a xs, v = .ref a ∧ LT K O H a xs ∧ AtAll K O H xs ds := by cases h with | tup l r => exact ⟨_, _, rfl, l, r⟩
def addD : D → D → Option D
  | .int i, .int j => some (.int (i + j))
  | .str x, .str y => if x.length + y.length ≤ sizeLine then some (.str (x ++ y)) else none
  | .list xs, .list ys => if xs.length + ys.length ≤ sizeLine then some (.list (xs ++ ys)) else none
  | .tuple xs, .tuple ys => if xs.length + ys.length ≤ sizeLine then some (.tuple (xs ++ ys)) else none
  | _, _ => none
def rCatL (K : PySem.W.Frag) : R2 := fun x y H Q => ∃ l b xs zs, x = .ref l ∧ y = .ref b ∧ SqL K H l xs ∧ SqL K H b zs ∧ xs.length + zs.length ≤ sizeLine ∧ ∀ p, H p = none → Q (.ref p) (upd H p (.lst (xs ++ zs)))
theorem op_catL : OpR X (binaryOp .Add) (rCatL X.K) := by
  intro pins s σ H x y v u Q I rx ry h
  obtain ⟨l, b, xs, zs, rfl, rfl, hH, hB, hz, q⟩ := h
  cases rx
  cases ry
  obtain ⟨its, r, ⟨⟨cls, dd, data, sl⟩, n, ho, hc, hdd, hd⟩, z⟩ := I.list hH
  obtain ⟨its2, r2, ⟨⟨cls2, dd2, data2, sl2⟩, n2, ho2, hc2, hdd2, hd2⟩, z2⟩ := I.list hB
  simp only at hc hdd hd hc2 hdd2 hd2
  subst hc hdd hd hc2 hdd2 hd2
  have e : its.toArray ++ its2.toArray = (its ++ its2).toArray := by simp
  refine concat_meets ⟨_, ho, rfl⟩ ⟨_, ho2, rfl⟩ noFill_list_add seq_list_add PySem.F.slot_list_add PySem.F.entry_list_add (PySem.F.args_list_add_2 _ _) (PyProof.Rows.list_addW l b its.toArray its2.toArray n n2 none none sl sl2 (by simpa [← r.length, ← r2.length] using hz)) ⟨ho, ho2, ?_⟩
  rw [e]
  exact ⟨.ref _, _, I.lnew (t' := s.toks) (r.append r2) (by rw [List.length_append]; omega), rfl, q _ I.fresh⟩
theorem od_add : OpD X (binaryOp .Add) true addD := by
  refine ⟨_, op_add.or (op_add_str.or (op_catL.or op_catA)), fun O H x y d e w Q od hx hy hw q => ?_⟩
  cases hx with
  | int i =>
    cases hy with
    | int j => cases hw; exact .inl ⟨i, j, rfl, rfl, q _ _ (.flat (.int _) fun _ z => nomatch z)⟩
    | _ => cases hw
  | str a =>
    cases hy with
    | str b =>
      simp only [addD] at hw
      split at hw
      · rename_i hl
        cases hw
        exact .inr (.inl ⟨a, b, rfl, rfl, hl, q _ _ (.flat (.str _) fun _ z => nomatch z)⟩)
      · cases hw
    | _ => cases hw
  | lst l r =>
    cases hy with
    | lst l' r' =>
      simp only [addD] at hw
      split at hw
      · rename_i hl
        cases hw
        exact .inr (.inr (.inl ⟨_, _, _, _, rfl, rfl, l.1, l'.1, by rw [r.length, r'.length]; exact hl, fun p hp => q _ _ (.lst od hp (r.append r'))⟩))
      · cases hw
    | _ => cases hw
  | tup l r =>
    cases hy with
    | tup l' r' =>
      simp only [addD] at hw
      split at hw
      · rename_i hl
        cases hw
        refine .inr (.inr (.inr ⟨_, _, _, _, rfl, rfl, l.1, l'.1, by rw [r.length, r'.length]; exact hl, fun e => ?_, fun _ e => ?_, fun _ _ p hp => q _ _ (.tup od hp (r.append r'))⟩))
        · subst e
          cases r
          exact q _ _ (.flat (.tup l' r') fun _ z => nomatch z)
        · subst e
          cases r'
          rw [List.append_nil] at q
          exact q _ _ (.flat (.tup l r) fun _ z => nomatch z)
      · cases hw
    | _ => cases hw
  | _ => cases hw
def subD : D → D → Option D
  | .int i, .int j => some (.int (i - j))
  | _, _ => none
theorem od_sub : OpD X (binaryOp .Sub) true subD := by
  refine ⟨_, op_sub, fun O H x y d e w Q od hx hy hw q => ?_⟩
  cases hx with
  | int i =>
    cases hy with
    | int j => cases hw; exact ⟨i, j, rfl, rfl, q _ _ (.flat (.int _) fun _ z => nomatch z)⟩
    | _ => cases hw
  | _ => cases hw
instance (i j : Int) : Decidable (CMul i j) := by unfold CMul; infer_instance
instance (i j : Int) : Decidable (CDivN i j) := by unfold CDivN; infer_instance
instance (i j : Int) : Decidable (CPow i j) := by unfold CPow; infer_instance
def CMulV (i j : Int) : Prop := CMul i j ∨ CMulW i j
instance (i j : Int) : Decidable (CMulW i j) := by unfold CMulW; infer_instance
instance (i j : Int) : Decidable (CMulV i j) := by unfold CMulV; infer_instance
theorem op_mulV : OpR X (binaryOp .Mult) (rI CMulV fun i j => .int (i * j)) := opI fun _ _ _ _ _ _ _ hc q => mul_int q (hc.elim CMul.ok CMulW.ok)
/-- a list * an int, the list as it lies -/
theorem int_rmul_listW (a : Int) (t : Tok) (l : Addr) (items : Array Value) (n : Nat) (sl : Array (Option Value)) :
    Meets (Builtin.«int.__rmul__» ⟨[.int a t, .ref l], []⟩) (fun _ R s => s.heap.get? l = some { cls := .type "list", dict := none, data := .seq items n, slots := sl } ∧ R (.ok (.ret Value.notImplemented)) s) :=
  .of_wp fun prog w A R s h => by obtain ⟨hp, g, d, tk, os⟩ := s; obtain ⟨hl, h⟩ := h; wp_walk; exact ⟨_, rfl, h⟩
theorem list_mulW (l : Addr) (items : Array Value) (n : Nat) (sl : Array (Option Value)) (x : Int) (u : Tok) (hc0 : ¬(!Builtin.List.listFitsIndex x) = true) (hc1 : ¬items.size * x.toNat > (2 ^ 63 - 1) / 8) (hc2 : ¬Builtin.List.listTooLong (items.size * x.toNat) = true) :
    Meets (Builtin.«list.__mul__» ⟨[.ref l, .int x u], []⟩) (fun _ R s => s.heap.get? l = some { cls := .type "list", dict := none, data := .seq items n, slots := sl } ∧ R (.ok (.ret (Value.ref s.heap.objs.size))) { s with heap := s.heap.push { cls := Value.type "list", data := Data.seq (List.foldl (fun x1 x2 => x1 ++ x2) #[] (List.replicate (if items.isEmpty = true then 0 else x.toNat) items)) }, toks := s.toks }) :=
  .of_wp fun prog w A R s h => by
    obtain ⟨hp, g, d, tk, os⟩ := s; obtain ⟨hl, h⟩ := h
    have hsz := AutoListH.joined_fits hc2
    wp_walk; refine wpAny_ite_false (decide_eq_false (Nat.not_lt.mpr hsz)) ?_; wp_walk; exact ⟨_, rfl, h⟩
def rRepL (K : PySem.W.Frag) : R2 := fun x y H Q => ∃ l k xs, x = .ref l ∧ y = .int k ∧ SqL K H l xs ∧ -(2 ^ 63) ≤ k ∧ k < 2 ^ 63 ∧ xs.length * k.toNat ≤ sizeLine ∧
  ∀ p, H p = none → Q (.ref p) (upd H p (.lst (List.replicate k.toNat xs).flatten))
theorem op_repL : OpR X (binaryOp .Mult) (rRepL X.K) := by
  intro pins s σ H x y v u Q I rx ry h
  obtain ⟨l, k, xs, rfl, rfl, hH, h1, h2, hz, q⟩ := h
  cases rx
  obtain ⟨t, rfl⟩ := ry
  obtain ⟨its, r, ⟨⟨cls, dd, data, sl⟩, n, e, hc, hdd, hd⟩, z⟩ := I.list hH
  simp only at hc hdd hd
  subst hc hdd hd
  have hl := r.length
  have hlen : its.toArray.size * k.toNat ≤ sizeLine := by rw [List.size_toArray, ← hl]; exact hz
  have hcap : ¬ its.toArray.size * k.toNat > (2 ^ 63 - 1) / 8 := by
    have : (sizeLine : Nat) ≤ (2 ^ 63 - 1) / 8 := by decide
    omega
  have hfit : ¬ (!Builtin.List.listFitsIndex k) = true := by
    rw [fitsIndex_both h1 h2]
    exact Bool.false_ne_true
  have hlong : ¬ Builtin.List.listTooLong (its.toArray.size * k.toNat) = true := by
    rw [notLongL hlen]
    exact Bool.false_ne_true
  have hnew : List.foldl (fun x1 x2 => x1 ++ x2) #[] (List.replicate (if its.toArray.isEmpty = true then 0 else k.toNat) its.toArray) = (List.replicate k.toNat its).flatten.toArray := by
    have f0 : ∀ m : Nat, List.foldl (fun x1 x2 => x1 ++ x2) #[] (List.replicate m its.toArray) = (List.replicate m its).flatten.toArray := fun m => by
      have := foldl_rep its m []
      rw [List.nil_append] at this
      exact this
    rw [f0]
    cases its with
    | nil => simp
    | cons a r' => rw [if_neg (by simp)]
  refine wpAny_binaryOp_repeat_ref (T := "list") (U := "int") (by decide) ⟨_, e, rfl⟩ (fun s' => typeIs_int s' k t) noFill_list_mul F.fills_int_mul F.slot_int_rmul repeat_list F.slot_int_index.lookup
    (call_meets F.slot_int_rmul (typeIs_int s k t) F.entry_int_rmul (F.args_int_rmul_2 _ _) (int_rmul_listW k t l its.toArray n sl)
      ⟨e, rfl, ⟨_, e, rfl⟩, call_meets F.slot_list_mul ⟨_, e, rfl⟩ F.entry_list_mul (F.args_list_mul_2 _ _) (list_mulW l its.toArray n sl k t hfit hcap hlong) ⟨e, ?_⟩⟩)
  rw [hnew]
  exact ⟨.ref _, _, I.lnew (t' := s.toks) (r.rep k.toNat) (by rw [PyProof.Rows.lm_len_rep_flat, Nat.mul_comm]; exact hz), rfl, q _ I.fresh⟩
theorem AtAll.repN {K : PySem.W.Frag} {O : Addr → Prop} {H : Hp} {vs : List V} {ds : List D} (h : AtAll K O H vs ds) : ∀ k : Nat, AtAll K O H (List.replicate k vs).flatten (List.replicate k ds).flatten
  | 0 => .nil
  | k + 1 => by
    rw [List.replicate_succ, List.replicate_succ, List.flatten_cons, List.flatten_cons]
    exact h.append (AtAll.repN h k)
def mulD : D → D → Option D
  | .int i, .int j => if CMulV i j then some (.int (i * j)) else none
  | .list ds, .int k => if -(2 ^ 63) ≤ k ∧ k < 2 ^ 63 ∧ ds.length * k.toNat ≤ sizeLine then some (.list (List.replicate k.toNat ds).flatten) else none
  | _, _ => none
theorem od_mul : OpD X (binaryOp .Mult) true mulD := by
  refine ⟨_, op_mulV.or op_repL, fun O H x y d e w Q od hx hy hw q => ?_⟩
  cases hx with
  | int i =>
    cases hy with
    | int j =>
      simp only [mulD] at hw
      split at hw
      · rename_i hc
        cases hw
        exact .inl ⟨i, j, rfl, rfl, hc, q _ _ (.flat (.int _) fun _ z => nomatch z)⟩
      · cases hw
    | _ => cases hw
  | lst l r =>
    cases hy with
    | int k =>
      simp only [mulD] at hw
      split at hw
      · rename_i hc
        cases hw
        exact .inr ⟨_, k, _, rfl, rfl, l.1, hc.1, hc.2.1, by rw [r.length]; exact hc.2.2, fun p hp => q _ _ (.lst od hp (r.repN _))⟩
      · cases hw
    | _ => cases hw
  | _ => cases hw
def modD : D → D → Option D
  | .int i, .int j => if j ≠ 0 then some (.int (i.fmod j)) else none
  | _, _ => none
theorem od_mod : OpD X (binaryOp .Mod) true modD := by
  refine ⟨_, op_modN, fun O H x y d e w Q od hx hy hw q => ?_⟩
  cases hx with
  | int i =>
    cases hy with
    | int j =>
      simp only [modD] at hw
      split at hw
      · rename_i hc
        cases hw
        exact ⟨i, j, rfl, rfl, hc, q _ _ (.flat (.int _) fun _ z => nomatch z)⟩
      · cases hw
    | _ => cases hw
  | _ => cases hw
def fdivD : D → D → Option D
  | .int i, .int j => if CDivN i j then some (.int (i.fdiv j)) else none
  | _, _ => none
theorem od_fdiv : OpD X (binaryOp .FloorDiv) true fdivD := by
  refine ⟨_, op_fdivN, fun O H x y d e w Q od hx hy hw q => ?_⟩
  cases hx with
  | int i =>
    cases hy with
    | int j =>
      simp only [fdivD] at hw
      split at hw
      · rename_i hc
        cases hw
        exact ⟨i, j, rfl, rfl, hc, q _ _ (.flat (.int _) fun _ z => nomatch z)⟩
      · cases hw
    | _ => cases hw
  | _ => cases hw
def powD : D → D → Option D
  | .int i, .int j => if CPow i j then some (.int (i ^ j.toNat)) else none
  | _, _ => none
theorem od_pow : OpD X (binaryOp .Pow) true powD := by
  refine ⟨_, op_pow, fun O H x y d e w Q od hx hy hw q => ?_⟩
  cases hx with
  | int i =>
    cases hy with
    | int j =>
      simp only [powD] at hw
      split at hw
      · rename_i hc
        cases hw
        exact ⟨i, j, rfl, rfl, hc, q _ _ (.flat (.int _) fun _ z => nomatch z)⟩
      · cases hw
    | _ => cases hw
  | _ => cases hw
def negD : D → Option D
  | .int i => some (.int (-i))
  | _ => none
theorem ud_neg : UnD X (unaryOp .USub) true negD := by
  refine ⟨_, un_neg, fun O H x d w Q od hx hw q => ?_⟩
  cases hx with
  | int i => cases hw; exact ⟨i, rfl, q _ _ (.flat (.int _) fun _ z => nomatch z)⟩
  | _ => cases hw
def cmpD (p : Int → Int → Bool) : D → D → Option D
  | .int i, .int j => some (.bool (p i j))
  | _, _ => none
theorem od_cmp {f : Value → Value → Sem Value} {p : Int → Int → Bool} (h : OpR X f (rI0 fun i j => .bl (p i j))) : OpD X f true (cmpD p) := by
  refine ⟨_, h, fun O H x y d e w Q od hx hy hw q => ?_⟩
  cases hx with
  | int i =>
    cases hy with
    | int j => cases hw; exact ⟨i, j, rfl, rfl, q _ _ (.flat (.bl _) fun _ z => nomatch z)⟩
    | _ => cases hw
  | _ => cases hw
def ltD := cmpD fun i j => decide (i < j)
def leD := cmpD fun i j => decide (i ≤ j)
def gtD := cmpD fun i j => decide (j < i)
def geD := cmpD fun i j => decide (j ≤ i)
theorem od_lt : OpD X (compareOp .Lt) true ltD := od_cmp op_lt
theorem od_le : OpD X (compareOp .LtE) true leD := od_cmp op_le
theorem od_ge : OpD X (compareOp .GtE) true geD := od_cmp op_ge
def eqD (d e : D) : Option D := if (SeqAt.shaped d && SeqAt.shaped e) = true then some (.bool (PyData.eqv d e)) else none
def neD (d e : D) : Option D := if (SeqAt.shaped d && SeqAt.shaped e) = true then some (.bool (!PyData.eqv d e)) else none
theorem od_eq (hu : X.A.units + 64 < cLine) : OpD X (compareOp .Eq) true eqD := by
  refine ⟨_, op_eqD hu, fun O H x y d e w Q od hx hy hw q => ?_⟩
  unfold eqD at hw
  split at hw
  · rename_i hs
    cases hw
    rw [Bool.and_eq_true] at hs
    exact ⟨d, e, hx.dp (SeqAt.canLay_of_shaped hs.1), hy.dp (SeqAt.canLay_of_shaped hs.2), hs.1, hs.2, q _ _ (.flat (.bl _) fun _ z => nomatch z)⟩
  · cases hw
theorem od_ne (hu : X.A.units + 64 < cLine) : OpD X (compareOp .NotEq) true neD := by
  refine ⟨_, op_neD hu, fun O H x y d e w Q od hx hy hw q => ?_⟩
  unfold neD at hw
  split at hw
  · rename_i hs
    cases hw
    rw [Bool.and_eq_true] at hs
    exact ⟨d, e, hx.dp (SeqAt.canLay_of_shaped hs.1), hy.dp (SeqAt.canLay_of_shaped hs.2), hs.1, hs.2, q _ _ (.flat (.bl _) fun _ z => nomatch z)⟩
  · cases hw
/-- is, is not, of None and of bools -/
def isD (d e : D) : Option D := match d, e with
  | .none, .none => some (.bool true)
  | _, .none => some (.bool false)
  | .bool a, .bool b => some (.bool (decide (a = b)))
  | _, _ => none
def isntD (d e : D) : Option D := match d, e with
  | .none, .none => some (.bool false)
  | _, .none => some (.bool true)
  | .bool a, .bool b => some (.bool (!decide (a = b)))
  | _, _ => none
theorem od_is : OpD X (compareOp .Is) true isD := by
  refine ⟨_, op_isN.or op_isBl, fun O H x y d e w Q od hx hy hw q => ?_⟩
  cases hy with
  | non =>
    cases hx <;> cases hw <;> exact .inl ⟨rfl, q _ _ (.flat (.bl _) fun _ z => nomatch z)⟩
  | bl b =>
    cases hx with
    | bl a => cases hw; exact .inr ⟨a, b, rfl, rfl, q _ _ (.flat (.bl _) fun _ z => nomatch z)⟩
    | _ => cases hw
  | _ => cases hx <;> cases hw
theorem od_isnt : OpD X (compareOp .IsNot) true isntD := by
  refine ⟨_, op_notN.or op_notBl, fun O H x y d e w Q od hx hy hw q => ?_⟩
  cases hy with
  | non =>
    cases hx <;> cases hw <;> exact .inl ⟨rfl, q _ _ (.flat (.bl _) fun _ z => nomatch z)⟩
  | bl b =>
    cases hx with
    | bl a => cases hw; exact .inr ⟨a, b, rfl, rfl, q _ _ (.flat (.bl _) fun _ z => nomatch z)⟩
    | _ => cases hw
  | _ => cases hx <;> cases hw
def notinD (d e : D) : Option D := match e with
  | .list ds => if (SeqAt.shaped d && SeqAt.shaped (.list ds)) = true then some (.bool (!ds.any fun z => PyData.eqv z d)) else none
  | .str y => match d with
    | .str x => some (.bool (!(!(Builtin.Str.occurrences y x 0 y.length 1).isEmpty)))
    | _ => none
  | _ => none
theorem od_notin (hu : X.A.units + 65 < cLine) : OpD X (compareOp .NotIn) true notinD := by
  refine ⟨_, (op_notInD hu).or op_notin_str, fun O H x y d e w Q od hx hy hw q => ?_⟩
  cases hy with
  | lst l r =>
    simp only [notinD] at hw
    split at hw
    · rename_i hs
      cases hw
      rw [Bool.and_eq_true] at hs
      exact .inl ⟨d, _, hx.dp (SeqAt.canLay_of_shaped hs.1), (At.lst l r).dp (SeqAt.canLay_of_shaped hs.2), hs.1, hs.2, q _ _ (.flat (.bl _) fun _ z => nomatch z)⟩
    · cases hw
  | str z =>
    cases hx with
    | str a => cases hw; exact .inr ⟨a, z, rfl, rfl, q _ _ (.flat (.bl _) fun _ z => nomatch z)⟩
    | _ => cases hw
  | _ => cases hw
theorem atI_at {vs : List V} {ds : List D} {i : Int} {d : D} (r : AtAll K O H vs ds) (h : atI ds i = some d) : ∃ v, atI vs i = some v ∧ At K O H v d := by
  unfold atI at h ⊢
  rw [r.length]
  cases e : ixN ds.length i with
  | none => rw [e] at h; cases h
  | some j =>
    rw [e] at h
    exact r.get h
def ixD (d e : D) : Option D := match d, e with
  | .list ds, .int i => atI ds i
  | .tuple ds, .int i => atI ds i
  | .str z, .int i => if z.length ≤ sizeLine then (atI z.cps.toList i).map fun c => .str ⟨#[c]⟩ else none
  | _, _ => none
theorem xd_ix : IxD X false ixD := by
  refine ⟨_, ix_seq, fun O H x y d e w Q od hx hy hw q => ?_⟩
  cases hy with
  | int i =>
    cases hx with
    | lst l r =>
      obtain ⟨v, h1, h2⟩ := atI_at r hw
      exact .inl ⟨_, _, i, v, rfl, rfl, l.1, h1, q _ _ (.sh h2)⟩
    | tup l r =>
      obtain ⟨v, h1, h2⟩ := atI_at r hw
      exact .inr (.inl ⟨_, _, i, v, rfl, rfl, l.1, h1, q _ _ (.sh h2)⟩)
    | str z =>
      simp only [ixD] at hw
      split at hw
      · rename_i hl
        rw [Option.map_eq_some_iff] at hw
        obtain ⟨c, e1, rfl⟩ := hw
        exact .inr (.inr ⟨z, i, c, rfl, rfl, hl, e1, q _ _ (.sh (.str _))⟩)
      · cases hw
    | _ => cases hw
  | _ => cases hx <;> cases hw
def cutD (xs : List D) (lo hi : Option Int) : List D := (xs.drop (HT.sIx xs.length 0 lo)).take (HT.sIx xs.length xs.length hi - HT.sIx xs.length 0 lo)
theorem AtAll.cut {vs : List V} {ds : List D} (r : AtAll K O H vs ds) (lo hi : Option Int) : AtAll K O H (cutV vs lo hi) (cutD ds lo hi) := by
  unfold cutV cutD
  rw [r.length]
  exact (r.drop _).take _
end
end DL
namespace DL
open PySem PySem.Spec PyProof.Rows L2
variable {K : PySem.W.Frag}
section
variable {X : Cx} {e : Expr} {es : List Expr} {z : Z}
def tO (K : PySem.W.Frag) (z : Z) (f : En → R En (Option Int × En)) : TO := fun σ H Q => ∃ (B : Bs) (env : En), SR K z.np B σ H env ∧
  (f env).post (fun p => ∀ H', SR K z.np B σ H' p.2 → Mv (B.O σ env) (B.O σ p.2) H H' → Q p.1 H') (XP K z B σ H env)
abbrev DO (z : Z) (X : Cx) (e : Option Expr) (f : En → R En (Option Int × En)) : Prop := PO X e (tO X.K z f)
theorem po_weak {eo : Option Expr} {t t' : TO} (h : PO X eo t) (i : ∀ σ H Q, t' σ H Q → t σ H Q) : PO X eo t' := ⟨fun pins s σ H Q I q => h.run pins s σ H Q I (i σ H Q q)⟩
def fPart (f : EF) : En → R En (Option Int × En) := fun env => (f env).bind fun p => match p.1 with
  | .int i => .ok (some i, p.2)
  | _ => .stuck
theorem do_none : DO z X none (fun env => .ok (none, env)) := po_weak po_none fun σ H Q ⟨B, env, I, p⟩ => p H I .refl
theorem do_some {fr : Bool} {f : EF} (h : DE z X fr e f) : DO z X (some e) (fPart f) := po_weak (po_some h) fun σ H Q ⟨B, env, I, hp⟩ => by
  refine ⟨B, env, I, (R.post_bind hp).imp (fun p hp v H1 I1 m1 a1 _ => ?_) fun _ _ q => q⟩
  obtain ⟨d, e'⟩ := p
  cases d with
  | int i => cases a1; exact ⟨i, rfl, hp H1 I1 m1⟩
  | _ => exact hp.elim
def SlD (X : Cx) (fr : Bool) (h : D → Option Int → Option Int → Option D) : Prop :=
  ∃ r : V → Option Int → Option Int → Hp → VK → Prop, SlR X r ∧ ∀ (O : Addr → Prop) (H : Hp) (x : V) (d w : D) (lo hi : Option Int) (Q : VK), Od O H → At X.K O H x d → h d lo hi = some w → (∀ v H', Res X.K fr O H H' v w → Q v H') → r x lo hi H Q
def fSl (h : D → Option Int → Option Int → Option D) (f : EF) (fl fh : En → R En (Option Int × En)) : EF := fun env => (f env).bind fun p => (fl p.2).bind fun l => (fh l.2).bind fun u => (ofO (h p.1 l.1 u.1)).bind fun r => .ok (r, u.2)
theorem de_slice {fa fr : Bool} {f : EF} {lo hi : Option Expr} {fl fh : En → R En (Option Int × En)} {h : D → Option Int → Option Int → Option D} {pos p2 : Pos} (ho : SlD X fr h) (ha : DE z X fa e f) (hl : DO z X lo fl) (hu : DO z X hi fh) :
    DE z X fr (.Subscript e (.Slice lo hi none p2) pos) (fSl h f fl fh) := by
  obtain ⟨r, hr, sem⟩ := ho
  refine de_imp (pe_slice hr ha hl hu) fun B env σ H Q I hp => ⟨B, env, I, (R.post_bind hp).imp (fun p hp v H1 I1 m1 a1 _ => ?_) fun _ _ q => q⟩
  refine ⟨B, p.2, I1, (R.post_bind hp).imp (fun l hl' H2 I2 m2 => ?_) fun _ _ q => q.step m1⟩
  refine ⟨B, l.2, I2, (R.post_bind hl').imp (fun u hu' H3 I3 m3 => ?_) fun _ _ q => q.step (m1.trans m2)⟩
  obtain ⟨w, ew, hw⟩ := ofO_post (R.post_bind hu')
  exact sem _ H3 v p.1 w l.1 u.1 Q I3.od (At.mv m3 (At.mv m2 a1)) ew fun v' H' rr => EP1.give hw I3 ((m1.trans m2).trans m3) rr
/-- xs[lo:hi] of a list, a tuple, a text -/
def slD (d : D) (lo hi : Option Int) : Option D := match d with
  | .list ds => some (.list (cutD ds lo hi))
  | .tuple ds => some (.tuple (cutD ds lo hi))
  | _ => none
theorem cut_whole {α : Type} (xs : List α) (lo hi : Option Int) (h : HT.sIx xs.length 0 lo = 0 ∧ HT.sIx xs.length xs.length hi = xs.length) : (xs.drop (HT.sIx xs.length 0 lo)).take (HT.sIx xs.length xs.length hi - HT.sIx xs.length 0 lo) = xs := by
  rw [h.1, h.2]; simp
theorem sd_sl : SlD X true slD := by
  refine ⟨_, sl_list.or sl_tupA, fun O H x d w lo hi Q od hx hw q => ?_⟩
  cases hx with
  | lst l r => cases hw; exact .inl ⟨_, _, rfl, l.1, fun p hp => q _ _ (.lst od hp (r.cut lo hi))⟩
  | tup l r =>
    cases hw
    refine .inr ⟨_, _, rfl, l.1, fun hw => ?_, fun _ p hp => q _ _ (.tup od hp (r.cut lo hi))⟩
    have e := cut_whole _ lo hi (by rw [← r.length]; exact hw)
    unfold cutD at q
    rw [e] at q
    exact q _ _ (.flat (.tup l r) fun _ z => nomatch z)
  | _ => cases hw
theorem AtAll.one {O : Addr → Prop} {H : Hp} {vs : List V} {d : D} (h : AtAll K O H vs [d]) : ∃ v, vs = [v] ∧ At K O H v d := by
  cases h with | cons a r => cases r; exact ⟨_, rfl, a⟩
theorem AtAll.two {O : Addr → Prop} {H : Hp} {vs : List V} {d e : D} (h : AtAll K O H vs [d, e]) : ∃ v u, vs = [v, u] ∧ At K O H v d ∧ At K O H u e := by
  cases h with | cons a r => cases r with | cons b r => cases r; exact ⟨_, _, rfl, a, b⟩
theorem CallR.or {f : Value} {r r' : List V → Hp → VK → Prop} (h : CallR X f r) (h' : CallR X f r') : CallR X f (fun xs H Q => r xs H Q ∨ r' xs H Q) := by
  intro pins s σ H xs us Q I rx q
  rcases q with q | q
  · exact h pins s σ H xs us Q I rx q
  · exact h' pins s σ H xs us Q I rx q
def lenD : List D → Option D
  | [.list ds] => some (.int ds.length)
  | [.tuple ds] => some (.int ds.length)
  | [.str x] => if x.length ≤ sizeLine then some (.int x.length) else none
  | _ => none
theorem cd_len : CallD X (.builtin "len") true lenD := by
  refine ⟨_, call_len_seq.or call_len_str, fun O H vs ds w Q od ha hw q => ?_⟩
  match ds, hw with
  | [.list xs], hw =>
    obtain ⟨v, rfl, a⟩ := ha.one
    obtain ⟨p, ys, rfl, l, r⟩ := a.list_inv
    cases hw
    exact .inl ⟨p, ys, rfl, .inl l.1, by rw [r.length]; exact q _ _ (.flat (.int _) fun _ z => nomatch z)⟩
  | [.tuple xs], hw =>
    obtain ⟨v, rfl, a⟩ := ha.one
    obtain ⟨p, ys, rfl, l, r⟩ := a.tuple_inv
    cases hw
    exact .inl ⟨p, ys, rfl, .inr l.1, by rw [r.length]; exact q _ _ (.flat (.int _) fun _ z => nomatch z)⟩
  | [.str x], hw =>
    obtain ⟨v, rfl, a⟩ := ha.one
    cases a
    simp only [lenD] at hw
    split at hw
    · rename_i hl
      cases hw
      exact .inr ⟨x, rfl, hl, q _ _ (.flat (.int _) fun _ z => nomatch z)⟩
    · cases hw
  | [], hw => cases hw
  | [.none], hw => cases hw
  | [.bool _], hw => cases hw
  | [.int _], hw => cases hw
  | [.dict _], hw => cases hw
  | _ :: _ :: _, hw => simp [lenD] at hw
def intD : List D → Option D
  | [.int i] => some (.int i)
  | [.bool b] => some (.int (if b then 1 else 0))
  | _ => none
theorem cd_int : CallD X (.type "int") true intD := by
  refine ⟨_, call_int1, fun O H vs ds w Q od ha hw q => ?_⟩
  match ds, hw with
  | [.int i], hw =>
    obtain ⟨v, rfl, a⟩ := ha.one
    cases a
    cases hw
    exact .inl ⟨i, rfl, q _ _ (.flat (.int _) fun _ z => nomatch z)⟩
  | [.bool b], hw =>
    obtain ⟨v, rfl, a⟩ := ha.one
    cases a
    cases hw
    exact .inr ⟨b, rfl, q _ _ (.flat (.int _) fun _ z => nomatch z)⟩
  | [], hw => cases hw
  | [.none], hw => cases hw
  | [.str _], hw => cases hw
  | [.list _], hw => cases hw
  | [.tuple _], hw => cases hw
  | [.dict _], hw => cases hw
  | _ :: _ :: _, hw => simp [intD] at hw
/-- the ints of data -/
def intsD : List D → Option (List Int)
  | [] => some []
  | .int i :: r => (intsD r).map (i :: ·)
  | _ :: _ => none
theorem intsD_inv : ∀ {ds : List D} {ns : List Int}, intsD ds = some ns → ds = ns.map PyData.int
  | [], ns, h => by cases h; rfl
  | d :: r, ns, h => by
    cases d with
    | int i =>
      simp only [intsD, Option.map_eq_some_iff] at h
      obtain ⟨ms, h1, rfl⟩ := h
      rw [intsD_inv h1]
      rfl
    | _ => cases h
theorem intsD_at {O : Addr → Prop} {H : Hp} {vs : List V} {ds : List D} {ns : List Int} (r : AtAll K O H vs ds) (h : intsD ds = some ns) : vs = ns.map V.int := by
  rw [intsD_inv h] at r
  exact r.ints
/-- the greatest, the least -/
def maxI : List Int → Option Int
  | [] => none
  | i :: r => some (r.foldl (fun a b => max a b) i)
def minI : List Int → Option Int
  | [] => none
  | i :: r => some (r.foldl (fun a b => min a b) i)
theorem foldl_max : ∀ (r : List Int) (i : Int), (r.foldl (fun a b => max a b) i ∈ i :: r) ∧ ∀ y ∈ i :: r, y ≤ r.foldl (fun a b => max a b) i
  | [], i => ⟨by simp, fun y h => by simp at h; simp [h]⟩
  | j :: r, i => by
    obtain ⟨h1, h2⟩ := foldl_max r (max i j)
    simp only [List.foldl_cons]
    have h3 := h2 (max i j) (by simp)
    refine ⟨?_, fun y h => ?_⟩
    · rcases List.mem_cons.mp h1 with h | h
      · rw [h]
        have : max i j = i ∨ max i j = j := by omega
        rcases this with e | e <;> rw [e] <;> simp
      · simp [h]
    · rcases List.mem_cons.mp h with rfl | h
      · omega
      · rcases List.mem_cons.mp h with rfl | h
        · omega
        · exact h2 y (by simp [h])
theorem foldl_min : ∀ (r : List Int) (i : Int), (r.foldl (fun a b => min a b) i ∈ i :: r) ∧ ∀ y ∈ i :: r, r.foldl (fun a b => min a b) i ≤ y
  | [], i => ⟨by simp, fun y h => by simp at h; simp [h]⟩
  | j :: r, i => by
    obtain ⟨h1, h2⟩ := foldl_min r (min i j)
    simp only [List.foldl_cons]
    have h3 := h2 (min i j) (by simp)
    refine ⟨?_, fun y h => ?_⟩
    · rcases List.mem_cons.mp h1 with h | h
      · rw [h]
        have : min i j = i ∨ min i j = j := by omega
        rcases this with e | e <;> rw [e] <;> simp
      · simp [h]
    · rcases List.mem_cons.mp h with rfl | h
      · omega
      · rcases List.mem_cons.mp h with rfl | h
        · omega
        · exact h2 y (by simp [h])
theorem maxI_is {ns : List Int} {m : Int} (h1 : m ∈ ns) (h2 : ∀ y, y ∈ ns → y ≤ m) : maxI ns = some m := by
  cases ns with
  | nil => cases h1
  | cons i r =>
    obtain ⟨h3, h4⟩ := foldl_max r i
    have := h2 _ h3
    have := h4 m h1
    show some _ = some m
    congr 1
    omega
theorem minI_is {ns : List Int} {m : Int} (h1 : m ∈ ns) (h2 : ∀ y, y ∈ ns → m ≤ y) : minI ns = some m := by
  cases ns with
  | nil => cases h1
  | cons i r =>
    obtain ⟨h3, h4⟩ := foldl_min r i
    have := h2 _ h3
    have := h4 m h1
    show some _ = some m
    congr 1
    omega
def maxD : List D → Option D
  | [.list ds] => (intsD ds).bind fun ns => (maxI ns).map .int
  | [.int i, .int j] => some (.int (max i j))
  | _ => none
def minD : List D → Option D
  | [.list ds] => (intsD ds).bind fun ns => (minI ns).map .int
  | [.int i, .int j] => some (.int (min i j))
  | _ => none
theorem cd_max (hc : X.calm = true) : CallD X (.builtin "max") true maxD := by
  refine ⟨_, (cr_max hc).or (call_max2 hc), fun O H vs ds w Q od ha hw q => ?_⟩
  unfold maxD at hw
  split at hw
  · rename_i xs
    rw [Option.bind_eq_some_iff] at hw
    obtain ⟨ns, h1, h2⟩ := hw
    rw [Option.map_eq_some_iff] at h2
    obtain ⟨m, h2, rfl⟩ := h2
    obtain ⟨v, rfl, a⟩ := ha.one
    obtain ⟨p, ys, rfl, l, r⟩ := a.list_inv
    have := intsD_at r h1
    subst this
    refine .inl ⟨p, ns, rfl, l.1, ?_, fun m' g1 g2 => ?_⟩
    · cases ns with
      | nil => cases h2
      | cons => simp
    · rw [maxI_is g1 g2] at h2
      cases h2
      exact q _ _ (.flat (.int _) fun _ z => nomatch z)
  · rename_i i j
    cases hw
    obtain ⟨v, u, rfl, a, b⟩ := ha.two
    cases a
    cases b
    refine .inr ⟨i, j, rfl, ?_⟩
    have : (if j > i then j else i) = max i j := by split <;> omega
    rw [this]
    exact q _ _ (.flat (.int _) fun _ z => nomatch z)
  · cases hw
theorem cd_min (hc : X.calm = true) : CallD X (.builtin "min") true minD := by
  refine ⟨_, (cr_min hc).or (call_min2 hc), fun O H vs ds w Q od ha hw q => ?_⟩
  unfold minD at hw
  split at hw
  · rename_i xs
    rw [Option.bind_eq_some_iff] at hw
    obtain ⟨ns, h1, h2⟩ := hw
    rw [Option.map_eq_some_iff] at h2
    obtain ⟨m, h2, rfl⟩ := h2
    obtain ⟨v, rfl, a⟩ := ha.one
    obtain ⟨p, ys, rfl, l, r⟩ := a.list_inv
    have := intsD_at r h1
    subst this
    refine .inl ⟨p, ns, rfl, l.1, ?_, fun m' g1 g2 => ?_⟩
    · cases ns with
      | nil => cases h2
      | cons => simp
    · rw [minI_is g1 g2] at h2
      cases h2
      exact q _ _ (.flat (.int _) fun _ z => nomatch z)
  · rename_i i j
    cases hw
    obtain ⟨v, u, rfl, a, b⟩ := ha.two
    cases a
    cases b
    refine .inr ⟨i, j, rfl, ?_⟩
    have : (if j < i then j else i) = min i j := by split <;> omega
    rw [this]
    exact q _ _ (.flat (.int _) fun _ z => nomatch z)
  · cases hw
def listD : List D → Option D
  | [.list ds] => some (.list ds)
  | [.tuple ds] => some (.list ds)
  | _ => none
def tupleD : List D → Option D
  | [.list ds] => some (.tuple ds)
  | [.tuple ds] => some (.tuple ds)
  | _ => none
theorem cd_list : CallD X (.type "list") true listD := by
  refine ⟨_, call_list_of, fun O H vs ds w Q od ha hw q => ?_⟩
  unfold listD at hw
  split at hw
  · cases hw
    obtain ⟨v, rfl, a⟩ := ha.one
    obtain ⟨p, ys, rfl, l, r⟩ := a.list_inv
    exact ⟨p, ys, rfl, .inl l.1, fun p hp => q _ _ (.lst od hp r)⟩
  · cases hw
    obtain ⟨v, rfl, a⟩ := ha.one
    obtain ⟨p, ys, rfl, l, r⟩ := a.tuple_inv
    exact ⟨p, ys, rfl, .inr l.1, fun p hp => q _ _ (.lst od hp r)⟩
  · cases hw
theorem cd_tuple : CallD X (.type "tuple") true tupleD := by
  refine ⟨_, call_tuple_of, fun O H vs ds w Q od ha hw q => ?_⟩
  unfold tupleD at hw
  split at hw
  · cases hw
    obtain ⟨v, rfl, a⟩ := ha.one
    obtain ⟨p, ys, rfl, l, r⟩ := a.list_inv
    exact ⟨p, ys, rfl, .inl ⟨l.1, fun p hp => q _ _ (.tup od hp r)⟩⟩
  · cases hw
    obtain ⟨v, rfl, a⟩ := ha.one
    obtain ⟨p, ys, rfl, l, r⟩ := a.tuple_inv
    exact ⟨p, ys, rfl, .inr ⟨l.1, q _ _ (.flat (.tup l r) fun _ z => nomatch z)⟩⟩
  · cases hw
def boolsD : List D → Option (List Bool)
  | [] => some []
  | .bool b :: r => (boolsD r).map (b :: ·)
  | _ :: _ => none
theorem boolsD_at {O : Addr → Prop} {H : Hp} : ∀ {vs : List V} {ds : List D} {bs : List Bool}, AtAll K O H vs ds → boolsD ds = some bs → vs = bs.map V.bl
  | _, [], bs, .nil, h => by cases h; rfl
  | _, d :: r, bs, .cons a q, h => by
    cases d with
    | bool b =>
      simp only [boolsD, Option.map_eq_some_iff] at h
      obtain ⟨cs, h1, rfl⟩ := h
      cases a
      rw [boolsD_at q h1]
      rfl
    | _ => cases h
def allD : List D → Option D
  | [.list ds] => (boolsD ds).map fun bs => .bool (bs.all id)
  | _ => none
theorem cd_all (hc : X.calm = true) : CallD X (.builtin "all") true allD := by
  refine ⟨_, cr_all hc, fun O H vs ds w Q od ha hw q => ?_⟩
  unfold allD at hw
  split at hw
  · rw [Option.map_eq_some_iff] at hw
    obtain ⟨bs, h1, rfl⟩ := hw
    obtain ⟨v, rfl, a⟩ := ha.one
    obtain ⟨p, ys, rfl, l, r⟩ := a.list_inv
    have := boolsD_at r h1
    subst this
    exact ⟨p, bs, rfl, l.1, q _ _ (.flat (.bl _) fun _ z => nomatch z)⟩
  · cases hw
end
end DL
namespace DL
open PySem PySem.Spec PyProof.Rows L2
variable {K : PySem.W.Frag}
section
variable {X : Cx} {e : Expr} {es : List Expr} {z : Z}
def reprD : List D → Option D
  | [d] => if (d.showable && SeqAt.shaped d && decide (d.shown.length ≤ sizeLine)) = true then some (.str d.shown) else none
  | _ => none
def tyN : D → String
  | .none => "NoneType"
  | .bool _ => "bool"
  | .int _ => "int"
  | .str _ => "str"
  | .list _ => "list"
  | .tuple _ => "tuple"
  | .dict _ => "dict"
def stiB : D → Bool
  | .dict ((_, .int _) :: _) => true
  | _ => false
theorem At.ty {O : Addr → Prop} {H : Hp} {v : V} {d : D} (h : At K O H v d) : ((∀ kvs, d ≠ .dict kvs) ∧ TyX K H v (.type (tyN d))) ∨ (∃ (a : Addr) (n : Str) (od : Option Addr), v = .ref a ∧ (∃ kvs, d = .dict kvs) ∧ (H a = some (ExB (.ref (caK K n)) od a) ∧ ∀ dx, od = some dx → ∃ fs, H dx = some (.xd fs)) ∧ ExI K n) ∨
    ((∃ kvs, d = .dict kvs) ∧ stiB d = true ∧ TyX K H v (.ref (caK K "Stints")) ∧ StI K) := by
  cases h with
  | non => exact .inl ⟨(fun _ z => nomatch z), .base .non⟩
  | bl b => exact .inl ⟨(fun _ z => nomatch z), .base (.bl b)⟩
  | int i => exact .inl ⟨(fun _ z => nomatch z), .base (.int i)⟩
  | str x => exact .inl ⟨(fun _ z => nomatch z), .base (.str x)⟩
  | lst l r =>
    refine .inl ⟨(fun _ z => nomatch z), ?_⟩
    rcases l.1 with (h | ⟨o, h⟩) | ⟨o, its, n, h1, h2, _⟩
    · exact .base (.lst h)
    · exact .base (.frz h)
    · exact .kList h1 h2
  | tup l r =>
    refine .inl ⟨(fun _ z => nomatch z), ?_⟩
    rcases l.1 with (h | ⟨o, h⟩) | ⟨o, its, n, h1, h2, _⟩
    · exact .base (.tup h)
    · exact .fTuple h
    · exact .kTuple h1 h2
  | sti m c i h _ _ _ => exact .inr (.inr ⟨⟨_, rfl⟩, rfl, .base (.ins h.1 i.cl i.ha i.hn i.ht i.hm), i⟩)
  | exc n h i => exact .inr (.inl ⟨_, n, none, rfl, ⟨_, rfl⟩, ⟨h.1, fun _ q => nomatch q⟩, i⟩)
  | excP n f h i a =>
    obtain ⟨⟨h1, _⟩, ⟨fs, h2, _⟩, _⟩ := h
    exact .inr (.inl ⟨_, n, _, rfl, ⟨_, rfl⟩, ⟨h1, fun dx q => by cases q; exact ⟨fs, h2⟩⟩, i⟩)
/-- isinstance(e, c), e an error that is kept -/
def rIsX (K : PySem.W.Frag) : List V → Hp → VK → Prop := fun xs H Q => ∃ (a C : Addr) (c : V) (u : Value) (b : Bool) (od : Option Addr), xs = [.ref a, c] ∧ ClsV c u ∧ (H a = some (ExB (.ref C) od a) ∧ ∀ dx, od = some dx → ∃ fs, H dx = some (.xd fs)) ∧ ExcC K C ∧ PySem.W.kitOne K (.ref C) u = some b ∧ Q (.bl b) H
theorem call_isX : CallR X (.builtin "isinstance") (rIsX X.K) := by
  intro pins s σ H vs us Q I r h
  obtain ⟨a, C, c, u, b, od, rfl, k, ⟨hH, hdx⟩, hC, e, q⟩ := h
  obtain ⟨u1, u2, rfl, r1, r2⟩ := vals2 r
  obtain rfl := k.eq r2
  cases (show u1 = Value.ref a from r1)
  obtain ⟨⟨⟨oc, od', ot, osl⟩, fs, h0, ⟨h1, h2⟩, h3⟩, _⟩ := (show ObjOk X.prog X.w H s.heap a (ExB (.ref C) od a) from I.hok a _ hH)
  dsimp only at h1 h2 h3
  subst h1 h2 h3
  obtain ⟨oD, J⟩ : ∃ oD, PySem.W.InstAt s.heap a ⟨.ref C, od', .fields fs, osl⟩ C oD := by
    cases od' with
    | none => exact ⟨none, h0, rfl, rfl, trivial⟩
    | some dx =>
      obtain ⟨xs, hx⟩ := hdx dx rfl
      obtain ⟨mA, hns, _⟩ := (show ObjOk X.prog X.w H s.heap dx (.xd xs) from I.hok dx _ hx)
      obtain ⟨o, ho, _⟩ := lookIn_ns hns
      exact ⟨some o, h0, rfl, rfl, ho⟩
  exact PySem.W.kia_one (PySem.W.kitx_exc (by obtain ⟨cd, q, _⟩ := PySem.W.any_some hC.hd; rw [q]; rfl) hC.hg hC.hk hC.hs hC.ha hC.hn hC.ht hC.hm) I.kIn J e (fun z => nomatch z) fun tk => ⟨.bl b, H, I.tok tk, rfl, q⟩
def isTy (T : String) (d : D) : Option D := match d with
  | .dict kvs => if T = "ValueError" then (if stiB (.dict kvs) = true then none else some (.bool true)) else if T ∈ tyFive then some (.bool false) else none
  | _ => (kitB (tyN d) T).map .bool
theorem isTy_inv {T : String} {d w : D} (h : isTy T d = some w) : ∃ b, w = .bool b ∧ ((∀ kvs, d ≠ .dict kvs) → kitB (tyN d) T = some b) ∧ ((∃ kvs, d = .dict kvs) → (T = "ValueError" ∧ b = true ∧ stiB d = false) ∨ (T ∈ tyFive ∧ b = false)) := by
  cases d with
  | dict kvs =>
    unfold isTy at h
    simp only at h
    split at h
    · rename_i e
      split at h
      · cases h
      · rename_i hs
        cases h
        exact ⟨true, rfl, fun z => absurd rfl (z kvs), fun _ => .inl ⟨e, rfl, by simpa using hs⟩⟩
    · split at h
      · rename_i e
        cases h
        exact ⟨false, rfl, fun z => absurd rfl (z kvs), fun _ => .inr ⟨e, rfl⟩⟩
      · cases h
  | _ =>
    unfold isTy at h
    simp only at h
    rw [Option.map_eq_some_iff] at h
    obtain ⟨b, hb, rfl⟩ := h
    exact ⟨b, rfl, fun _ => hb, fun ⟨kvs, e⟩ => nomatch e⟩
def fIsi (T : String) (f : EF) : EF := fUn (isTy T) f
theorem de_isi {T : String} {x : Str} {p p2 pos : Pos} {fr : Bool} {f : EF} (he : DE z X fr e f) (hg : Gl X "isinstance") (hm : X.mg "isinstance" = none) (hgT : Gl X x) (hmT : X.mg x = none) (hvT : bootBuiltins x = some (.type T))
    (hn : x ≠ "__name__" := by decide) (hd : (x == ("__debug__" : Str)) = false := by decide)
    (he1 : starEach [e, .Name x p2] X.env = (false, eval e X.env) :: starEach [.Name x p2] X.env := by rfl) (he2 : starEach [.Name x p2] X.env = (false, eval (.Name x p2) X.env) :: starEach [] X.env := by rfl) (hpl : (backTo pos (starEach [.Name x p2] X.env)).any (·.1) = false := by rfl) :
    DE z X true (.Call (.Name "isinstance" p) [e, .Name x p2] [] pos) (fIsi T f) := by
  refine de_imp (pe_callB (call_isi.or call_isX) hg hm (by decide +kernel) (pa_cons he (pa_cons (pe_bltn (v := .ty T) hgT hmT hvT rfl hn hd) pa_nil he2) he1) (by decide) (by decide) he1 hpl) fun B env σ H Q I hp => ?_
  refine ⟨B, env, I, (R.post_bind hp).imp (fun p hp v H1 I1 m1 a1 _ => ?_) fun _ _ q => q⟩
  obtain ⟨w, ew, hw⟩ := ofO_post (R.post_bind hp)
  obtain ⟨b, rfl, hb, hx⟩ := isTy_inv ew
  have fin : Q (.bl b) H1 := EP1.give hw I1 m1 (.flat (.bl _) fun _ q => nomatch q)
  rcases a1.ty with ⟨nd, ty⟩ | ⟨a, n, od, rfl, ed, hE, hI⟩ | ⟨ed, hs, ty, hI⟩
  · exact .inl ⟨v, .ty T, _, _, b, rfl, .ty T, ty, kit_ty (hb nd), fin⟩
  · refine .inr ⟨a, caK X.K n, .ty T, _, b, od, rfl, .ty T, hE, hI.c, ?_, fin⟩
    rcases hx ed with ⟨rfl, rfl, _⟩ | ⟨hT, rfl⟩
    · exact hI.v
    · exact hI.b T hT
  · rcases hx ed with ⟨_, _, hs'⟩ | ⟨hT, rfl⟩
    · rw [hs] at hs'; cases hs'
    · exact .inl ⟨v, .ty T, _, _, false, rfl, .ty T, ty, hI.b T hT, fin⟩
theorem de_glob {x : Str} {v : V} {u : Value} {d : D} {pos : Pos} (hg : Gl X x) (hm : X.mg x = some u) (r : RelV v u) (ha : ∀ O H, At X.K O H v d) (hdl : ∀ ds, d ≠ .list ds) (hd : (x == ("__debug__" : Str)) = false := by decide) : DE z X true (.Name x pos) (fC d) := de_c (pe_glob hg hm r hd) ha hdl
def fIxO (i : Nat) (g : EF) : EF := fun env => match env[i]? with
  | some (some (.ow _)) => (g env).bind fun q => match q.2[i]? with
    | some (some (.ow ds)) => (ofO (ixD (.list ds) q.1)).bind fun r => .ok (r, q.2)
    | _ => .stuck
  | _ => .stuck
theorem de_ixO {i : Nat} {a b : Expr} {fb : Bool} {g : EF} {pos : Pos} (ha : PE X a (tVar i)) (hb : DE z X fb b g) (hs : PlainIx b) : DE z X false (.Subscript a b pos) (fIxO i g) := by
  refine de_imp (pe_ix ix_list ha hb hs) fun B env σ H Q I hp => ?_
  unfold fIxO at hp
  split at hp
  · rename_i ds0 e0
    obtain ⟨a0, _, hv, _⟩ := I.ow e0
    refine ⟨_, hv, B, env, I, (R.post_bind hp).imp (fun q hq u H2 I2 m2 a2 _ => ?_) fun _ _ q => q⟩
    split at hq
    · rename_i ds e
      obtain ⟨w, ew, hw⟩ := ofO_post (R.post_bind hq)
      obtain ⟨a, xs, e1, hO, hH, r⟩ := I2.ow e
      rw [hv] at e1
      cases e1
      obtain ⟨dd, e'⟩ := q
      cases dd with
      | int k =>
        cases a2
        obtain ⟨x, h1, h2⟩ := atI_at r ew
        exact ⟨a0, xs, k, x, rfl, rfl, SqL.of hH, h1, EP1.give hw I2 m2 (.sh h2)⟩
      | _ => cases ew
    · exact hq.elim
  · exact hp.elim
/-- len of an own list -/
def fLenO (i : Nat) : EF := fun env => match env[i]? with
  | some (some (.ow ds)) => .ok (.int ds.length, env)
  | _ => .stuck
theorem AtAll.rep {O : Addr → Prop} {H : Hp} {vs : List V} {ds : List D} (r : AtAll K O H vs ds) : ∀ n : Nat, AtAll K O H (List.replicate n vs).flatten (List.replicate n ds).flatten
  | 0 => by simp; exact .nil
  | n + 1 => by
    simp only [List.replicate_succ, List.flatten_cons]
    exact r.append (AtAll.rep r n)
end
end DL
namespace DL
open PySem PySem.Spec PyProof.Rows L2
variable {K : PySem.W.Frag}
def iSeq (K : PySem.W.Frag) (tl : TE) : TI := fun σ H R => tl σ H fun x H1 => (∃ a, x = .ref a ∧ (∃ xs, SqL K H1 a xs) ∧ R (Itl K a) H1) ∨ (∃ a, x = .ref a ∧ (∃ xs, SqT K H1 a xs) ∧ R (Itt K a) H1)
theorem pi_seq {X : Cx} {tg l : Expr} {tl : TE} (hl : PE X l tl) : PI X tg l (iSeq X.K tl) := by
  refine ⟨fun pins s σ H R I h => ?_⟩
  refine thn (hl.run pins s σ H _ I h) fun v s1 ⟨x, H1, I1, r1, q1⟩ => ?_
  rcases q1 with q1 | q1
  · obtain ⟨a, e, ⟨xs, hq⟩, q⟩ := q1
    subst e
    cases r1
    obtain ⟨its, rv, p, hz⟩ := I1.list hq
    refine wpAny_pyIter_list p.isList ?_
    refine ⟨s1.heap.objs.size, [s1.heap.objs.size], _, _, H1, rfl, I1.kept (t' := s1.toks) fun b o e => Heap.get?_push_of_some _ e, turn_list a _, ⟨_, Heap.get?_push_size _ rfl, rfl, rfl⟩, fun b hb => ?_, q⟩
    have e : b = s1.heap.objs.size := by simpa using hb
    subst e
    exact I1.fpOk (Nat.le_refl _) (I1.hok.fresh (Nat.le_refl _))
  · obtain ⟨a, e, ⟨xs, hq⟩, q⟩ := q1
    subst e
    cases r1
    obtain ⟨its, rv, p, hz⟩ := I1.tuple hq
    refine wpAny_pyIter_tuple (show s1.heap.IsTuple a its.toArray from p) ?_
    refine ⟨s1.heap.objs.size, [s1.heap.objs.size], _, _, H1, rfl, I1.kept (t' := s1.toks) fun b o e => Heap.get?_push_of_some _ e, turn_tuple a _, ⟨_, Heap.get?_push_size _ rfl, rfl, rfl⟩, fun b hb => ?_, q⟩
    have e : b = s1.heap.objs.size := by simpa using hb
    subst e
    exact I1.fpOk (Nat.le_refl _) (I1.hok.fresh (Nat.le_refl _))
def ItR (K : PySem.W.Frag) (O : Addr → Prop) (H : Hp) (J : It) (ds : List D) : Prop := ∀ (O' : Addr → Prop) (H1 : Hp), Mv O O' H H1 → Od O' H1 →
  (∀ i, i < ds.length → J.go i H1) ∧ J.stop ds.length H1 ∧ ∀ (i : Nat) (x : V) (H2 : Hp) (d : D), ds[i]? = some d → J.yld i H1 x H2 → Ex H1 H2 ∧ At K O' H2 x d
def tI (K : PySem.W.Frag) (z : Z) (f : En → R En (List D × En)) : TI := fun σ H R => ∃ (B : Bs) (env : En), SR K z.np B σ H env ∧
  (f env).post (fun p => ∀ J H', SR K z.np B σ H' p.2 → Mv (B.O σ env) (B.O σ p.2) H H' → ItR K (B.O σ p.2) H' J p.1 → R J H') (XP K z B σ H env)
abbrev DI (z : Z) (X : Cx) (tg iter : Expr) (f : En → R En (List D × En)) : Prop := PI X tg iter (tI X.K z f)
section
variable {X : Cx} {tg e : Expr} {es : List Expr} {z : Z}
theorem pi_weak {t t' : TI} (h : PI X tg e t) (i : ∀ σ H R, t' σ H R → t σ H R) : PI X tg e t' := ⟨fun pins s σ H R I q => h.run pins s σ H R I (i σ H R q)⟩
theorem itr_list {O : Addr → Prop} {H : Hp} {a : Addr} {xs : List V} {ds : List D} (l : LL K O H a xs) (r : AtAll K O H xs ds) : ItR K O H (Itl K a) ds := fun O' H1 m od => by
  have l1 := (LL.mv m l).1
  have r1 := AtAll.mv m r
  refine ⟨fun i hi => ?_, ⟨xs, l1, by rw [r.length]; exact Nat.le_refl _⟩, fun i x H2 d hd y => ?_⟩
  · obtain ⟨v, h1, _⟩ := r1.get (List.getElem?_eq_getElem hi)
    exact ⟨xs, v, l1, h1⟩
  · obtain ⟨rfl, y⟩ := y
    obtain ⟨v, h1, h2⟩ := r1.get hd
    rw [y xs l1] at h1
    cases h1
    exact ⟨fun _ _ q => q, h2⟩
theorem itr_tup {O : Addr → Prop} {H : Hp} {a : Addr} {xs : List V} {ds : List D} (l : LT K O H a xs) (r : AtAll K O H xs ds) : ItR K O H (Itt K a) ds := fun O' H1 m od => by
  have l1 := (LT.mv m l).1
  have r1 := AtAll.mv m r
  refine ⟨fun i hi => ?_, ⟨xs, l1, by rw [r.length]; exact Nat.le_refl _⟩, fun i x H2 d hd y => ?_⟩
  · obtain ⟨v, h1, _⟩ := r1.get (List.getElem?_eq_getElem hi)
    exact ⟨xs, v, l1, h1⟩
  · obtain ⟨rfl, y⟩ := y
    obtain ⟨v, h1, h2⟩ := r1.get hd
    rw [y xs l1] at h1
    cases h1
    exact ⟨fun _ _ q => q, h2⟩
def itemsD : D → Option (List D)
  | .list ds => some ds
  | .tuple ds => some ds
  | _ => none
def fItems (f : EF) : En → R En (List D × En) := fun env => (f env).bind fun p => (ofO (itemsD p.1)).bind fun ds => .ok (ds, p.2)
theorem di_seq {fr : Bool} {f : EF} (h : DE z X fr e f) : DI z X tg e (fItems f) := pi_weak (pi_seq h) fun σ H Rr ⟨B, env, I, hp⟩ =>
  ⟨B, env, I, (R.post_bind hp).imp (fun p hp v H1 I1 m1 a1 _ => by
    obtain ⟨ds, ed, hd⟩ := ofO_post (R.post_bind hp)
    obtain ⟨d, e'⟩ := p
    replace a1 : At X.K (B.O σ e') H1 v d := a1
    cases a1 with
    | lst l r => cases ed; exact .inl ⟨_, rfl, ⟨_, l.1⟩, hd _ H1 I1 m1 (itr_list l r)⟩
    | tup l r => cases ed; exact .inr ⟨_, rfl, ⟨_, l.1⟩, hd _ H1 I1 m1 (itr_tup l r)⟩
    | _ => cases ed) fun _ _ q => q⟩
def rangeL (lo : Int) (n : Nat) : List D := (List.range n).map fun i => .int (lo + (i : Nat))
theorem itr_range {O : Addr → Prop} {H : Hp} (lo : Int) (n : Nat) : ItR K O H (Itr lo n) (rangeL lo n) := fun O' H1 m od => by
  have hl : (rangeL lo n).length = n := by simp [rangeL]
  refine ⟨fun i hi => by rw [hl] at hi; exact hi, by rw [hl]; exact Nat.le_refl _, fun i x H2 d hd y => ?_⟩
  obtain ⟨rfl, rfl⟩ := y
  have hi : i < n := by
    have := (List.getElem?_eq_some_iff.mp hd).1
    rw [hl] at this
    exact this
  have : d = .int (lo + (i : Nat)) := by
    simp [rangeL, hi] at hd
    exact hd.symm
  subst this
  exact ⟨fun _ _ q => q, .int _⟩
def rangeD1 : List D → Option (List D)
  | [.int j] => if -(2 ^ 62) ≤ j ∧ j < 2 ^ 62 then some (rangeL 0 j.toNat) else none
  | _ => none
def rangeD2 : List D → Option (List D)
  | [.int i, .int j] => if -(2 ^ 62) ≤ i ∧ i < 2 ^ 62 ∧ -(2 ^ 62) ≤ j ∧ j < 2 ^ 62 then some (rangeL i (j - i).toNat) else none
  | _ => none
def fWalk (h : List D → Option (List D)) (g : En → R En (List D × En)) : En → R En (List D × En) := fun env => (g env).bind fun p => (ofO (h p.1)).bind fun ds => .ok (ds, p.2)
theorem di_range1 {a : Expr} {g : En → R En (List D × En)} {p pos : Pos} (hg : Gl X "range") (hm : X.mg "range" = none) (ha : DA z X [a] g) (hs : starEach [a] X.env = [(false, eval a X.env)] := by rfl) : DI z X tg (.Call (.Name "range" p) [a] [] pos) (fWalk rangeD1 g) :=
  pi_weak (pi_range1 hg hm ha hs) fun σ H Rr ⟨B, env, I, hp⟩ => ⟨B, env, I, (R.post_bind hp).imp (fun p hp vs H1 I1 m1 a1 => by
    obtain ⟨ds, ed, hd⟩ := ofO_post (R.post_bind hp)
    obtain ⟨l, e'⟩ := p
    replace a1 : AtAll X.K (B.O σ e') H1 vs l := a1
    dsimp only at ed
    unfold rangeD1 at ed
    split at ed
    · split at ed
      · rename_i hc
        cases ed
        obtain ⟨v, rfl, a⟩ := a1.one
        cases a
        exact ⟨_, rfl, hc.1, hc.2, hd _ H1 I1 m1 (itr_range 0 _)⟩
      · cases ed
    · cases ed) fun _ _ q => q⟩
end
end DL
namespace DL
open PySem PySem.Spec PyProof.Rows L2
variable {K : PySem.W.Frag}
theorem wipe_get (σ : Sg) (j : Nat) : ∀ vs : List Nat, (wipe σ vs)[j]? = if j ∈ vs then σ[j]?.map fun _ => none else σ[j]?
  | [] => by simp [wipe]
  | v :: vs => by
    unfold wipe
    have ih := wipe_get σ j vs
    by_cases e : v = j
    · subst e
      simp only [List.mem_cons, true_or, if_true]
      by_cases hl : v < σ.length
      · rw [List.getElem?_set_self (by rw [wipe_length]; exact hl), List.getElem?_eq_getElem hl]
        rfl
      · rw [List.getElem?_eq_none (by simpa [wipe_length] using hl), List.getElem?_eq_none (by simpa using hl)]
        rfl
    · rw [List.getElem?_set_ne e, ih]
      have : (j ∈ v :: vs) ↔ j ∈ vs := by simp [Ne.symm e]
      simp only [this]
theorem wipe_set {σ : Sg} {i : Nat} {x : Option V} {vs : List Nat} (h : i ∈ vs) : wipe (σ.set i x) vs = wipe σ vs := by
  apply List.ext_getElem?
  intro j
  rw [wipe_get, wipe_get]
  by_cases e : i = j
  · subst e
    simp only [h, if_true]
    by_cases hl : i < σ.length
    · rw [List.getElem?_set_self hl, List.getElem?_eq_getElem hl]; rfl
    · rw [List.getElem?_eq_none (by simpa using hl), List.getElem?_eq_none (by simpa using hl)]
  · rw [List.getElem?_set_ne e]
abbrev TF := D → En → Option En
abbrev TFs := List D → En → Option En
def tG (K : PySem.W.Frag) (z : Z) (ws : List Nat) (T : TF) : TG := fun v σ H Q => ∃ (B : Bs) (env : En) (d : D) (env' : En), SR K z.np B σ H env ∧ At K (B.O σ env) H v d ∧ T d env = some env' ∧
  ∀ σ', SR K z.np B σ' H env' → Mv (B.O σ env) (B.O σ' env') H H → (∀ vs : List Nat, (∀ w ∈ ws, w ∈ vs) → wipe σ' vs = wipe σ vs) → Q σ' H
def tGs (K : PySem.W.Frag) (z : Z) (ws : List Nat) (T : TFs) : TGs := fun us σ H Q => ∃ (B : Bs) (env : En) (ds : List D) (env' : En), SR K z.np B σ H env ∧ AtAll K (B.O σ env) H us ds ∧ T ds env = some env' ∧
  ∀ σ', SR K z.np B σ' H env' → Mv (B.O σ env) (B.O σ' env') H H → (∀ vs : List Nat, (∀ w ∈ ws, w ∈ vs) → wipe σ' vs = wipe σ vs) → Q σ' H
abbrev DG (z : Z) (X : Cx) (e : Expr) (ws : List Nat) (T : TF) : Prop := PG X e (tG X.K z ws T)
abbrev DGs (z : Z) (X : Cx) (es : List Expr) (ws : List Nat) (T : TFs) : Prop := PGs X es (tGs X.K z ws T)
section
variable {X : Cx} {e : Expr} {es : List Expr} {z : Z}
theorem pg_weak {t t' : TG} (h : PG X e t) (i : ∀ v σ H Q, t' v σ H Q → t v σ H Q) : PG X e t' := ⟨fun pins s σ H v u Q I r q => h.run pins s σ H v u Q I r (i v σ H Q q)⟩
theorem pgs_weak {t t' : TGs} (h : PGs X es t) (i : ∀ v σ H Q, t' v σ H Q → t v σ H Q) : PGs X es t' := ⟨fun pins s σ H v u Q I r q => h.run pins s σ H v u Q I r (i v σ H Q q)⟩
def tN (i : Nat) : TF := fun d env => some (env.set i (some (.im d)))
theorem dg_name {i : Nat} (h : PG X e (gName i)) (hi : i ∉ z.np) : DG z X e [i] (tN i) := pg_weak h fun v σ H Q ⟨B, env, d, env', I, a, ht, q⟩ => by
  cases ht
  obtain ⟨I', m⟩ := I.setIm hi a
  exact q _ I' m fun vs hv => wipe_set (hv i (by simp))
def tsNil : TFs := fun ds env => match ds with
  | [] => some env
  | _ => none
def tsCons (t : TF) (u : TFs) : TFs := fun ds env => match ds with
  | d :: r => (t d env).bind fun e => u r e
  | [] => none
theorem dgs_nil : DGs z X [] [] tsNil := pgs_weak pgs_nil fun v σ H Q ⟨B, env, ds, env', I, a, ht, q⟩ => by
  cases a with
  | nil => cases ht; exact ⟨rfl, q σ I .refl fun _ _ => rfl⟩
  | cons _ _ => cases ht
theorem dgs_cons {ws ws' : List Nat} {t : TF} {u : TFs} (h1 : DG z X e ws t) (h2 : DGs z X es ws' u) (ha : (assignEach (e :: es) X.env).map (·.2) = assign e X.env :: (assignEach es X.env).map (·.2) := by rfl) : DGs z X (e :: es) (ws ++ ws') (tsCons t u) := by
  refine pgs_weak (pgs_cons h1 h2 ha) fun v σ H Q ⟨B, env, ds, env', I, a, ht, q⟩ => ?_
  cases a with
  | nil => cases ht
  | cons a r =>
    simp only [tsCons, Option.bind_eq_some_iff] at ht
    obtain ⟨e1, h1, h2⟩ := ht
    refine ⟨_, _, rfl, B, env, _, e1, I, a, h1, fun σ1 I1 m1 w1 => ?_⟩
    exact ⟨B, e1, _, env', I1, AtAll.mv m1 r, h2, fun σ2 I2 m2 w2 => q σ2 I2 (m1.trans m2) fun vs hv =>
      (w2 vs fun w hw => hv w (List.mem_append_right _ hw)).trans (w1 vs fun w hw => hv w (List.mem_append_left _ hw))⟩
def tTuple (n : Nat) (u : TFs) : TF := fun d env => match d with
  | .tuple ds => if ds.length = n then u ds env else none
  | _ => none
theorem dg_tup {k n : Nat} {ws : List Nat} {u : TFs} {pos : Pos} (hc : X.calm = true) (h : DGs z X es ws u) (hn : (assignEach es X.env).length = n := by rfl) (hst : (assignEach es X.env).findIdx? (·.1) = none := by rfl) : DG z X (.Tuple es k pos) ws (tTuple n u) :=
  pg_weak (pg_tup hc h hn hst) fun v σ H Q ⟨B, env, d, env', I, a, ht, q⟩ => by
    cases a with
    | tup l r =>
      simp only [tTuple] at ht
      split at ht
      · rename_i hl
        exact ⟨_, _, rfl, l.1, by rw [r.length]; exact hl, B, env, _, env', I, r, ht, q⟩
      · cases ht
    | _ => cases ht
end
def wipeE (env : En) : List Nat → En
  | [] => env
  | v :: vs => (wipeE env vs).set v none
theorem wipeE_length (env : En) : ∀ vs : List Nat, (wipeE env vs).length = env.length
  | [] => rfl
  | v :: vs => by unfold wipeE; rw [List.length_set, wipeE_length env vs]
theorem wipeE_some {env : En} {j : Nat} {s : Sl} : ∀ {vs : List Nat}, (wipeE env vs)[j]? = some (some s) → j ∉ vs ∧ env[j]? = some (some s)
  | [], h => ⟨by simp, h⟩
  | v :: vs, h => by
    unfold wipeE at h
    rcases getElem?_set_some h with ⟨_, e⟩ | ⟨e, h⟩
    · cases e
    · obtain ⟨h1, h2⟩ := wipeE_some h
      exact ⟨by simp [e, h1], h2⟩
theorem wipeE_out {env : En} {j : Nat} : ∀ {vs : List Nat}, j ∉ vs → (wipeE env vs)[j]? = env[j]?
  | [], _ => rfl
  | v :: vs, h => by
    simp only [List.mem_cons, not_or] at h
    unfold wipeE
    rw [List.getElem?_set_ne (Ne.symm h.1), wipeE_out h.2]
/-- the slots vs again as they were -/
def restE (env0 env1 : En) : List Nat → En
  | [] => env1
  | v :: vs => (restE env0 env1 vs).set v (env0[v]?.getD none)
theorem restE_length (env0 env1 : En) : ∀ vs : List Nat, (restE env0 env1 vs).length = env1.length
  | [] => rfl
  | v :: vs => by unfold restE; rw [List.length_set, restE_length env0 env1 vs]
theorem restE_some {env0 env1 : En} {j : Nat} {s : Sl} : ∀ {vs : List Nat}, (restE env0 env1 vs)[j]? = some (some s) → (j ∈ vs ∧ env0[j]? = some (some s)) ∨ (j ∉ vs ∧ env1[j]? = some (some s))
  | [], h => .inr ⟨by simp, h⟩
  | v :: vs, h => by
    unfold restE at h
    rcases getElem?_set_some h with ⟨e1, e⟩ | ⟨e, h⟩
    · subst e1
      refine .inl ⟨by simp, ?_⟩
      cases q : env0[j]? with
      | none => rw [q] at e; cases e
      | some x => rw [q] at e; rw [e]; rfl
    · rcases restE_some h with ⟨h1, h2⟩ | ⟨h1, h2⟩
      · exact .inl ⟨by simp [h1], h2⟩
      · exact .inr ⟨by simp [e, h1], h2⟩
theorem restE_out {env0 env1 : En} {j : Nat} : ∀ {vs : List Nat}, j ∉ vs → (restE env0 env1 vs)[j]? = env1[j]?
  | [], _ => rfl
  | v :: vs, h => by
    simp only [List.mem_cons, not_or] at h
    unfold restE
    rw [List.getElem?_set_ne (Ne.symm h.1), restE_out h.2]
def okVs (env : En) (vs : List Nat) : Bool := vs.all fun i => match env[i]? with
  | some (some s) => !s.own
  | _ => true
theorem okVs_not {env : En} {vs : List Nat} {i : Nat} {s : Sl} (h : okVs env vs = true) (hi : i ∈ vs) (he : env[i]? = some (some s)) : s.own = false := by
  have := List.all_eq_true.mp h i hi
  rw [he] at this
  simpa using this
/-- with a list that is being made -/
def Bs.at (B : Bs) (D : Addr) (acc : List V) : Bs := { B with O0 := plus B.O0 D, kp := fun a => if a = D then some (.lst acc) else B.kp a }
theorem Bs.at_O {B : Bs} {D : Addr} {acc : List V} {σ : Sg} {env : En} {a : Addr} : (B.at D acc).O σ env a ↔ plus (B.O σ env) D a := by
  constructor
  · rintro ((h | h) | h)
    · exact .inl (.inl h)
    · exact .inr h
    · exact .inl (.inr h)
  · rintro ((h | h) | h)
    · exact .inl (.inl h)
    · exact .inr h
    · exact .inl (.inr h)
/-- none of the names is one that stays -/
def npFree (np vs : List Nat) : Bool := vs.all fun i => !np.contains i
theorem npFree_not {np vs : List Nat} (h : npFree np vs = true) : ∀ i ∈ vs, i ∉ np := fun i hi hn => by
  have := List.all_eq_true.mp h i hi
  rw [List.contains_iff_mem.mpr hn] at this
  cases this
section
variable {np : List Nat} {B : Bs} {σ : Sg} {H H' : Hp} {env env' : En} {vs : List Nat}
theorem SR.wiped (I : SR K np B σ H env) (hv : okVs env vs = true) (hvn : ∀ i ∈ vs, i ∉ np) : SR K np B (wipe σ vs) H (wipeE env vs) ∧ (∀ i a, ownedAt (wipe σ vs) (wipeE env vs) i a ↔ ownedAt σ env i a) := by
  have ow : ∀ i a, ownedAt (wipe σ vs) (wipeE env vs) i a ↔ ownedAt σ env i a := fun i a => by
    constructor
    · rintro ⟨s, h1, h2, h3⟩
      obtain ⟨n, h1⟩ := wipeE_some h1
      exact ⟨s, h1, h2, (wipe_some h3).1⟩
    · rintro ⟨s, h1, h2, h3⟩
      have n : i ∉ vs := fun z => by rw [okVs_not hv z h1] at h2; cases h2
      exact ⟨s, by rw [wipeE_out n]; exact h1, h2, by rw [wipe_get, if_neg n]; exact h3⟩
  have eO : ∀ a, B.O (wipe σ vs) (wipeE env vs) a ↔ B.O σ env a := fun a => ⟨fun z => z.elim .inl fun ⟨j, q⟩ => .inr ⟨j, (ow j a).1 q⟩, fun z => z.elim .inl fun ⟨j, q⟩ => .inr ⟨j, (ow j a).2 q⟩⟩
  refine ⟨⟨by rw [wipe_length, wipeE_length]; exact I.len, fun i s h => ?_, fun i j a h1 h2 => I.dist i j a ((ow i a).1 h1) ((ow j a).1 h2), I.keep, I.dom, fun i a h => I.new i a ((ow i a).1 h), I.o0, I.kept, fun i a h => I.kpo i a ((ow i a).1 h), fun i a h => I.own0 i a ((ow i a).1 h), fun p hp => let ⟨h1, h2, h3⟩ := I.par p hp; ⟨(ow _ _).2 h1, h2, h3⟩, fun p hp => let ⟨h1, h2⟩ := I.fix p hp; ⟨by rw [wipe_get, if_neg (fun z => hvn _ z h2)]; exact h1, h2⟩⟩, ow⟩
  obtain ⟨n, h⟩ := wipeE_some h
  obtain ⟨v, e, q⟩ := I.slot i s h
  exact ⟨v, by rw [wipe_get, if_neg n]; exact e, q.mv (Mv.less fun a z => (eO a).1 z) (fun a ea ho => (eO a).2 (.inr ⟨i, s, h, ho, ea ▸ e⟩)) fun _ _ _ _ z => z⟩
theorem SR.at (I : SR K np B σ H env) {D : Addr} {xs : List V} (hD : H D = none) : SR K np (B.at D xs) σ (upd H D (.lst xs)) env where
  len := I.len
  slot := fun i s h => by
    obtain ⟨v, e, q⟩ := I.slot i s h
    exact ⟨v, e, (q.mv (Mv.new hD) (fun a ea ho => .inl (.inr ⟨i, s, h, ho, ea ▸ e⟩)) fun a o _ _ z => Ex.new hD a o z).mv (Mv.less fun a z => Bs.at_O.1 z) (fun a ea ho => .inr ⟨i, s, h, ho, ea ▸ e⟩) fun _ _ _ _ z => z⟩
  dist := I.dist
  keep := fun a o h n => Ex.new hD a o (I.keep a o h n)
  dom := fun a h => I.dom a (Ex.dom (Ex.new hD) a h)
  new := I.new
  o0 := fun a h => by
    rcases h with h | h
    · exact ⟨fun z => (I.o0 a h).1 (Ex.dom (Ex.new hD) a z), (I.o0 a h).2⟩
    · subst h
      refine ⟨by rw [upd_same]; simp, fun p hp z => ?_⟩
      obtain ⟨h1, _⟩ := I.par p hp
      obtain ⟨o, h2⟩ := I.odom p.2 (.inr ⟨_, h1⟩)
      rw [z, hD] at h2; cases h2
  kept := fun a o h => by
    have h' : (if a = D then some (.lst xs) else B.kp a) = some o := h
    split at h'
    · rename_i e; subst e; rw [upd_same]; exact h'
    · exact Ex.new hD a o (I.kept a o h')
  kpo := fun i a h => by
    show (if a = D then some (.lst xs) else B.kp a) = none
    rw [if_neg]
    · exact I.kpo i a h
    · rintro rfl
      obtain ⟨o, h2⟩ := I.odom a (.inr ⟨i, h⟩)
      rw [hD] at h2; cases h2
  own0 := fun i a h w => by
    rcases w with w | w
    · exact I.own0 i a h w
    · obtain ⟨o, h2⟩ := I.odom a (.inr ⟨i, h⟩)
      rw [w, hD] at h2; cases h2
  par := I.par
  fix := I.fix
/-- the list that is made grows -/
theorem SR.at_app {D : Addr} {acc acc' : List V} (I : SR K np (B.at D acc) σ H env) (hD0 : B.H0 D = none) : SR K np (B.at D acc') σ (upd H D (.lst acc')) env ∧ Mv ((B.at D acc).O σ env) ((B.at D acc').O σ env) H (upd H D (.lst acc')) := by
  have hD : H D = some (.lst acc) := I.kept D _ (by show (if D = D then _ else _) = _; rw [if_pos rfl])
  have oD : (B.at D acc).O σ env D := .inl (.inr rfl)
  have nD : ∀ i a, ownedAt σ env i a → a ≠ D := fun i a h z => by
    have := I.kpo i a h
    rw [z] at this
    have e : (if D = D then some (HO.lst acc) else B.kp D) = none := this
    rw [if_pos rfl] at e; cases e
  have m : Mv ((B.at D acc).O σ env) ((B.at D acc').O σ env) H (upd H D (.lst acc')) := ⟨fun a o e n => by
      rw [upd_ne (show a ≠ D from fun z => n (z ▸ oD))]; exact e, fun a z => .inl z, fun a e => by
      by_cases z : a = D
      · rw [z, upd_same] at e; cases e
      · rw [upd_ne z] at e; exact e⟩
  refine ⟨⟨I.len, fun i s h => ?_, I.dist, fun a o h n => ?_, fun a e => I.dom a (m.dom a e), I.new, fun a h => ⟨fun z => (I.o0 a h).1 (m.dom a z), (I.o0 a h).2⟩, fun a o h => ?_, fun i a h => ?_, I.own0, I.par, I.fix⟩, m⟩
  · obtain ⟨v, e, q⟩ := I.slot i s h
    exact ⟨v, e, q.mv m (fun a ea ho => .inr ⟨i, s, h, ho, ea ▸ e⟩) fun a o ea ho z => by rw [upd_ne (nD i a ⟨s, h, ho, ea ▸ e⟩)]; exact z⟩
  · by_cases z : a = D
    · subst z
      have h' : B.H0 a = some o := h
      rw [hD0] at h'; cases h'
    · rw [upd_ne z]; exact I.keep a o h n
  · have h' : (if a = D then some (.lst acc') else B.kp a) = some o := h
    split at h'
    · rename_i z; subst z; rw [upd_same]; exact h'
    · rename_i z
      rw [upd_ne z]
      exact I.kept a o (by show (if a = D then _ else _) = _; rw [if_neg z]; exact h')
  · show (if a = D then some (.lst acc') else B.kp a) = none
    rw [if_neg (nD i a h)]
    have : (if a = D then some (HO.lst acc) else B.kp a) = none := I.kpo i a h
    rw [if_neg (nD i a h)] at this
    exact this
end
def R.calm {S α : Type} : R S α → R S α
  | .ok a => .ok a
  | _ => .stuck
theorem R.post_calm {S α β : Type} {p : β → Prop} {q : Exn → S → Prop} {r : R S α} {f : α → R S β} (h : (r.calm.bind f).post p q) : r.post (fun a => (f a).post p q) fun _ _ => False := by
  cases r with
  | stuck => exact h
  | ok a => exact h
  | err x s => exact h
/-- the turns of a comprehension -/
def compF (T : TF) (t : En → R En (Bool × En)) (f : EF) (vs : List Nat) : List D → List D → En → R En (List D × En)
  | [], acc, env => .ok (acc, env)
  | d :: ds, acc, env => (ofO (T d env)).bind fun e1 => (t e1).calm.bind fun b => if b.1 = true then
      (f b.2).calm.bind fun r => if acc.length < sizeLine ∧ okVs r.2 vs = true then compF T t f vs ds (acc ++ [r.1]) (wipeE r.2 vs) else .stuck
      else if okVs b.2 vs = true then compF T t f vs ds acc (wipeE b.2 vs) else .stuck
def fLc (g : En → R En (List D × En)) (T : TF) (t : En → R En (Bool × En)) (f : EF) (vs : List Nat) : EF := fun env => (g env).bind fun p => if okVs p.2 vs = true then
  (compF T t f vs p.1 [] (wipeE p.2 vs)).bind fun q => .ok (.list q.1, restE p.2 q.2 vs) else .stuck
def Z.quiet (z : Z) : Z := { z with W := fun _ _ _ _ => False }
theorem wipe_wipe (σ : Sg) (vs : List Nat) : wipe (wipe σ vs) vs = wipe σ vs := by
  apply List.ext_getElem?
  intro j
  rw [wipe_get, wipe_get]
  split
  · cases σ[j]? <;> rfl
  · rfl
theorem Mv.at_less {B : Bs} {σ σ' : Sg} {H : Hp} {env env' : En} {D : Addr} {acc acc' : List V} (h : ∀ i a, ownedAt σ' env' i a → ownedAt σ env i a) : Mv ((B.at D acc).O σ env) ((B.at D acc').O σ' env') H H :=
  Mv.less fun a z => z.elim .inl fun ⟨i, q⟩ => .inr ⟨i, h i a q⟩
section
variable {X : Cx} {z : Z} {B : Bs} {σ : Sg} {H : Hp} {env : En} {Q : VK}
/-- the end of a comprehension -/
theorem lc_end {Dd : Addr} {H1 Hh : Hp} {e1 ei : En} {vs : List Nat} {acc : List V} {rs : List D} (I : SR K z.np B σ H env) (I1 : SR K z.np B σ H1 e1) (m1 : Mv (B.O σ env) (B.O σ e1) H H1) (hv : okVs e1 vs = true) (hvn : ∀ i ∈ vs, i ∉ z.np) (hD : H1 Dd = none)
    (J : SR K z.np (B.at Dd acc) (wipe σ vs) Hh ei) (a : AtAll K ((B.at Dd acc).O (wipe σ vs) ei) Hh acc rs) (m : Mv (B.O σ e1) ((B.at Dd acc).O (wipe σ vs) ei) H1 Hh) (h : EP1 K z true B σ H env Q (.list rs, restE e1 ei vs)) : Q (.ref Dd) Hh := by
  have hk : Hh Dd = some (.lst acc) := J.kept Dd _ (by show (if Dd = Dd then _ else _) = _; rw [if_pos rfl])
  have nin : ∀ {j : Nat} {s : Sl}, ei[j]? = some (some s) → j ∉ vs := fun {j s} e hj => by
    obtain ⟨v, h1, _⟩ := J.slot j s e
    rw [wipe_get, if_pos hj] at h1
    cases q : σ[j]? with
    | none => rw [q] at h1; cases h1
    | some o => rw [q] at h1; cases h1
  have wo : ∀ {i : Nat} {b : Addr}, ownedAt σ (restE e1 ei vs) i b → ownedAt (wipe σ vs) ei i b := fun {i b} ⟨s, h1, h2, h3⟩ => by
    rcases restE_some h1 with ⟨q1, q2⟩ | ⟨q1, q2⟩
    · rw [okVs_not hv q1 q2] at h2; cases h2
    · exact ⟨s, q2, h2, by rw [wipe_get, if_neg q1]; exact h3⟩
  have ow : ∀ {i : Nat} {b : Addr}, ownedAt (wipe σ vs) ei i b → ownedAt σ (restE e1 ei vs) i b := fun {i b} ⟨s, h1, h2, h3⟩ => by
    have n := nin h1
    exact ⟨s, by rw [restE_out n]; exact h1, h2, (wipe_some h3).1⟩
  have less : ∀ b, B.O σ (restE e1 ei vs) b → (B.at Dd acc).O (wipe σ vs) ei b := fun b z => z.elim (fun z => .inl (.inl z)) fun ⟨i, q⟩ => .inr ⟨i, wo q⟩
  have less' : ∀ b, plus (B.O σ (restE e1 ei vs)) Dd b → (B.at Dd acc).O (wipe σ vs) ei b := fun b z => z.elim (less b) fun z => .inl (.inr z)
  have nOD : ¬ B.O σ (restE e1 ei vs) Dd := fun z => by
    rcases z with z | ⟨i, q⟩
    · exact (I1.o0 Dd z).1 hD
    · have := J.kpo i Dd (wo q)
      have e : (if Dd = Dd then some (HO.lst acc) else B.kp Dd) = none := this
      rw [if_pos rfl] at e; cases e
  have slot' : ∀ (O : Addr → Prop), (∀ b, O b → (B.at Dd acc).O (wipe σ vs) ei b) → (∀ b, (∃ i, ownedAt σ (restE e1 ei vs) i b) → O b) → Clean K O σ Hh (restE e1 ei vs) := fun O h1 h2 i s hs => by
    rcases restE_some hs with ⟨q1, q2⟩ | ⟨q1, q2⟩
    · have hno := okVs_not hv q1 q2
      obtain ⟨v, e, q⟩ := I1.slot i s q2
      cases s with
      | im d => exact ⟨v, e, At.mv (Mv.less h1) (At.mv m q)⟩
      | _ => cases hno
    · obtain ⟨v, e, q⟩ := J.slot i s q2
      have e2 := (wipe_some e).1
      exact ⟨v, e2, q.mv (Mv.less h1) (fun b eb ho => h2 b ⟨i, s, hs, ho, eb ▸ e2⟩) fun _ _ _ _ z => z⟩
  have R : SR K z.np B σ Hh (restE e1 ei vs) := by
    refine ⟨?_, slot' _ less fun b h => .inr h, fun i j b h1 h2 => J.dist i j b (wo h1) (wo h2), J.keep, J.dom, fun i b h => J.new i b (wo h), fun b h => J.o0 b (.inl h), fun b o h => ?_, fun i b h => ?_, fun i b h w => J.own0 i b (wo h) (.inl w), fun p hp => ?_, fun p hp => let ⟨h1, h2⟩ := J.fix p hp; ⟨(wipe_some h1).1, h2⟩⟩
    · rw [restE_length, ← J.len, wipe_length]
    · by_cases e : b = Dd
      · subst e
        have := I1.kept b o h
        rw [hD] at this; cases this
      · exact J.kept b o (by show (if b = Dd then _ else _) = _; rw [if_neg e]; exact h)
    · have q := J.kpo i b (wo h)
      have q : (if b = Dd then some (HO.lst acc) else B.kp b) = none := q
      split at q
      · cases q
      · exact q
    · obtain ⟨h1, h2, h3⟩ := J.par p hp
      exact ⟨ow h1, h2, h3⟩
  have mm : Mv (B.O σ env) (B.O σ (restE e1 ei vs)) H Hh := (m1.trans m).trans (Mv.less less)
  refine h (.ref Dd) Hh R mm (.lst ⟨.inl (.inl hk), fun z => absurd z nOD⟩ (AtAll.mv (Mv.less less) a)) fun _ ds e => ?_
  cases e
  exact ⟨Dd, acc, rfl, m1.dom Dd hD, nOD, hk, AtAll.mv (Mv.less less') a, slot' _ less' fun b h => .inl (.inr h)⟩
theorem lc_core' {J0 : It} {T : TF} {t : En → R En (Bool × En)} {f : EF} {ws vs : List Nat} {fr : Bool} {ds : List D} {H1 : Hp} {e1 : En} {Dd : Addr} (I : SR K z.np B σ H env) (I1 : SR K z.np B σ H1 e1) (m1 : Mv (B.O σ env) (B.O σ e1) H H1) (hJ : ItR K (B.O σ e1) H1 J0 ds)
    (hv : okVs e1 vs = true) (hvn : ∀ i ∈ vs, i ∉ z.np) (hD : H1 Dd = none) (hw : ∀ w ∈ ws, w ∈ vs) (hp : (compF T t f vs ds [] (wipeE e1 vs)).post (fun q => EP1 K z true B σ H env Q (.list q.1, restE e1 q.2 vs)) (XP K z B σ H env)) :
    ∃ W : Nat → Nat → Hp → Prop, (∃ m, W 0 m (upd H1 Dd (.lst []))) ∧ ∀ i m H, W i m H →
      (J0.stop i H ∧ Q (.ref Dd) H) ∨ (J0.go i H ∧ ∃ Nx : Hp → Prop, (∀ H', Nx H' → ∃ m', m' < m ∧ W (i + 1) m' H') ∧ ∀ x H', J0.yld i H x H' → tG K z.quiet ws T x (wipe σ vs) H' fun σ2 H2 => wipe σ2 vs = wipe σ vs ∧ tT K z.quiet t σ2 H2 fun b H3 =>
        if b = true then tE K z.quiet fr f σ2 H3 fun y H4 => ∃ acc, H4 Dd = some (.lst acc) ∧ acc.length < sizeLine ∧ Nx (upd H4 Dd (.lst (acc ++ [y]))) else Nx H3) := by
  obtain ⟨Iw, eow⟩ := I1.wiped hv hvn
  have hD0 : B.H0 Dd = none := I1.dom Dd hD
  have J1 := Iw.at (xs := []) hD
  have m2 : Mv (B.O σ e1) ((B.at Dd []).O (wipe σ vs) (wipeE e1 vs)) H1 (upd H1 Dd (.lst [])) := (Mv.new hD).trans (Mv.less fun a z => by
    rcases Bs.at_O.1 z with z | z
    · exact .inl (z.elim .inl fun ⟨i, q⟩ => .inr ⟨i, (eow i a).1 q⟩)
    · exact .inr z)
  refine ⟨fun i m Hh => ∃ acc rs ei, m = ds.length - i ∧ i ≤ ds.length ∧ SR K z.np (B.at Dd acc) (wipe σ vs) Hh ei ∧ AtAll K ((B.at Dd acc).O (wipe σ vs) ei) Hh acc rs ∧ Mv (B.O σ e1) ((B.at Dd acc).O (wipe σ vs) ei) H1 Hh ∧
    (compF T t f vs (ds.drop i) rs ei).post (fun q => EP1 K z true B σ H env Q (.list q.1, restE e1 q.2 vs)) (XP K z B σ H env), ⟨ds.length, [], [], wipeE e1 vs, by simp, Nat.zero_le _, J1, .nil, m2, hp⟩, ?_⟩
  rintro i m Hh ⟨acc, rs, ei, rfl, hi, J, a, mm, hc⟩
  obtain ⟨g1, g2, g3⟩ := hJ _ Hh mm J.od
  by_cases hlt : i < ds.length
  · refine .inr ⟨g1 i hlt, fun H' => ∃ acc rs ei, SR K z.np (B.at Dd acc) (wipe σ vs) H' ei ∧ AtAll K ((B.at Dd acc).O (wipe σ vs) ei) H' acc rs ∧ Mv (B.O σ e1) ((B.at Dd acc).O (wipe σ vs) ei) H1 H' ∧
      (compF T t f vs (ds.drop (i + 1)) rs ei).post (fun q => EP1 K z true B σ H env Q (.list q.1, restE e1 q.2 vs)) (XP K z B σ H env), fun H' ⟨acc, rs, ei, q⟩ => ⟨ds.length - (i + 1), by omega, acc, rs, ei, rfl, hlt, q⟩, fun x H' y => ?_⟩
    have hd : ds[i]? = some ds[i] := List.getElem?_eq_getElem hlt
    obtain ⟨ex, ax⟩ := g3 i x H' _ hd y
    rw [List.drop_eq_getElem_cons hlt] at hc
    unfold compF at hc
    obtain ⟨e2, hT, hc⟩ := ofO_post (R.post_bind hc)
    refine ⟨B.at Dd acc, ei, ds[i], e2, J.ex ex, ax, hT, fun σ2 J2 mt wt => ⟨(wt vs hw).trans (wipe_wipe σ vs), ?_⟩⟩
    have ew : wipe σ2 vs = wipe σ vs := (wt vs hw).trans (wipe_wipe σ vs)
    refine ⟨B.at Dd acc, e2, J2, (R.post_calm hc).imp (fun b hb H3 J3 m3 => ?_) fun _ _ q => q.elim⟩
    obtain ⟨b, e3⟩ := b
    cases b with
    | true =>
      rw [if_pos rfl]
      simp only [if_true] at hb
      refine ⟨B.at Dd acc, e3, J3, (R.post_calm hb).imp (fun r hr v H4 J4 m4 a4 _ => ?_) fun _ _ q => q.elim⟩
      split at hr
      · rename_i hcond
        obtain ⟨J5, m5⟩ := J4.at_app (acc' := acc ++ [v]) hD0
        obtain ⟨J6, ow6⟩ := J5.wiped hcond.2 hvn
        rw [ew] at J6 ow6
        have m6 : Mv ((B.at Dd (acc ++ [v])).O σ2 r.2) ((B.at Dd (acc ++ [v])).O (wipe σ vs) (wipeE r.2 vs)) (upd H4 Dd (.lst (acc ++ [v]))) (upd H4 Dd (.lst (acc ++ [v]))) := Mv.at_less fun i a q => (ow6 i a).1 q
        have mall : Mv ((B.at Dd acc).O (wipe σ vs) ei) ((B.at Dd (acc ++ [v])).O (wipe σ vs) (wipeE r.2 vs)) Hh (upd H4 Dd (.lst (acc ++ [v]))) := (((((Mv.ex ex).trans mt).trans m3).trans m4).trans m5).trans m6
        have hlen : acc.length = rs.length := a.length
        exact ⟨acc, J4.kept Dd _ (by show (if Dd = Dd then _ else _) = _; rw [if_pos rfl]), by rw [hlen]; exact hcond.1, acc ++ [v], rs ++ [r.1], _, J6, (AtAll.mv mall a).append (.cons (At.mv (m5.trans m6) a4) .nil), mm.trans mall, hr⟩
      · exact hr.elim
    | false =>
      rw [if_neg Bool.false_ne_true]
      simp only [Bool.false_eq_true, if_false] at hb
      split at hb
      · rename_i hcond
        obtain ⟨J6, ow6⟩ := J3.wiped hcond hvn
        rw [ew] at J6 ow6
        have m6 : Mv ((B.at Dd acc).O σ2 e3) ((B.at Dd acc).O (wipe σ vs) (wipeE e3 vs)) H3 H3 := Mv.at_less fun i a q => (ow6 i a).1 q
        have mall : Mv ((B.at Dd acc).O (wipe σ vs) ei) ((B.at Dd acc).O (wipe σ vs) (wipeE e3 vs)) Hh H3 := (((Mv.ex ex).trans mt).trans m3).trans m6
        exact ⟨acc, rs, _, J6, AtAll.mv mall a, mm.trans mall, hb⟩
      · exact hb.elim
  · have e : i = ds.length := by omega
    subst e
    rw [List.drop_length] at hc
    unfold compF at hc
    exact .inl ⟨g2, lc_end I I1 m1 hv hvn hD J a mm hc⟩
theorem de_lc {elt tg iter : Expr} {ifs : List Expr} {scope : Scope} {own : List (Str × Nat)} {pos : Pos} {gw : En → R En (List D × En)} {T : TF} {t : En → R En (Bool × En)} {f : EF} {ws : List Nat} {fr : Bool} (hc : X.calm = true) (hN : X.N.Nodup) (hi : DI z X tg iter gw) (ok : BlkOk X.N X.env.scope scope own)
    (hg : ∀ (s : Shared) (H : Hp) (C : Addr) (cl : List (Str × Addr)) (fp : List Addr), PG (X.blk s H scope (compEnvC scope cl C X.env) fp) tg (tG X.K z.quiet ws T)) (ht : ∀ (s : Shared) (H : Hp) (C : Addr) (cl : List (Str × Addr)) (fp : List Addr), PTs (X.blk s H scope (compEnvC scope cl C X.env) fp) ifs (tT X.K z.quiet t))
    (he : ∀ (s : Shared) (H : Hp) (C : Addr) (cl : List (Str × Addr)) (fp : List Addr), PE (X.blk s H scope (compEnvC scope cl C X.env) fp) elt (tE X.K z.quiet fr f)) (hw : ∀ w ∈ ws, w ∈ own.map (·.2)) (hs : ∀ x, foldedSetIterable iter X.env x = pure x := by intro _; rfl) (hvn : npFree z.np (own.map (·.2)) = true := by rfl) :
    DE z X true (.ListComp elt [⟨tg, iter, ifs, 0⟩] scope pos) (fLc gw T t f (own.map (·.2))) := by
  refine de_imp (pe_lc hc hN hi ok hg ht he hs) fun B env σ H Q I hp => ?_
  refine ⟨B, env, I, (R.post_bind hp).imp (fun p hp J H1 I1 m1 hJ D hD => ?_) fun _ _ q => q⟩
  split at hp
  · rename_i hv
    exact lc_core' I I1 m1 hJ hv (npFree_not hvn) hD hw (R.post_bind hp)
  · exact hp.elim
end
end DL
namespace DL
open PySem PySem.Spec PyProof.Rows L2
variable {K : PySem.W.Frag}
inductive Out where
  | nx (e : En)
  | rt (d : D) (e : En)
  | bk (e : En)
  | ct (e : En)
abbrev SF := En → R En Out
def Bs.Op (B : Bs) : Addr → Prop := fun a => B.O0 a ∨ ∃ p ∈ B.ps, p.2 = a
def RetOk (K : PySem.W.Frag) (fr : Bool) (B : Bs) (e : En) (v : V) (H' : Hp) (d : D) : Prop := At K B.Op H' v d ∧ (fr = true → ∀ ds, d = .list ds →
  ∃ (a : Addr) (xs : List V), v = .ref a ∧ B.H0 a = none ∧ ¬ B.Op a ∧ H' a = some (.lst xs) ∧ AtAll K (plus B.Op a) H' xs ds ∧ ∀ p ∈ B.ps, ∃ s, e[p.1]? = some (some s) ∧ s.own = true ∧ SlotR K (plus B.Op a) H' (.ref p.2) s)
def SOk (K : PySem.W.Frag) (z : Z) (fr : Bool) (B : Bs) (σ : Sg) (H : Hp) (env : En) (Dd : Ends) : Out → Prop
  | .nx e => ∀ σ' H', SR K z.np B σ' H' e → Mv (B.O σ env) (B.O σ' e) H H' → Dd.nx σ' H'
  | .bk e => ∀ σ' H', SR K z.np B σ' H' e → Mv (B.O σ env) (B.O σ' e) H H' → Dd.bk σ' H'
  | .ct e => ∀ σ' H', SR K z.np B σ' H' e → Mv (B.O σ env) (B.O σ' e) H H' → Dd.ct σ' H'
  | .rt d e => ∀ v σ' H', SR K z.np B σ' H' e → Mv (B.O σ env) (B.O σ' e) H H' → RetOk K fr B e v H' d → z.rt B.H0 B.Op v H' d → Dd.rt v H'
/-- nothing is told of what is handed back -/
def RtAny (z : Z) : Prop := ∀ H O v H' d, z.rt H O v H' d
def XS (K : PySem.W.Frag) (z : Z) (B : Bs) (σ : Sg) (H : Hp) (env : En) (x : Exn) (e : En) : Prop :=
  ∀ (cls : Value) (dp : Option Addr) (σ' : Sg) (H' : Hp), SR K z.np B σ' H' e → Mv (B.O σ env) (B.O σ' e) H H' → ExnAt K (B.O σ' e) H' z.ca x cls dp → z.W cls dp σ' H'
theorem XS.xp {z : Z} {B : Bs} {σ : Sg} {H : Hp} {env : En} {x : Exn} {e : En} (h : XS K z B σ H env x e) : XP K z B σ H env x e := fun cls dp H' I m a => h cls dp σ H' I m a
def tS (K : PySem.W.Frag) (z : Z) (fr : Bool) (g : SF) : TS := fun Dd σ H => ∃ (B : Bs) (env : En), SR K z.np B σ H env ∧ (g env).post (SOk K z fr B σ H env Dd) (XS K z B σ H env)
abbrev DS (z : Z) (X : Cx) (fr : Bool) (st : Stmt) (g : SF) : Prop := PS X st (tS X.K z fr g)
abbrev DSs (z : Z) (X : Cx) (fr : Bool) (sts : List Stmt) (g : SF) : Prop := PSs X sts (tS X.K z fr g)
section
variable {X : Cx} {z : Z} {fr : Bool} {st : Stmt} {sts : List Stmt} {e : Expr}
theorem ps_weak {t t' : TS} (h : PS X st t) (i : ∀ D σ H, t' D σ H → t D σ H) : PS X st t' := ⟨fun pins s σ H D I q => h.run pins s σ H D I (i D σ H q)⟩
theorem pss_weak {t t' : TS} (h : PSs X sts t) (i : ∀ D σ H, t' D σ H → t D σ H) : PSs X sts t' := ⟨fun pins s σ H D I q => h.run pins s σ H D I (i D σ H q)⟩
theorem ds_imp {g : SF} {t : TS} (h : PS X st t) (i : ∀ (B : Bs) (env : En) (σ : Sg) (H : Hp) (Dd : Ends), SR X.K z.np B σ H env → (g env).post (SOk X.K z fr B σ H env Dd) (XS X.K z B σ H env) → t Dd σ H) : DS z X fr st g :=
  ps_weak h fun Dd σ H ⟨B, env, I, p⟩ => i B env σ H Dd I p
theorem SOk.step {B : Bs} {σ σ1 : Sg} {H H1 : Hp} {env e1 : En} {Dd : Ends} {o : Out} (m : Mv (B.O σ env) (B.O σ1 e1) H H1) (h : SOk K z fr B σ H env Dd o) : SOk K z fr B σ1 H1 e1 Dd o := by
  cases o with
  | nx e => exact fun σ' H' I m' => h σ' H' I (m.trans m')
  | bk e => exact fun σ' H' I m' => h σ' H' I (m.trans m')
  | ct e => exact fun σ' H' I m' => h σ' H' I (m.trans m')
  | rt d e => exact fun v σ' H' I m' => h v σ' H' I (m.trans m')
theorem XS.step {B : Bs} {σ σ1 : Sg} {H H1 : Hp} {env e1 : En} {x : Exn} {e : En} (m : Mv (B.O σ env) (B.O σ1 e1) H H1) (h : XS K z B σ H env x e) : XS K z B σ1 H1 e1 x e := fun cls dp σ' H' I m' => h cls dp σ' H' I (m.trans m')
def sNil : SF := fun env => .ok (.nx env)
def sSeq (g h : SF) : SF := fun env => (g env).bind fun o => match o with
  | .nx e => h e
  | o => .ok o
theorem dss_nil : DSs z X fr [] sNil := pss_weak pss_nil fun Dd σ H ⟨B, env, I, p⟩ => p σ H I .refl
theorem dss_one {g : SF} (h : DS z X fr st g) : DSs z X fr [st] g := pss_one h
theorem dss_cons {g h : SF} (h1 : DS z X fr st g) (h2 : DSs z X fr sts h) : DSs z X fr (st :: sts) (sSeq g h) := pss_weak (pss_cons h1 h2) fun Dd σ H ⟨B, env, I, p⟩ =>
  ⟨B, env, I, (R.post_bind p).imp (fun o ho => by
    cases o with
    | nx e => exact fun σ' H' I' m' => ⟨B, e, I', R.post.imp ho (fun o q => q.step m') fun x e q => q.step m'⟩
    | bk e => exact ho
    | ct e => exact ho
    | rt d e => exact ho) fun _ _ q => q⟩
def sPass : SF := sNil
theorem ds_pass {pos : Pos} : DS z X fr (.Pass pos) sPass := ds_imp ps_pass fun B env σ H Dd I p => p σ H I .refl
def sExpr (f : EF) : SF := fun env => (f env).bind fun p => .ok (.nx p.2)
theorem ds_expr {fe : Bool} {f : EF} {pos : Pos} (he : DE z X fe e f) (hs : swapsWith e none pos.line X.env = pure false := by rfl) : DS z X fr (.Expr e pos) (sExpr f) :=
  ds_imp (ps_expr he hs) fun B env σ H Dd I p => ⟨B, env, I, (R.post_bind p).imp (fun p hp v H1 I1 m1 _ _ => hp σ H1 I1 m1) fun _ _ q => q.xp⟩
theorem SR.op {np : List Nat} {B : Bs} {σ : Sg} {H : Hp} {env : En} (I : SR K np B σ H env) : ∀ a, B.Op a → B.O σ env a := fun a z => z.elim .inl fun ⟨p, hp, e⟩ => .inr ⟨p.1, e ▸ (I.par p hp).1⟩
theorem SR.parSlot {np : List Nat} {B : Bs} {σ : Sg} {H : Hp} {env : En} {O : Addr → Prop} (I : SR K np B σ H env) (c : Clean K O σ H env) (p : Nat × Addr) (hp : p ∈ B.ps) : ∃ s, env[p.1]? = some (some s) ∧ s.own = true ∧ SlotR K O H (.ref p.2) s := by
  obtain ⟨⟨s, h1, h2, h3⟩, _⟩ := I.par p hp
  obtain ⟨v, e, q⟩ := c p.1 s h1
  rw [h3] at e; cases e
  exact ⟨s, h1, h2, q⟩
theorem RetOk.of {B : Bs} {σ : Sg} {H H' : Hp} {env e' : En} {v : V} {d : D} {np : List Nat} (I : SR K np B σ H env) (I' : SR K np B σ H' e') (a : At K (B.O σ e') H' v d) (f : fr = true → FRes K (B.O σ e') σ e' H H' v d) : RetOk K fr B e' v H' d := by
  refine ⟨At.mv (Mv.less I'.op) a, fun hf ds e => ?_⟩
  obtain ⟨b, xs, e1, na, nO, hb, q, c⟩ := f hf ds e
  have less : ∀ x, plus B.Op b x → plus (B.O σ e') b x := fun x z => z.elim (fun z => .inl (I'.op x z)) .inr
  refine ⟨b, xs, e1, I.dom b na, fun z => nO (I'.op b z), hb, AtAll.mv (Mv.less less) q, fun p hp => ?_⟩
  obtain ⟨s, h1, h2, h3⟩ := I'.parSlot c p hp
  exact ⟨s, h1, h2, h3.mv (Mv.less less) (fun x ex _ => by cases ex; exact .inl (.inr ⟨p, hp, rfl⟩)) fun _ _ _ _ z => z⟩
def sRet (f : EF) : SF := fun env => (f env).bind fun p => .ok (.rt p.1 p.2)
theorem ds_ret {f : EF} {pos : Pos} (he : DE z X fr e f) (hrt : RtAny z := by exact fun _ _ _ _ _ => trivial) : DS z X fr (.Return (some e) pos) (sRet f) :=
  ds_imp (ps_ret he) fun B env σ H Dd I p => ⟨B, env, I, (R.post_bind p).imp (fun p hp v H1 I1 m1 a f => hp v σ H1 I1 m1 (.of I I1 a f) (hrt _ _ _ _ _)) fun _ _ q => q.xp⟩
def sRetN : SF := fun env => .ok (.rt .none env)
/-- an own list is handed back -/
def sRetO (i : Nat) : SF := fun env => match env[i]? with
  | some (some (.ow ds)) => .ok (.rt (.list ds) env)
  | _ => .stuck
theorem ds_retO {i : Nat} {pos : Pos} (h : PE X e (tVar i)) (hi : i ∉ z.np) (hrt : RtAny z := by exact fun _ _ _ _ _ => trivial) : DS z X fr (.Return (some e) pos) (sRetO i) := ds_imp (ps_ret h) fun B env σ H Dd I p => by
  unfold sRetO at p
  split at p
  · rename_i ds he
    obtain ⟨a, xs, e1, hO, hH, r⟩ := I.ow he
    have oi : ownedAt σ env i a := ⟨_, he, rfl, e1⟩
    have nps : ∀ p ∈ B.ps, p.2 ≠ a := fun p hp q => by
      obtain ⟨h1, _, h3⟩ := I.par p hp
      rw [q] at h1
      exact hi (I.dist _ _ a h1 oi ▸ h3)
    have nOp : ¬ B.Op a := fun w => w.elim (I.own0 i a oi) fun ⟨p, hp, q⟩ => nps p hp q
    have less : ∀ x, plus B.Op a x → B.O σ env x := fun x w => w.elim (I.op x) fun w => w ▸ .inr ⟨i, oi⟩
    refine ⟨_, e1, p (.ref a) σ H I .refl ⟨.lst ⟨.inl (.inl hH), fun w => absurd w nOp⟩ (AtAll.mv (Mv.less I.op) r), fun _ ds' e => ?_⟩ (hrt _ _ _ _ _)⟩
    cases e
    refine ⟨a, xs, rfl, ?_, nOp, hH, AtAll.mv (Mv.less less) r, fun p hp => ?_⟩
    · rcases I.new i a oi with q | q
      · exact absurd rfl (nps _ q)
      · exact q
    · obtain ⟨s, h1, h2, h3⟩ := I.parSlot I.slot p hp
      exact ⟨s, h1, h2, h3.mv (Mv.less less) (fun x ex _ => by cases ex; exact .inl (.inr ⟨p, hp, rfl⟩)) fun _ _ _ _ z => z⟩
  · exact p.elim
def sIf (t : En → R En (Bool × En)) (g h : SF) : SF := fun env => (t env).bind fun b => if b.1 = true then g b.2 else h b.2
theorem ds_if {c : Expr} {a b : List Stmt} {pos : Pos} {t : En → R En (Bool × En)} {g h : SF} (hc : DT z X c t) (ha : DSs z X fr a g) (hb : DSs z X fr b h) : DS z X fr (.If c a b pos) (sIf t g h) :=
  ds_imp (ps_if hc ha hb) fun B env σ H Dd I p => ⟨B, env, I, (R.post_bind p).imp (fun b hp H1 I1 m1 => by
    obtain ⟨c, e⟩ := b
    cases c with
    | true => exact ⟨B, e, I1, R.post.imp hp (fun o q => q.step m1) fun x e q => q.step m1⟩
    | false => exact ⟨B, e, I1, R.post.imp hp (fun o q => q.step m1) fun x e q => q.step m1⟩) fun _ _ q => q.xp⟩
/-- a target -/
def sAsg (f : EF) (T : TF) : SF := fun env => (f env).bind fun p => (ofO (T p.1 p.2)).bind fun e => .ok (.nx e)
theorem ds_asg {fe : Bool} {f : EF} {tg : Expr} {ws : List Nat} {T : TF} {pos : Pos} (he : DE z X fe e f) (hg : DG z X tg ws T) (hs : swapsWithSole [tg] e pos.line X.env = pure false := by rfl) (hw : swappedStores [tg] e X.env = pure none := by rfl) (h1 : (assignEach [tg] X.env).map (·.2) = [assign tg X.env] := by rfl) : DS z X fr (.Assign [tg] e pos) (sAsg f T) :=
  ds_imp (ps_asg he hg hs hw h1) fun B env σ H Dd I p => ⟨B, env, I, (R.post_bind p).imp (fun p hp v H1 I1 m1 a _ => by
    obtain ⟨e', h1, h2⟩ := ofO_post (R.post_bind hp)
    exact ⟨B, p.2, p.1, e', I1, a, h1, fun σ' I' m' _ => h2 σ' H1 I' (m1.trans m')⟩) fun _ _ q => q.xp⟩
/-- name = data -/
def sSet (i : Nat) (f : EF) : SF := fun env => (f env).bind fun p => .ok (.nx (p.2.set i (some (.im p.1))))
theorem sem_set {i : Nat} {f : EF} {B : Bs} {env : En} {σ : Sg} {H : Hp} {Dd : Ends} (hi : i ∉ z.np) (p : (sSet i f env).post (SOk K z fr B σ H env Dd) (XS K z B σ H env)) : (f env).post (EP1 K z false B σ H env fun v H1 => Dd.nx (σ.set i (some v)) H1) (XP K z B σ H env) :=
  (R.post_bind p).imp (fun p hp v H1 I1 m1 a _ => let ⟨I', m'⟩ := I1.setIm hi a; hp _ H1 I' (m1.trans m')) fun _ _ q => q.xp
theorem ds_set {i : Nat} {x : Str} {fe : Bool} {f : EF} {pos pos' : Pos} (hN : X.N.Nodup) (hn : X.N[i]? = some x) (hx : Loc X.env.scope x) (he : DE z X fe e f) (hi : i ∉ z.np) (hs : swapsWith e (some (.Name x pos')) pos.line X.env = pure false := by rfl)
    (hf : X.fn x = true ∨ X.env.scope.names.lookup x = some .local := by first | exact .inl rfl | exact .inr rfl | assumption) : DS z X fr (.Assign [.Name x pos'] e pos) (sSet i f) :=
  ds_imp (ps_set hN hn hx (de_sh he) hs hf) fun B env σ H Dd I p => ⟨B, env, I, sem_set hi p⟩
/-- name = a new list, the name's own -/
def sSetO (i : Nat) (f : EF) : SF := fun env => (f env).bind fun p => match p.1 with
  | .list ds => .ok (.nx (p.2.set i (some (.ow ds))))
  | _ => .stuck
theorem sem_setO {i : Nat} {f : EF} {B : Bs} {env : En} {σ : Sg} {H : Hp} {Dd : Ends} (I : SR K z.np B σ H env) (hi : i ∉ z.np) (p : (sSetO i f env).post (SOk K z fr B σ H env Dd) (XS K z B σ H env)) : (f env).post (EP1 K z true B σ H env fun v H1 => Dd.nx (σ.set i (some v)) H1) (XP K z B σ H env) :=
  (R.post_bind p).imp (fun p hp v H1 I1 m1 a f1 => by
    obtain ⟨d, e1⟩ := p
    cases d with
    | list ds =>
      obtain ⟨I', b, rfl, nb, sub⟩ := I1.setOw (Hs := H) hi I.dom (fun a h => by
        cases q : B.kp a with
        | none => rfl
        | some o => rw [I.kept a o q] at h; cases h) (f1 rfl)
      exact hp _ H1 I' ⟨m1.keep, fun x w => (sub x w).elim (m1.own x) fun w => .inr (w ▸ nb), m1.dom⟩
    | _ => exact hp.elim) fun _ _ q => q.xp
theorem ds_setO {i : Nat} {x : Str} {f : EF} {pos pos' : Pos} (hN : X.N.Nodup) (hn : X.N[i]? = some x) (hx : Loc X.env.scope x) (he : DE z X true e f) (hi : i ∉ z.np) (hs : swapsWith e (some (.Name x pos')) pos.line X.env = pure false := by rfl)
    (hf : X.fn x = true ∨ X.env.scope.names.lookup x = some .local := by first | exact .inl rfl | exact .inr rfl | assumption) : DS z X fr (.Assign [.Name x pos'] e pos) (sSetO i f) :=
  ds_imp (ps_set hN hn hx he hs hf) fun B env σ H Dd I p => ⟨B, env, I, sem_setO I hi p⟩
/-- an own list is nobody's own any more -/
def sFrz (i : Nat) (h : SF) : SF := fun env => match env[i]? with
  | some (some (.ow ds)) => h (env.set i (some (.im (.list ds))))
  | _ => .stuck
/-- found.append(e) -/
def sApp (i : Nat) (f : EF) : SF := fun env => match env[i]? with
  | some (some (.ow _)) => (f env).bind fun p => match p.2[i]? with
    | some (some (.ow ds)) => if ds.length < sizeLine then .ok (.nx (p.2.set i (some (.ow (ds ++ [p.1]))))) else .stuck
    | _ => .stuck
  | _ => .stuck
theorem ds_app {i : Nat} {o a : Expr} {f : EF} {fe : Bool} {apos cpos pos : Pos} (ho : PE X o (tVar i)) (ha : DE z X fe a f) (hbase : attributeBase o "append" X.env (eval o X.env) = eval o X.env := by rfl)
    (hfew : ((backTo cpos (starEach [a] X.env)).all (fun x => !x.1) && (backToKw cpos (keywordEach [] X.env)).all (fun x => x.1.isSome) && decide ([a].length + ([] : List Keyword).length + (if ([] : List Keyword).isEmpty then 0 else 1) < 30)) = true := by rfl)
    (hline : (apos.endLine == cpos.line) = true := by rfl) (hs : starEach [a] X.env = (false, eval a X.env) :: starEach [] X.env := by rfl) (hplain : (backTo cpos (starEach [] X.env)).any (·.1) = false := by rfl)
    (hsw : swapsWith (.Call (.Attribute o "append" apos) [a] [] cpos) none pos.line X.env = pure false := by rfl) : DS z X fr (.Expr (.Call (.Attribute o "append" apos) [a] [] cpos) pos) (sApp i f) := by
  refine ds_imp (ps_expr (pe_bm PySem.F.plainAttrs_list PySem.F.slot_list_append PySem.F.type_list_append mt_append ho (pa_cons ha pa_nil hs) hbase hfew hline hs hplain) hsw) fun B env σ H Dd I p => ?_
  unfold sApp at p
  split at p
  · rename_i ds0 he
    obtain ⟨a0, xs0, e1, _, hH0, _⟩ := I.ow he
    refine ⟨_, e1, .inl ⟨rfl, _, SqL.of hH0⟩, B, env, I, (R.post_bind p).imp (fun p hp v H1 I1 m1 a1 _ => ?_) fun _ _ q => q.xp⟩
    split at hp
    · rename_i ds he1
      split at hp
      · rename_i hl
        obtain ⟨a, xs, e2, hO, hH, r⟩ := I1.ow he1
        rw [e1] at e2
        cases e2
        have m2 : Mv (B.O σ p.2) (B.O σ p.2) H1 (upd H1 a0 (.lst (xs ++ [v]))) := ⟨fun b u e n => by
          rw [upd_ne (show b ≠ a0 from fun q => n (q ▸ hO))]; exact e, fun _ w => .inl w, fun b e => by
          by_cases q : b = a0
          · rw [q, upd_same] at e; cases e
          · rw [upd_ne q] at e; exact e⟩
        obtain ⟨I', m'⟩ := I1.write (i := i) (a := a0) (s := .ow ds) (s' := .ow (ds ++ [p.1])) (o := .lst (xs ++ [v])) he1 rfl rfl e1 ⟨a0, _, rfl, hO, upd_same, (AtAll.mv m2 r).append (.cons (At.mv m2 a1) .nil)⟩
        exact ⟨a0, xs, v, rfl, rfl, hH, by rw [r.length]; exact hl, hp σ _ I' (m1.trans m')⟩
      · exact hp.elim
    · exact hp.elim
  · exact p.elim
theorem Mv.wr {O : Addr → Prop} {H : Hp} {a : Addr} {o : HO} (h : O a) : Mv O O H (upd H a o) := ⟨fun b u e n => by
  rw [upd_ne (show b ≠ a from fun q => n (q ▸ h))]; exact e, fun _ w => .inl w, fun b e => by
  by_cases q : b = a
  · rw [q, upd_same] at e; cases e
  · rw [upd_ne q] at e; exact e⟩
/-- found[i] = e -/
def sSto (i : Nat) (g f : EF) : SF := fun env => (f env).bind fun p => match p.2[i]? with
  | some (some (.ow _)) => (g p.2).bind fun q => match q.2[i]?, q.1 with
    | some (some (.ow ds)), .int k => match ixN ds.length k with
      | some j => .ok (.nx (q.2.set i (some (.ow (ds.set j p.1)))))
      | none => .stuck
    | _, _ => .stuck
  | _ => .stuck
theorem ds_sto {i : Nat} {o ix a : Expr} {g f : EF} {fe fg : Bool} {tpos pos : Pos} (ho : PE X o (tVar i)) (hg : DE z X fg ix g) (ha : DE z X fe a f) (hpg : PG X (.Subscript o ix tpos) (gSub (tVar i) (tE X.K z fg g) rSetL))
    (hs : swapsWithSole [.Subscript o ix tpos] a pos.line X.env = pure false := by rfl) (hw : swappedStores [.Subscript o ix tpos] a X.env = pure none := by rfl) (h1 : (assignEach [.Subscript o ix tpos] X.env).map (·.2) = [assign (.Subscript o ix tpos) X.env] := by rfl) : DS z X fr (.Assign [.Subscript o ix tpos] a pos) (sSto i g f) := by
  refine ds_imp (ps_asg ha hpg hs hw h1) fun B env σ H Dd I p => ⟨B, env, I, (R.post_bind p).imp (fun p hp v H1 I1 m1 a1 fx  => ?_) fun _ _ q => q.xp⟩
  split at hp
  · rename_i ds0 he
    obtain ⟨a0, xs0, e1, _, hH0, _⟩ := I1.ow he
    refine ⟨_, e1, B, p.2, I1, (R.post_bind hp).imp (fun q hq u H2 I2 m2 a2 fx  => ?_) fun _ _ q => q.xp.step m1⟩
    obtain ⟨d, e'⟩ := q
    dsimp only at hq
    split at hq
    · rename_i ds k he1
      split at hq
      · rename_i j hj
        cases a2
        obtain ⟨a, xs, e2, hO, hH, r⟩ := I2.ow he1
        rw [e1] at e2
        cases e2
        obtain ⟨I', m'⟩ := I2.write (i := i) (a := a0) (s := .ow ds) (s' := .ow (ds.set j p.1)) (o := .lst (xs.set j v)) he1 rfl rfl e1 ⟨a0, _, rfl, hO, upd_same, AtAll.set (At.mv (Mv.wr hO) (At.mv m2 a1)) j (AtAll.mv (Mv.wr hO) r)⟩
        exact ⟨a0, xs, k, j, rfl, rfl, hH, by rw [r.length]; exact hj, hq σ _ I' ((m1.trans m2).trans m')⟩
      · exact hq.elim
    · exact hq.elim
  · exact hp.elim
def sAugS (i : Nat) (op : Int → Int → Int) (g f : EF) : SF := fun env => match env[i]? with
  | some (some (.ow _)) => (g env).bind fun q => match q.2[i]?, q.1 with
    | some (some (.ow ds)), .int k => if 0 ≤ k then match ds[k.toNat]? with
      | some (.int x) => (f q.2).bind fun p => match p.2[i]?, p.1 with
        | some (some (.ow es)), .int y => if k.toNat < es.length then .ok (.nx (p.2.set i (some (.ow (es.set k.toNat (.int (op x y))))))) else .stuck
        | _, _ => .stuck
      | _ => .stuck
      else .stuck
    | _, _ => .stuck
  | _ => .stuck
/-- name op= e, ints -/
def sAug (i : Nat) (op : Int → Int → Int) (f : EF) : SF := fun env => match env[i]? with
  | some (some (.im (.int x))) => (f env).bind fun p => match p.1 with
    | .int y => .ok (.nx (p.2.set i (some (.im (.int (op x y))))))
    | _ => .stuck
  | _ => .stuck
/-- a, b = x, y -/
def sPar (i j : Nat) (g : En → R En (List D × En)) : SF := fun env => (g env).bind fun p => match p.1 with
  | [d, e] => .ok (.nx ((p.2.set i (some (.im d))).set j (some (.im e))))
  | _ => .stuck
theorem sem_par {i j : Nat} {g : En → R En (List D × En)} {B : Bs} {env : En} {σ : Sg} {H : Hp} {Dd : Ends} (hi : i ∉ z.np) (hj : j ∉ z.np) (I : SR K z.np B σ H env) (p : (sPar i j g env).post (SOk K z fr B σ H env Dd) (XS K z B σ H env)) : tPar i j (tA K z g) Dd σ H :=
  ⟨B, env, I, (R.post_bind p).imp (fun p hp vs H1 I1 m1 a => by
    obtain ⟨ds, e'⟩ := p
    dsimp only at hp
    split at hp
    · obtain ⟨v, u, rfl, h1, h2⟩ := AtAll.two a
      obtain ⟨I2, m2⟩ := I1.setIm hi h1
      obtain ⟨I3, m3⟩ := I2.setIm hj (At.mv m2 h2)
      exact ⟨v, u, rfl, hp _ H1 I3 ((m1.trans m2).trans m3)⟩
    · exact hp.elim) fun _ _ q => q.xp⟩
end
end DL
namespace DL
open PySem PySem.Spec PyProof.Rows L2
variable {K : PySem.W.Frag}
section
variable {X : Cx} {z : Z} {fr : Bool} {st : Stmt} {sts : List Stmt} {e : Expr}
def forF (T : TF) (g : SF) : List D → En → R En Out
  | [], env => .ok (.nx env)
  | d :: ds, env => (ofO (T d env)).bind fun e1 => (g e1).bind fun o => match o with
    | .nx e => forF T g ds e
    | .ct e => forF T g ds e
    | .bk e => .ok (.nx e)
    | .rt d e => .ok (.rt d e)
def sFor (gw : En → R En (List D × En)) (T : TF) (g : SF) : SF := fun env => (gw env).bind fun p => forF T g p.1 p.2
theorem ds_for {tg iter : Expr} {body : List Stmt} {pos : Pos} {gw : En → R En (List D × En)} {T : TF} {ws : List Nat} {g : SF} (hp : PassesOwn (model X.prog X.w) X.A X.env X.xe) (hc : X.calm = true) (hi : DI z X tg iter gw) (hg : DG z X tg ws T) (hb : DSs z X fr body g)
    (hs : ∀ x, foldedSetIterable iter X.env x = pure x := by intro _; rfl) : DS z X fr (.For tg iter body [] pos) (sFor gw T g) := by
  refine ds_imp (ps_for hp hc hi hg hb hs) fun B env σ H Dd I p => ⟨B, env, I, (R.post_bind p).imp (fun p hp J H1 I1 m1 hJ => ?_) fun _ _ q => q.xp⟩
  obtain ⟨ds, e1⟩ := p
  dsimp only at hp hJ I1 m1
  refine ⟨fun i m σ' Hh => ∃ ei, m = ds.length - i ∧ i ≤ ds.length ∧ SR X.K z.np B σ' Hh ei ∧ Mv (B.O σ e1) (B.O σ' ei) H1 Hh ∧ (forF T g (ds.drop i) ei).post (SOk X.K z fr B σ H env Dd) (XS X.K z B σ H env), ⟨ds.length, e1, by simp, Nat.zero_le _, I1, .refl, hp⟩, ?_⟩
  rintro i m σ' Hh ⟨ei, rfl, hi, J1, mm, hc⟩
  obtain ⟨g1, g2, g3⟩ := hJ _ Hh mm J1.od
  by_cases hlt : i < ds.length
  · refine .inr ⟨g1 i hlt, fun σ'' H' => ∃ ei, SR X.K z.np B σ'' H' ei ∧ Mv (B.O σ e1) (B.O σ'' ei) H1 H' ∧ (forF T g (ds.drop (i + 1)) ei).post (SOk X.K z fr B σ H env Dd) (XS X.K z B σ H env), fun σ'' H' ⟨ei, q⟩ => ⟨ds.length - (i + 1), by omega, ei, rfl, hlt, q⟩, fun x H' y => ?_⟩
    obtain ⟨ex, ax⟩ := g3 i x H' _ (List.getElem?_eq_getElem hlt) y
    rw [List.drop_eq_getElem_cons hlt] at hc
    unfold forF at hc
    obtain ⟨e2, hT, hc⟩ := ofO_post (R.post_bind hc)
    refine ⟨B, ei, ds[i], e2, J1.ex ex, ax, hT, fun σ2 J2 mt _ => ?_⟩
    have m2 : Mv (B.O σ e1) (B.O σ2 e2) H1 H' := (mm.trans (Mv.ex ex)).trans mt
    have m0 : Mv (B.O σ env) (B.O σ2 e2) H H' := m1.trans m2
    refine ⟨B, e2, J2, (R.post_bind hc).imp (fun o ho => ?_) fun x e q => q.step m0⟩
    cases o with
    | nx e => exact fun σ3 H3 I3 m3 => ⟨e, I3, m2.trans m3, ho⟩
    | ct e => exact fun σ3 H3 I3 m3 => ⟨e, I3, m2.trans m3, ho⟩
    | bk e => exact fun σ3 H3 I3 m3 => ho σ3 H3 I3 (m0.trans m3)
    | rt d e => exact fun v σ3 H3 I3 m3 => ho v σ3 H3 I3 (m0.trans m3)
  · have e : i = ds.length := by omega
    subst e
    rw [List.drop_length] at hc
    exact .inl ⟨g2, hc σ' Hh J1 (m1.trans mm)⟩
def whileF (c : En → R En (Bool × En)) (g : SF) : Nat → En → R En Out
  | 0, _ => .stuck
  | n + 1, env => (c env).bind fun b => if b.1 = true then (g b.2).bind fun o => match o with
    | .nx e => whileF c g n e
    | .ct e => whileF c g n e
    | .bk e => .ok (.nx e)
    | .rt d e => .ok (.rt d e)
    else .ok (.nx b.2)
/-- n tells how many turns are enough -/
def sWhile (n : En → Nat) (c : En → R En (Bool × En)) (g : SF) : SF := fun env => whileF c g (n env) env
theorem ds_while {c : Expr} {body : List Stmt} {pos : Pos} {n : En → Nat} {fc : En → R En (Bool × En)} {g : SF} (hp : PassesOwn (model X.prog X.w) X.A X.env X.xe) (hc : DT z X c fc) (hb : DSs z X fr body g) : DS z X fr (.While c body [] pos) (sWhile n fc g) := by
  refine ds_imp (ps_while hp hc hb) fun B env σ H Dd I p => ?_
  refine ⟨fun m σ' Hh => ∃ ei, SR X.K z.np B σ' Hh ei ∧ Mv (B.O σ env) (B.O σ' ei) H Hh ∧ (whileF fc g m ei).post (SOk X.K z fr B σ H env Dd) (XS X.K z B σ H env), ⟨n env, env, I, .refl, p⟩, ?_⟩
  rintro m σ' Hh ⟨ei, J, mm, hw⟩
  cases m with
  | zero => exact hw.elim
  | succ m =>
    unfold whileF at hw
    refine ⟨B, ei, J, (R.post_bind hw).imp (fun b hb H1 J1 m1 => ?_) fun x e q => (q.step mm).xp⟩
    have m2 := mm.trans m1
    obtain ⟨b, e1⟩ := b
    cases b with
    | true =>
      simp only [if_true] at hb
      dsimp only
      rw [if_pos rfl]
      refine ⟨fun σ' H' => ∃ ei, SR X.K z.np B σ' H' ei ∧ Mv (B.O σ env) (B.O σ' ei) H H' ∧ (whileF fc g m ei).post (SOk X.K z fr B σ H env Dd) (XS X.K z B σ H env), fun σ' H' q => ⟨m, by omega, q⟩, ?_⟩
      refine ⟨B, e1, J1, (R.post_bind hb).imp (fun o ho => ?_) fun x e q => q.step m2⟩
      cases o with
      | nx e => exact fun σ3 H3 I3 m3 => ⟨e, I3, m2.trans m3, ho⟩
      | ct e => exact fun σ3 H3 I3 m3 => ⟨e, I3, m2.trans m3, ho⟩
      | bk e => exact fun σ3 H3 I3 m3 => ho σ3 H3 I3 (m2.trans m3)
      | rt d e => exact fun v σ3 H3 I3 m3 => ho v σ3 H3 I3 (m2.trans m3)
    | false =>
      simp only [Bool.false_eq_true, if_false] at hb
      dsimp only
      rw [if_neg Bool.false_ne_true]
      exact hb σ' H1 J1 m2
def sRaise (c : Str) : SF := fun env => .err ⟨c, []⟩ env
theorem ds_raise {ex : Expr} {c : Str} {C : Addr} {pos : Pos} (hc : X.calm = true) (tk : Takes X z.W) (he : PMk X ex (fun _ H Q => Q (.ref C) none H)) (hC : z.ca c = C) : DS z X fr (.Raise (some ex) none pos) (sRaise c) :=
  ds_imp (ps_raise hc tk he) fun B env σ H Dd I p => p (.ref C) none σ H I .refl ⟨by rw [hC], rfl⟩
section
variable {elt tg iter : Expr} {ifs : List Expr} {scope : Scope} {own : List (Str × Nat)} {pos spos py : Pos} {gw : En → R En (List D × En)} {T : TF} {t : En → R En (Bool × En)} {f : EF} {ws : List Nat} {fe : Bool} {i : Nat} {y : Str}
theorem sem_lc {Q : VK} {B : Bs} {env : En} {σ : Sg} {H : Hp} (hw : ∀ w ∈ ws, w ∈ own.map (·.2)) (hvn : ∀ i ∈ own.map (·.2), i ∉ z.np) (I : SR X.K z.np B σ H env) (hp : (fLc gw T t f (own.map (·.2)) env).post (EP1 X.K z true B σ H env Q) (XP X.K z B σ H env)) :
    tLc (tI X.K z gw) (tG X.K z.quiet ws T) (tT X.K z.quiet t) (tE X.K z.quiet fe f) (own.map (·.2)) σ H Q := by
  refine ⟨B, env, I, (R.post_bind hp).imp (fun p hp J H1 I1 m1 hJ D hD => ?_) fun _ _ q => q⟩
  split at hp
  · rename_i hv
    exact lc_core' I I1 m1 hJ hv hvn hD hw (R.post_bind hp)
  · exact hp.elim
theorem ds_setLc (hc : X.calm = true) (hN : X.N.Nodup) (hy : X.N[i]? = some y) (hyl : X.env.scope.names.lookup y = some .local)
    (hsw : swapsWith (.ListComp elt [⟨tg, iter, ifs, 0⟩] scope pos) (some (.Name y py)) spos.line X.env = pure true) (hi : DI z X tg iter gw) (ok : BlkOk X.N X.env.scope scope own)
    (hg : ∀ (s : Shared) (H : Hp) (C : Addr) (cl : List (Str × Addr)) (fp : List Addr), PG (X.blk s H scope (compEnvC scope cl C X.env) fp) tg (tG X.K z.quiet ws T)) (ht : ∀ (s : Shared) (H : Hp) (C : Addr) (cl : List (Str × Addr)) (fp : List Addr), PTs (X.blk s H scope (compEnvC scope cl C X.env) fp) ifs (tT X.K z.quiet t))
    (he : ∀ (s : Shared) (H : Hp) (C : Addr) (cl : List (Str × Addr)) (fp : List Addr), PE (X.blk s H scope (compEnvC scope cl C X.env) fp) elt (tE X.K z.quiet fe f)) (hw : ∀ w ∈ ws, w ∈ own.map (·.2)) (hin : i ∉ z.np) (hs : ∀ x, foldedSetIterable iter X.env x = pure x := by intro _; rfl) (hvn : npFree z.np (own.map (·.2)) = true := by rfl) :
    DS z X fr (.Assign [.Name y py] (.ListComp elt [⟨tg, iter, ifs, 0⟩] scope pos) spos) (sSet i (fLc gw T t f (own.map (·.2)))) :=
  ds_imp (ps_setLc hc hN hy hyl hsw hi ok hg ht he hs) fun B env σ H Dd I p => sem_lc hw (npFree_not hvn) I ((sem_set hin p).imp (fun _ q v H' I' m a _ => q v H' I' m a fun w => nomatch w) fun _ _ q => q)
end
end
inductive PArg where
  | im (d : D)
  | sl (j : Nat)
def PAt (K : PySem.W.Frag) (O : Addr → Prop) (σ : Sg) (H : Hp) (v : V) : PArg → Prop
  | .im d => At K O H v d
  | .sl j => σ[j]? = some (some v)
inductive PAll (K : PySem.W.Frag) (O : Addr → Prop) (σ : Sg) (H : Hp) : List V → List PArg → Prop
  | nil : PAll K O σ H [] []
  | cons {v : V} {vs : List V} {a : PArg} {as : List PArg} : PAt K O σ H v a → PAll K O σ H vs as → PAll K O σ H (v :: vs) (a :: as)
theorem PAt.mv {O O' : Addr → Prop} {σ : Sg} {H H' : Hp} {v : V} {a : PArg} (m : Mv O O' H H') (h : PAt K O σ H v a) : PAt K O' σ H' v a := by
  cases a with
  | im d => exact At.mv m h
  | sl j => exact h
def tC (K : PySem.W.Frag) (z : Z) (f : En → R En (List PArg × En)) : TA := fun σ H Q => ∃ (B : Bs) (env : En), SR K z.np B σ H env ∧
  (f env).post (fun p => ∀ (vs : List V) H', SR K z.np B σ H' p.2 → Mv (B.O σ env) (B.O σ p.2) H H' → PAll K (B.O σ p.2) σ H' vs p.1 → Q vs H') (XP K z B σ H env)
abbrev DC (z : Z) (X : Cx) (es : List Expr) (f : En → R En (List PArg × En)) : Prop := PA X es (tC X.K z f)
section
variable {X : Cx} {z : Z} {e : Expr} {es : List Expr}
def cNil : En → R En (List PArg × En) := fun env => .ok ([], env)
def cIm (f : EF) (g : En → R En (List PArg × En)) : En → R En (List PArg × En) := fun env => (f env).bind fun p => (g p.2).bind fun q => .ok (.im p.1 :: q.1, q.2)
def cSl (j : Nat) (g : En → R En (List PArg × En)) : En → R En (List PArg × En) := fun env => match env[j]? with
  | some (some s) => if s.own = true then (g env).bind fun q => .ok (.sl j :: q.1, q.2) else .stuck
  | _ => .stuck
theorem dc_nil : DC z X [] cNil := pa_weak pa_nil fun σ H Q ⟨B, env, I, p⟩ => p [] H I .refl .nil
theorem dc_im {fr : Bool} {f : EF} {g : En → R En (List PArg × En)} (ha : DE z X fr e f) (hr : DC z X es g) (hs : starEach (e :: es) X.env = (false, eval e X.env) :: starEach es X.env := by rfl) : DC z X (e :: es) (cIm f g) :=
  pa_weak (pa_cons ha hr hs) fun σ H Q ⟨B, env, I, hp⟩ => ⟨B, env, I, (R.post_bind hp).imp (fun p hp v H1 I1 m1 a1 _ =>
    ⟨B, p.2, I1, (R.post_bind hp).imp (fun q hq vs H2 I2 m2 a2 => hq (v :: vs) H2 I2 (m1.trans m2) (.cons (At.mv m2 a1) a2)) fun _ _ q => q.step m1⟩) fun _ _ q => q⟩
theorem dc_sl {j : Nat} {g : En → R En (List PArg × En)} (ha : PE X e (tVar j)) (hr : DC z X es g) (hs : starEach (e :: es) X.env = (false, eval e X.env) :: starEach es X.env := by rfl) : DC z X (e :: es) (cSl j g) :=
  pa_weak (pa_cons ha hr hs) fun σ H Q ⟨B, env, I, hp⟩ => by
    unfold cSl at hp
    split at hp
    · rename_i s he
      split at hp
      · rename_i ho
        obtain ⟨v, e1, q1⟩ := I.slot j s he
        exact ⟨v, e1, B, env, I, (R.post_bind hp).imp (fun q hq vs H2 I2 m2 a2 => hq (v :: vs) H2 I2 m2 (.cons e1 a2)) fun _ _ q => q⟩
      · exact hp.elim
    · exact hp.elim
end
/-- the arguments as they stand -/
def resolve (e : En) : List PArg → Option (List Sl)
  | [] => some []
  | .im d :: as => (resolve e as).map (.im d :: ·)
  | .sl j :: as => match e[j]? with
    | some (some s) => if s.own = true then (resolve e as).map (s :: ·) else none
    | _ => none
def slotsOf : List PArg → List Nat
  | [] => []
  | .im _ :: as => slotsOf as
  | .sl j :: as => j :: slotsOf as
/-- what is own is told back -/
def back : List PArg → List Sl → En → En
  | .im _ :: as, _ :: es, env => back as es env
  | .sl j :: as, s :: es, env => back as es (env.set j (some s))
  | _, _, env => env
theorem back_out {j : Nat} : ∀ {as : List PArg} {es : List Sl} {env : En}, j ∉ slotsOf as → (back as es env)[j]? = env[j]?
  | [], es, env, _ => by unfold back; rfl
  | .im d :: as, [], env, _ => by unfold back; rfl
  | .sl k :: as, [], env, _ => by unfold back; rfl
  | .im d :: as, s :: es, env, h => by unfold back; exact back_out h
  | .sl k :: as, s :: es, env, h => by
    unfold back
    simp only [slotsOf, List.mem_cons, not_or] at h
    rw [back_out h.2, List.getElem?_set_ne (Ne.symm h.1)]
theorem back_length : ∀ (as : List PArg) (es : List Sl) (env : En), (back as es env).length = env.length
  | [], es, env => by unfold back; rfl
  | .im d :: as, [], env => by unfold back; rfl
  | .sl k :: as, [], env => by unfold back; rfl
  | .im d :: as, s :: es, env => by unfold back; exact back_length as es env
  | .sl k :: as, s :: es, env => by unfold back; rw [back_length as es, List.length_set]
theorem back_in {j : Nat} : ∀ {as : List PArg} {es : List Sl} {env : En} {i : Nat} {s : Sl}, (slotsOf as).Nodup → as[i]? = some (.sl j) → es[i]? = some s → j < env.length → (back as es env)[j]? = some (some s)
  | [], _, _, _, _, _, h, _, _ => by simp at h
  | _ :: _, [], _, _, _, _, _, h, _ => by simp at h
  | .im d :: as, t :: es, env, 0, s, _, h, _, _ => by simp at h
  | .im d :: as, t :: es, env, i + 1, s, hn, h, h2, hl => by
    unfold back
    exact back_in (i := i) hn (by simpa using h) (by simpa using h2) hl
  | .sl k :: as, t :: es, env, 0, s, hn, h, h2, hl => by
    have e : k = j := by simpa using h
    have e2 : t = s := by simpa using h2
    subst e e2
    unfold back
    simp only [slotsOf, List.nodup_cons] at hn
    rw [back_out hn.1, List.getElem?_set_self hl]
  | .sl k :: as, t :: es, env, i + 1, s, hn, h, h2, hl => by
    unfold back
    simp only [slotsOf, List.nodup_cons] at hn
    exact back_in (i := i) hn.2 (by simpa using h) (by simpa using h2) (by simpa using hl)
theorem mem_slotsOf {j : Nat} : ∀ {as : List PArg}, j ∈ slotsOf as → ∃ i : Nat, as[i]? = some (.sl j)
  | [], h => by simp [slotsOf] at h
  | .im d :: as, h => by
    obtain ⟨i, q⟩ := mem_slotsOf (as := as) h
    exact ⟨i + 1, by simpa using q⟩
  | .sl k :: as, h => by
    simp only [slotsOf, List.mem_cons] at h
    rcases h with h | h
    · exact ⟨0, by simp [h]⟩
    · obtain ⟨i, q⟩ := mem_slotsOf (as := as) h
      exact ⟨i + 1, by simpa using q⟩
theorem slotsOf_mem {j : Nat} : ∀ {as : List PArg} {i : Nat}, as[i]? = some (.sl j) → j ∈ slotsOf as
  | [], _, h => by simp at h
  | .im d :: as, 0, h => by simp at h
  | .im d :: as, i + 1, h => by simp only [slotsOf]; exact slotsOf_mem (i := i) (by simpa using h)
  | .sl k :: as, 0, h => by simp at h; simp [slotsOf, h]
  | .sl k :: as, i + 1, h => by simp only [slotsOf, List.mem_cons]; exact .inr (slotsOf_mem (i := i) (by simpa using h))
/-- each resolved argument -/
theorem resolve_get {e : En} : ∀ {as : List PArg} {es : List Sl} {i : Nat} {s : Sl}, resolve e as = some es → es[i]? = some s →
    (∃ d, as[i]? = some (.im d) ∧ s = .im d) ∨ (∃ j, as[i]? = some (.sl j) ∧ e[j]? = some (some s) ∧ s.own = true)
  | [], es, i, s, h, h2 => by cases h; simp at h2
  | .im d :: as, es, i, s, h, h2 => by
    simp only [resolve, Option.map_eq_some_iff] at h
    obtain ⟨r, h1, rfl⟩ := h
    cases i with
    | zero => exact .inl ⟨d, rfl, by simpa using h2.symm⟩
    | succ i => simpa using resolve_get (i := i) h1 (by simpa using h2)
  | .sl j :: as, es, i, s, h, h2 => by
    simp only [resolve] at h
    split at h
    · rename_i t ht
      split at h
      · rename_i ho
        rw [Option.map_eq_some_iff] at h
        obtain ⟨r, h1, rfl⟩ := h
        cases i with
        | zero =>
          have e2 : t = s := by simpa using h2
          subst e2
          exact .inr ⟨j, rfl, ht, ho⟩
        | succ i => simpa using resolve_get (i := i) h1 (by simpa using h2)
      · cases h
    · cases h
theorem resolve_length {e : En} : ∀ {as : List PArg} {es : List Sl}, resolve e as = some es → es.length = as.length
  | [], es, h => by cases h; rfl
  | .im d :: as, es, h => by
    simp only [resolve, Option.map_eq_some_iff] at h
    obtain ⟨r, h1, rfl⟩ := h
    simp [resolve_length h1]
  | .sl j :: as, es, h => by
    simp only [resolve] at h
    split at h
    · split at h
      · rw [Option.map_eq_some_iff] at h
        obtain ⟨r, h1, rfl⟩ := h
        simp [resolve_length h1]
      · cases h
    · cases h
theorem PAll.get {O : Addr → Prop} {σ : Sg} {H : Hp} : ∀ {vs : List V} {as : List PArg} {i : Nat} {a : PArg}, PAll K O σ H vs as → as[i]? = some a → ∃ v, vs[i]? = some v ∧ PAt K O σ H v a
  | _, _, _, _, .nil, h => by simp at h
  | _, _, 0, _, .cons p _, h => by simp at h; subst h; exact ⟨_, rfl, p⟩
  | _, _, i + 1, a, .cons _ r, h => by
    obtain ⟨v, h1, h2⟩ := PAll.get (i := i) (a := a) r (by simpa using h)
    exact ⟨v, by simpa using h1, h2⟩
theorem PAll.length {O : Addr → Prop} {σ : Sg} {H : Hp} : ∀ {vs : List V} {as : List PArg}, PAll K O σ H vs as → vs.length = as.length
  | _, _, .nil => rfl
  | _, _, .cons _ r => congrArg (· + 1) r.length
structure ArgsOk (K : PySem.W.Frag) (np : List Nat) (O : Addr → Prop) (H : Hp) (vs : List V) (es : List Sl) : Prop where
  len : vs.length = es.length
  od : Od O H
  arg : ∀ (i : Nat) (s : Sl), es[i]? = some s → ∃ v : V, vs[i]? = some v ∧ SlotR K O H v s
  dist : ∀ (i j : Nat) (a : Addr) (s t : Sl), es[i]? = some s → s.own = true → vs[i]? = some (.ref a) → es[j]? = some t → t.own = true → vs[j]? = some (.ref a) → i = j
  np : ∀ (i : Nat) (s : Sl), es[i]? = some s → s.own = true → i ∈ np
def argOwn (vs : List V) (es : List Sl) (a : Addr) : Prop := ∃ (i : Nat) (s : Sl), es[i]? = some s ∧ s.own = true ∧ vs[i]? = some (.ref a)
structure HeapOk (K : PySem.W.Frag) (O O' : Addr → Prop) (H H' : Hp) (vs : List V) (es es' : List Sl) : Prop where
  keep : ∀ a o, H a = some o → ¬ argOwn vs es a → H' a = some o
  dom : ∀ a, H' a = none → H a = none
  args : ∀ (i : Nat) (s : Sl), es[i]? = some s → s.own = true → ∃ (s' : Sl) (v : V), es'[i]? = some s' ∧ s'.own = true ∧ vs[i]? = some v ∧ SlotR K O' H' v s'
def CallOk (K : PySem.W.Frag) (fr : Bool) (O : Addr → Prop) (H : Hp) (vs : List V) (es es' : List Sl) (v : V) (d : D) (H' : Hp) : Prop :=
  HeapOk K O O H H' vs es es' ∧ At K O H' v d ∧ (fr = true → ∀ ds, d = .list ds → ∃ (a : Addr) (xs : List V), v = .ref a ∧ H a = none ∧ ¬ O a ∧ H' a = some (.lst xs) ∧ AtAll K (plus O a) H' xs ds ∧ HeapOk K O (plus O a) H H' vs es es')
abbrev FD := List Sl → R (List Sl) (D × List Sl)
def spD (K : PySem.W.Frag) (ca : Str → Addr) (np : List Nat) (fr : Bool) (F : FD) : Sp := fun vs H Q E => ∃ (es : List Sl) (O : Addr → Prop), ArgsOk K np O H vs es ∧
  (F es).post (fun p => ∀ v H', CallOk K fr O H vs es p.2 v p.1 H' → Q v H') (fun x es' => ∀ cls dp H', HeapOk K O O H H' vs es es' → ExnAt K O H' ca x cls dp → E cls dp H')
def spDT (K : PySem.W.Frag) (ca : Str → Addr) (np : List Nat) (fr : Bool) (T : Hp → (Addr → Prop) → V → Hp → D → Prop) (F : FD) : Sp := fun vs H Q E => ∃ (es : List Sl) (O : Addr → Prop), ArgsOk K np O H vs es ∧
  (F es).post (fun p => ∀ v H', CallOk K fr O H vs es p.2 v p.1 H' → T H O v H' p.1 → Q v H') (fun x es' => ∀ cls dp H', HeapOk K O O H H' vs es es' → ExnAt K O H' ca x cls dp → E cls dp H')
/-- a def by its level, by the guards too -/
structure FnG (P : Program) (w : World) (K : PySem.W.Frag) (mg : Str → Option Value) (base : Heap) (k : Nat) (f : Addr) (fd : FuncData) (ps : List Str) (sp : Sp) : Prop where
  run : ∀ (A : Around) (outer : List Env) (s : Shared) (H : Hp) (args : Args) (us : List Value) (vs : List V) (Q : VK) (E : XK), Room k A → A.guards = some [] → Env0 P w K mg base A outer s H → BindsTo s fd args (ps.zip us) → Vals vs us → vs.length = ps.length → sp vs H Q E →
    codeAny (model P w) A (.call (.ref f) args) (CR (L2.CX P w) outer P w H s Q E) s
theorem FnG.mono {P : Program} {w : World} {mg : Str → Option Value} {base : Heap} {j k : Nat} {f : Addr} {fd : FuncData} {ps : List Str} {sp : Sp} (F : FnG P w K mg base j f fd ps sp) (h : j ≤ k) : FnG P w K mg base k f fd ps sp :=
  ⟨fun A outer s H args us vs Q E hr => F.run A outer s H args us vs Q E (hr.mono h)⟩
section
variable {X : Cx} {z : Z} {k : Nat} {f : Addr} {fd : FuncData} {ps : List Str} {sp : Sp} {E : Sg → XK} {x : Str} {p pos : Pos} {e : Expr} {es : List Expr} {t : TA}
theorem run_fnG {pins : List (Addr × Obj)} {σ : Sg} {H : Hp} {s : Shared} {Q : VK} {us : List Value} {vs : List V} (F : FnG X.prog X.w X.K X.mg X.base k f fd ps sp) (hr : Room k X.A) (hg : X.A.guards = some []) (hb : Binds X.K fd ps []) (hx : PassesAt (L2.CX X.prog X.w) X σ (E σ))
    (I : Inv X pins σ H s) (r : Vals vs us) (hl : vs.length = ps.length) (h : sp vs H Q (E σ)) : wpAny (model X.prog X.w) X.A (call (.ref f) us) (EP X pins σ Q) X.xe s := by
  have hl' : us.length = ps.length := by rw [← r.length]; exact hl
  have b := hb s us I.kIn (by rw [List.append_nil]; exact hl')
  rw [List.append_nil] at b
  refine wpAny_call (codeAny_mono (F.run X.A X.stack s H ⟨us, []⟩ us vs Q (E σ) hr hg I.env0 b r hl h) fun r s' hq => ?_)
  cases r with
  | error e => exact hx pins H s e s' I hq
  | ok fl =>
    cases fl with
    | ret u => exact I.after hq
    | next => exact False.elim hq
    | brk => exact False.elim hq
    | cont => exact False.elim hq
def tCallG (n : Nat) (sp : Sp) (E : Sg → XK) (t : TA) : TE := fun σ H Q => t σ H fun vs H1 => vs.length = n ∧ sp vs H1 Q (E σ)
theorem pe_callG (F : FnG X.prog X.w X.K X.mg X.base k f fd ps sp) (hr : Room k X.A) (hgd : X.A.guards = some []) (hg : Gl X x) (hm : X.mg x = some (.ref f)) (hk : PySem.W.keepIn X.K (.ref f) = true) (hb : Binds X.K fd ps []) (hx : ∀ σ, PassesAt (L2.CX X.prog X.w) X σ (E σ))
    (ha : PA X (e :: es) t) (hdb : (x == ("__debug__" : Str)) = false := by decide) (he : starEach (e :: es) X.env = (false, eval e X.env) :: starEach es X.env := by rfl) (hpl : (backTo pos (starEach es X.env)).any (·.1) = false := by rfl) :
    PE X (.Call (.Name x p) (e :: es) [] pos) (tCallG ps.length sp E t) := by
  refine ⟨fun pins s σ H Q I h => ?_⟩
  refine wpAny_Call_Name_kw (ld_glob I hg hm ?_ hdb)
  refine PySem.W.callWith_K (h₀ := X.base) I.ok.mod.kin hk (thn (ha.run pos pins s σ H _ I h) fun us s1 ⟨vs, H1, I1, r, q⟩ => ⟨I1.kIn, ?_⟩) he hpl
  exact run_fnG F hr hgd hb (hx σ) I1 r q.1 q.2
end
end DL
namespace DL
open PySem PySem.Spec PyProof.Rows L2
variable {K : PySem.W.Frag}
def okNp (np : List Nat) : Nat → List Sl → Bool
  | _, [] => true
  | i, s :: r => (!s.own || np.contains i) && okNp np (i + 1) r
theorem okNp_get {np : List Nat} : ∀ {k : Nat} {es : List Sl} {i : Nat} {s : Sl}, okNp np k es = true → es[i]? = some s → s.own = true → k + i ∈ np
  | _, [], _, _, _, h, _ => by simp at h
  | k, t :: r, 0, s, h, h2, ho => by
    have e : t = s := by simpa using h2
    subst e
    simp only [okNp, Bool.and_eq_true, Bool.or_eq_true, Bool.not_eq_true', ho] at h
    rcases h.1 with h | h
    · cases h
    · simpa using h
  | k, t :: r, i + 1, s, h, h2, ho => by
    simp only [okNp, Bool.and_eq_true] at h
    have := okNp_get (k := k + 1) (i := i) h.2 (by simpa using h2) ho
    have e : k + 1 + i = k + (i + 1) := by omega
    rw [← e]; exact this
def fCallF (n : Nat) (np : List Nat) (F : FD) (g : En → R En (List PArg × En)) : EF := fun env => (g env).bind fun p => match resolve p.2 p.1 with
  | some es => if p.1.length = n ∧ (slotsOf p.1).Nodup ∧ okNp np 0 es = true then match F es with
      | .ok (d, es') => .ok (d, back p.1 es' p.2)
      | .err x es' => .err x (back p.1 es' p.2)
      | .stuck => .stuck
    else .stuck
  | none => .stuck
section
variable {np : List Nat} {B : Bs} {σ : Sg} {H H' : Hp} {env : En} {vs : List V} {as : List PArg} {es es' : List Sl} {O' : Addr → Prop}
theorem argOwn_owned (hr : resolve env as = some es) (pa : PAll K (B.O σ env) σ H vs as) {a : Addr} (h : argOwn vs es a) : ∃ j, j ∈ slotsOf as ∧ ownedAt σ env j a := by
  obtain ⟨i, s, h1, h2, h3⟩ := h
  rcases resolve_get hr h1 with ⟨d, q1, rfl⟩ | ⟨j, q1, q2, _⟩
  · cases h2
  · obtain ⟨v, e1, e2⟩ := pa.get q1
    rw [h3] at e1
    cases e1
    exact ⟨j, slotsOf_mem q1, s, q2, h2, e2⟩
theorem args_ok (I : SR K np B σ H env) (hr : resolve env as = some es) (hn : (slotsOf as).Nodup) (pa : PAll K (B.O σ env) σ H vs as) {np' : List Nat} (hnp : okNp np' 0 es = true) : ArgsOk K np' (B.O σ env) H vs es where
  len := by rw [pa.length, resolve_length hr]
  od := I.od
  arg := fun i s h => by
    rcases resolve_get hr h with ⟨d, q1, rfl⟩ | ⟨j, q1, q2, _⟩
    · obtain ⟨v, e1, e2⟩ := pa.get q1
      exact ⟨v, e1, e2⟩
    · obtain ⟨v, e1, e2⟩ := pa.get q1
      obtain ⟨u, e3, q⟩ := I.slot j s q2
      have e2 : σ[j]? = some (some v) := e2
      rw [e2] at e3
      cases e3
      exact ⟨v, e1, q⟩
  dist := fun i j a s t h1 h2 h3 h4 h5 h6 => by
    rcases resolve_get hr h1 with ⟨d, q1, rfl⟩ | ⟨k, q1, q2, _⟩
    · cases h2
    rcases resolve_get hr h4 with ⟨d, q3, rfl⟩ | ⟨l, q3, q4, _⟩
    · cases h5
    obtain ⟨v, e1, e2⟩ := pa.get q1
    obtain ⟨u, e3, e4⟩ := pa.get q3
    rw [h3] at e1
    cases e1
    rw [h6] at e3
    cases e3
    have := I.dist k l a ⟨s, q2, h2, e2⟩ ⟨t, q4, h5, e4⟩
    subst this
    have key : ∀ {as : List PArg} {i j : Nat}, (slotsOf as).Nodup → as[i]? = some (.sl k) → as[j]? = some (.sl k) → i = j := by
      intro as
      induction as with
      | nil => intro i j _ h; simp at h
      | cons a r ih =>
        intro i j hn h1 h2
        cases a with
        | im d =>
          cases i with
          | zero => simp at h1
          | succ i =>
            cases j with
            | zero => simp at h2
            | succ j => exact congrArg (· + 1) (ih (i := i) (j := j) hn (by simpa using h1) (by simpa using h2))
        | sl m =>
          simp only [slotsOf, List.nodup_cons] at hn
          cases i with
          | zero =>
            have e : m = k := by simpa using h1
            cases j with
            | zero => rfl
            | succ j => exact absurd (slotsOf_mem (i := j) (by simpa using h2)) (e ▸ hn.1)
          | succ i =>
            cases j with
            | zero =>
              have e : m = k := by simpa using h2
              exact absurd (slotsOf_mem (i := i) (by simpa using h1)) (e ▸ hn.1)
            | succ j => exact congrArg (· + 1) (ih (i := i) (j := j) hn.2 (by simpa using h1) (by simpa using h2))
    exact key hn q1 q3
  np := fun i s h ho => by
    have := okNp_get hnp h ho
    simpa using this
theorem called_slots (I : SR K np B σ H env) (hr : resolve env as = some es) (hn : (slotsOf as).Nodup) (pa : PAll K (B.O σ env) σ H vs as) (hO : ∀ a, O' a → B.O σ env a ∨ H a = none) (hO2 : ∀ a, B.O σ env a → O' a) (hk : HeapOk K (B.O σ env) O' H H' vs es es') :
    (∀ j a, ownedAt σ (back as es' env) j a ↔ ownedAt σ env j a) ∧ Clean K O' σ H' (back as es' env) ∧ Mv (B.O σ env) O' H H' := by
  have m : Mv (B.O σ env) O' H H' := ⟨fun a o e n => hk.keep a o e fun w => by
    obtain ⟨j, _, q⟩ := argOwn_owned hr pa w
    exact n (.inr ⟨j, q⟩), hO, hk.dom⟩
  -- what stands in a slot that was handed over
  have inS : ∀ {j : Nat}, j ∈ slotsOf as → ∃ (i : Nat) (s s' : Sl) (v : V), env[j]? = some (some s) ∧ s.own = true ∧ (back as es' env)[j]? = some (some s') ∧ s'.own = true ∧ σ[j]? = some (some v) ∧ SlotR K O' H' v s' := fun {j} hj => by
    obtain ⟨i, q⟩ := mem_slotsOf hj
    have hi : i < as.length := (List.getElem?_eq_some_iff.mp q).1
    have hi2 : i < es.length := by rw [resolve_length hr]; exact hi
    have hes : es[i]? = some es[i] := List.getElem?_eq_getElem hi2
    rcases resolve_get hr hes with ⟨d, q1, _⟩ | ⟨k, q1, q2, q3⟩
    · rw [q] at q1; cases q1
    · rw [q] at q1
      cases q1
      obtain ⟨s', v, h1, h2, h3, h4⟩ := hk.args i _ hes q3
      obtain ⟨u, e1, e2⟩ := pa.get q
      rw [h3] at e1
      cases e1
      exact ⟨i, _, s', v, q2, q3, back_in hn q h1 (List.getElem?_eq_some_iff.mp q2).1, h2, e2, h4⟩
  have ow : ∀ j a, ownedAt σ (back as es' env) j a ↔ ownedAt σ env j a := fun j a => by
    by_cases hj : j ∈ slotsOf as
    · obtain ⟨i, s, s', v, q1, q2, q3, q4, q5, q6⟩ := inS hj
      constructor
      · rintro ⟨t, h1, h2, h3⟩
        exact ⟨s, q1, q2, h3⟩
      · rintro ⟨t, h1, h2, h3⟩
        exact ⟨s', q3, q4, h3⟩
    · constructor
      · rintro ⟨t, h1, h2, h3⟩
        exact ⟨t, by rw [back_out hj] at h1; exact h1, h2, h3⟩
      · rintro ⟨t, h1, h2, h3⟩
        exact ⟨t, by rw [back_out hj]; exact h1, h2, h3⟩
  refine ⟨ow, fun j t h => ?_, m⟩
  by_cases hj : j ∈ slotsOf as
  · obtain ⟨i, s, s', v, q1, q2, q3, q4, q5, q6⟩ := inS hj
    rw [q3] at h
    cases h
    exact ⟨v, q5, q6⟩
  · rw [back_out hj] at h
    obtain ⟨v, e, q⟩ := I.slot j t h
    refine ⟨v, e, q.mv m (fun a ea ho => hO2 a (.inr ⟨j, t, h, ho, ea ▸ e⟩)) fun a o ea ho z => hk.keep a o z fun w => ?_⟩
    obtain ⟨l, hl, q'⟩ := argOwn_owned hr pa w
    exact hj (I.dist l j a q' ⟨t, h, ho, ea ▸ e⟩ ▸ hl)
theorem SR.called (I : SR K np B σ H env) (hr : resolve env as = some es) (hn : (slotsOf as).Nodup) (pa : PAll K (B.O σ env) σ H vs as) (hk : HeapOk K (B.O σ env) (B.O σ env) H H' vs es es') :
    SR K np B σ H' (back as es' env) ∧ Mv (B.O σ env) (B.O σ (back as es' env)) H H' ∧ ∀ a, B.O σ (back as es' env) a ↔ B.O σ env a := by
  obtain ⟨ow, cl, m⟩ := called_slots I hr hn pa (fun a h => .inl h) (fun a h => h) hk
  have eO : ∀ a, B.O σ (back as es' env) a ↔ B.O σ env a := fun a => ⟨fun w => w.elim .inl fun ⟨j, q⟩ => .inr ⟨j, (ow j a).1 q⟩, fun w => w.elim .inl fun ⟨j, q⟩ => .inr ⟨j, (ow j a).2 q⟩⟩
  have nArg : ∀ a, (∀ i, ¬ ownedAt σ env i a) → ¬ argOwn vs es a := fun a h w => by
    obtain ⟨j, _, q⟩ := argOwn_owned hr pa w
    exact h j q
  refine ⟨⟨by rw [back_length]; exact I.len, fun j t h => ?_, fun i j a h1 h2 => I.dist i j a ((ow i a).1 h1) ((ow j a).1 h2), fun a o h n => ?_, fun a h => I.dom a (hk.dom a h), fun i a h => I.new i a ((ow i a).1 h), fun a h => ⟨fun w => (I.o0 a h).1 (hk.dom a w), (I.o0 a h).2⟩, fun a o h => ?_, fun i a h => I.kpo i a ((ow i a).1 h), fun i a h => I.own0 i a ((ow i a).1 h), fun p hp => ?_, I.fix⟩, m.trans (Mv.less fun a => (eO a).1), eO⟩
  · obtain ⟨v, e, q⟩ := cl j t h
    exact ⟨v, e, q.mv (Mv.less fun a => (eO a).1) (fun a ea ho => .inr ⟨j, t, h, ho, ea ▸ e⟩) fun _ _ _ _ z => z⟩
  · refine hk.keep a o (I.keep a o h n) (nArg a fun i q => ?_)
    rcases I.new i a q with w | w
    · exact n _ w rfl
    · rw [w] at h; cases h
  · refine hk.keep a o (I.kept a o h) (nArg a fun i q => ?_)
    rw [I.kpo i a q] at h; cases h
  · obtain ⟨h1, h2, h3⟩ := I.par p hp
    exact ⟨(ow _ _).2 h1, h2, h3⟩
end
theorem ExnAt.mv {O O' : Addr → Prop} {H : Hp} {ca : Str → Addr} {x : Exn} {cls : Value} {dp : Option Addr} (h : ExnAt K O H ca x cls dp) (hl : ∀ a, O' a → O a) : ExnAt K O' H ca x cls dp := by
  obtain ⟨e, h⟩ := h
  refine ⟨e, ?_⟩
  cases q : x.dat with
  | nil => rw [q] at h; exact h
  | cons f fs =>
    rw [q] at h
    obtain ⟨d, vs, h1, h2, h3, h4⟩ := h
    exact ⟨d, vs, h1, ⟨h2.1, fun z => h2.2 (hl d z)⟩, h3, AtAll.mv (Mv.less hl) h4⟩
section
variable {X : Cx} {z : Z} {k : Nat} {f : Addr} {fd : FuncData} {ps : List Str} {x : Str} {p pos : Pos} {e : Expr} {es : List Expr}
theorem de_call {np' : List Nat} {fr : Bool} {F : FD} {g : En → R En (List PArg × En)} (G : FnG X.prog X.w X.K X.mg X.base k f fd ps (spD X.K z.ca np' fr F)) (hr : Room k X.A) (hgd : X.A.guards = some []) (hg : Gl X x) (hm : X.mg x = some (.ref f)) (hk : PySem.W.keepIn X.K (.ref f) = true) (hb : Binds X.K fd ps [])
    (tk : Takes X z.W) (ha : DC z X (e :: es) g) (hdb : (x == ("__debug__" : Str)) = false := by decide) (he : starEach (e :: es) X.env = (false, eval e X.env) :: starEach es X.env := by rfl) (hpl : (backTo pos (starEach es X.env)).any (·.1) = false := by rfl) :
    DE z X fr (.Call (.Name x p) (e :: es) [] pos) (fCallF ps.length np' F g) := by
  refine de_imp (pe_callG G hr hgd hg hm hk hb (fun σ => passAt tk σ) ha hdb he hpl) fun B env σ H Q I hp => ?_
  refine ⟨B, env, I, (R.post_bind hp).imp (fun p hp vs H1 I1 m1 pa => ?_) fun _ _ q => q⟩
  obtain ⟨as, e1⟩ := p
  dsimp only at hp I1 m1 pa
  split at hp
  · rename_i es hres
    split at hp
    · rename_i hc
      obtain ⟨hlen, hnd, hnp⟩ := hc
      refine ⟨by rw [pa.length]; exact hlen, es, B.O σ e1, args_ok I1 hres hnd pa hnp, ?_⟩
      cases hF : F es with
      | stuck => rw [hF] at hp; exact hp
      | ok q =>
        obtain ⟨d, es'⟩ := q
        rw [hF] at hp
        intro v H' hcall
        obtain ⟨hk1, hk2, hk3⟩ := hcall
        obtain ⟨I2, m2, eO⟩ := I1.called hres hnd pa hk1
        refine hp v H' I2 (m1.trans m2) (At.mv (Mv.less fun a => (eO a).1) hk2) fun hf ds ed => ?_
        obtain ⟨a, xs, e2, na, nO, ha, hx, hh⟩ := hk3 hf ds ed
        obtain ⟨_, cl, _⟩ := called_slots I1 hres hnd pa (fun b w => w.elim .inl fun w => .inr (w ▸ na)) (fun b w => .inl w) hh
        have less : ∀ b, plus (B.O σ (back as es' e1)) a b → plus (B.O σ e1) a b := fun b w => w.elim (fun w => .inl ((eO b).1 w)) .inr
        refine ⟨a, xs, e2, m1.dom a na, fun w => nO ((eO a).1 w), ha, AtAll.mv (Mv.less less) hx, fun j t ht => ?_⟩
        obtain ⟨u, e3, q⟩ := cl j t ht
        exact ⟨u, e3, q.mv (Mv.less less) (fun b eb ho => .inl (.inr ⟨j, t, ht, ho, eb ▸ e3⟩)) fun _ _ _ _ z => z⟩
      | err x es' =>
        rw [hF] at hp
        intro cls dp H' hk1 hx
        obtain ⟨I2, m2, eO⟩ := I1.called hres hnd pa hk1
        exact hp cls dp H' I2 (m1.trans m2) (hx.mv fun a => (eO a).1)
    · exact hp.elim
  · exact hp.elim
/-- within a comprehension's block nothing is let out -/
theorem takes_no : Takes X (fun _ _ _ _ => False) := fun u s' ⟨_, _, _, _, _, _, _, _, _, _, _, _, _, _, _, _, w⟩ => w.elim
end
def backP (n : Nat) (e : En) : List Sl := (e.take n).map fun o => o.getD (.im .none)
def runD (n : Nat) (g : SF) : FD := fun es => match g (es.map some ++ List.replicate (n - es.length) none) with
  | .ok (.rt d e) => .ok (d, backP es.length e)
  | .ok (.nx e) => .ok (.none, backP es.length e)
  | .err x e => .err x (backP es.length e)
  | _ => .stuck
theorem start_get {α : Type} {es : List α} {m i : Nat} {s : α} : (es.map some ++ List.replicate m none)[i]? = some (some s) ↔ es[i]? = some s := by
  by_cases h : i < es.length
  · rw [List.getElem?_append_left (by simpa using h), List.getElem?_map]
    cases es[i]? <;> simp
  · have e2 : es[i]? = none := List.getElem?_eq_none (by omega)
    rw [List.getElem?_append_right (by simpa using h), e2]
    constructor
    · intro q
      rw [List.getElem?_replicate] at q
      split at q
      · cases q
      · cases q
    · intro q; cases q
theorem backP_get {n i : Nat} {e : En} {s : Sl} (hi : i < n) (h : e[i]? = some (some s)) : (backP n e)[i]? = some s := by
  unfold backP
  rw [List.getElem?_map, List.getElem?_take_of_lt hi, h]
  rfl
def psOf (vs : List V) (es : List Sl) : List (Nat × Addr) := (List.range vs.length).filterMap fun i => match es[i]?, vs[i]? with
  | some s, some (V.ref a) => if s.own = true then some (i, a) else none
  | _, _ => none
theorem mem_psOf {vs : List V} {es : List Sl} {p : Nat × Addr} : p ∈ psOf vs es ↔ ∃ s, es[p.1]? = some s ∧ s.own = true ∧ vs[p.1]? = some (.ref p.2) := by
  unfold psOf
  rw [List.mem_filterMap]
  constructor
  · rintro ⟨i, _, h⟩
    split at h
    · rename_i s a h1 h2
      split at h
      · rename_i ho
        cases h
        exact ⟨s, h1, ho, h2⟩
      · cases h
    · cases h
  · rintro ⟨s, h1, h2, h3⟩
    exact ⟨p.1, List.mem_range.mpr (List.getElem?_eq_some_iff.mp h3).1, by rw [h1, h3]; simp [h2]⟩
section
variable {P : Program} {w : World} {mg : Str → Option Value} {base : Heap}
theorem sem_def {ca : Str → Addr} {np : List Nat} {fr : Bool} {T : Hp → (Addr → Prop) → V → Hp → D → Prop} {g : SF} {n : Nat} {vs : List V} {H : Hp} {Q : VK} {E : XK} {N : List Str} (hN : N.length = n) (hl : vs.length ≤ n) (hT0 : ∀ O H', T H O .non H' .none) (h : spDT K ca np fr T (runD n g) vs H Q E) :
    tS K ⟨ca, np, fun c d _ H => E c d H, T⟩ fr g { nx := fun _ H' => Q .non H', rt := Q } (start N vs) H := by
  obtain ⟨es, O, ao, hp⟩ := h
  have hlen := ao.len
  have ow : ∀ i a, ownedAt (start N vs) (es.map some ++ List.replicate (n - es.length) none) i a ↔ (i, a) ∈ psOf vs es := fun i a => by
    rw [mem_psOf]
    constructor
    · rintro ⟨s, h1, h2, h3⟩
      exact ⟨s, start_get.1 h1, h2, start_get.1 h3⟩
    · rintro ⟨s, h1, h2, h3⟩
      exact ⟨s, start_get.2 h1, h2, start_get.2 h3⟩
  have argps : ∀ a, argOwn vs es a ↔ ∃ p ∈ psOf vs es, p.2 = a := fun a => by
    constructor
    · rintro ⟨i, s, h1, h2, h3⟩
      exact ⟨(i, a), mem_psOf.2 ⟨s, h1, h2, h3⟩, rfl⟩
    · rintro ⟨p, hp, rfl⟩
      obtain ⟨s, h1, h2, h3⟩ := mem_psOf.1 hp
      exact ⟨p.1, s, h1, h2, h3⟩
  have argO : ∀ a, argOwn vs es a → O a ∧ ∃ o, H a = some o := fun a ⟨i, s, h1, h2, h3⟩ => by
    obtain ⟨v, e, q⟩ := ao.arg i s h1
    rw [h3] at e
    cases e
    obtain ⟨b, o, e, q1, q2⟩ := q.ref h2
    cases e
    exact ⟨q1, o, q2⟩
  let B : Bs := ⟨fun a => O a ∧ ¬ argOwn vs es a, H, psOf vs es, fun _ => none, []⟩
  have eOp : ∀ a, B.Op a ↔ O a := fun a => by
    constructor
    · rintro (h | h)
      · exact h.1
      · exact (argO a ((argps a).2 h)).1
    · intro h
      by_cases q : argOwn vs es a
      · exact .inr ((argps a).1 q)
      · exact .inl ⟨h, q⟩
  have eO : ∀ a, B.O (start N vs) (es.map some ++ List.replicate (n - es.length) none) a ↔ O a := fun a => by
    constructor
    · rintro (h | ⟨i, h⟩)
      · exact h.1
      · exact (argO a ((argps a).2 ⟨_, (ow i a).1 h, rfl⟩)).1
    · intro h
      by_cases q : argOwn vs es a
      · obtain ⟨p, hp, e⟩ := (argps a).1 q
        exact .inr ⟨p.1, (ow _ _).2 (by rw [← e]; exact hp)⟩
      · exact .inl ⟨h, q⟩
  have I : SR K np B (start N vs) H (es.map some ++ List.replicate (n - es.length) none) := by
    refine ⟨?_, fun i s h => ?_, fun i j a h1 h2 => ?_, fun a o h _ => h, fun a h => h, fun i a h => .inl ((ow i a).1 h), fun a h => ?_, (fun a o h => nomatch h), fun _ _ _ => rfl, fun i a h w => ?_, fun p hp => ?_, fun p hp => (by cases hp)⟩
    · unfold L2.start
      simp only [List.length_append, List.length_map, List.length_replicate]
      omega
    · obtain ⟨v, e, q⟩ := ao.arg i s (start_get.1 h)
      refine ⟨v, start_get.2 e, q.mv (Mv.less fun a => (eO a).1) (fun a ea ho => .inr ⟨i, s, h, ho, start_get.2 (ea ▸ e)⟩) fun _ _ _ _ z => z⟩
    · obtain ⟨s, q1, q2, q3⟩ := mem_psOf.1 ((ow i a).1 h1)
      obtain ⟨t, q4, q5, q6⟩ := mem_psOf.1 ((ow j a).1 h2)
      exact ao.dist i j a s t q1 q2 q3 q4 q5 q6
    · refine ⟨fun e => ao.od a e h.1, fun p hp e => h.2 ((argps a).2 ⟨p, hp, e⟩)⟩
    · exact w.2 ((argps a).2 ⟨_, (ow i a).1 h, rfl⟩)
    · obtain ⟨s, q1, q2, q3⟩ := mem_psOf.1 hp
      refine ⟨(ow _ _).2 hp, fun e => ?_, ao.np p.1 s q1 q2⟩
      obtain ⟨_, o, e2⟩ := argO p.2 ⟨p.1, s, q1, q2, q3⟩
      have e : H p.2 = none := e
      rw [e] at e2; cases e2
  have heapOk : ∀ {σ' : Sg} {H' : Hp} {e : En} {O' : Addr → Prop}, SR K np B σ' H' e → (∀ p ∈ psOf vs es, ∃ s, e[p.1]? = some (some s) ∧ s.own = true ∧ SlotR K O' H' (.ref p.2) s) → HeapOk K O O' H H' vs es (backP es.length e) := fun {σ' H' e O'} J hs =>
    ⟨fun a o h n => J.keep a o h fun p hp q => n ((argps a).2 ⟨p, hp, q⟩), J.dom, fun i s h ho => by
      obtain ⟨v, e1, q⟩ := ao.arg i s h
      obtain ⟨a, o, rfl, q1, q2⟩ := q.ref ho
      obtain ⟨s', h1, h2, h3⟩ := hs (i, a) (mem_psOf.2 ⟨s, h, ho, e1⟩)
      exact ⟨s', .ref a, backP_get (List.getElem?_eq_some_iff.mp h).1 h1, h2, e1, h3⟩⟩
  have parO : ∀ {σ' : Sg} {H' : Hp} {e : En}, SR K np B σ' H' e → ∀ p ∈ psOf vs es, ∃ s, e[p.1]? = some (some s) ∧ s.own = true ∧ SlotR K O H' (.ref p.2) s := fun {σ' H' e} J p hp => by
    obtain ⟨s, h1, h2, h3⟩ := J.parSlot J.slot p hp
    exact ⟨s, h1, h2, h3.mv (Mv.less fun a h => J.op a ((eOp a).2 h)) (fun a ea _ => by cases ea; exact (eOp _).1 (.inr ⟨p, hp, rfl⟩)) fun _ _ _ _ z => z⟩
  refine ⟨B, _, I, ?_⟩
  unfold runD at hp
  cases hg : g (es.map some ++ List.replicate (n - es.length) none) with
  | stuck => rw [hg] at hp; exact hp
  | err x e =>
    rw [hg] at hp
    exact fun cls dp σ' H' J m hx => hp cls dp H' (heapOk J (parO J)) (hx.mv fun a h => J.op a ((eOp a).2 h))
  | ok o =>
    rw [hg] at hp
    cases o with
    | nx e => exact fun σ' H' J m => hp .non H' ⟨heapOk J (parO J), .non, fun _ _ q => nomatch q⟩ (hT0 O H')
    | bk e => exact hp.elim
    | ct e => exact hp.elim
    | rt d e =>
      intro v σ' H' J m ro rt
      rw [show B.Op = O from funext fun a => propext (eOp a)] at rt
      refine hp v H' ⟨heapOk J (parO J), At.mv (Mv.less fun a h => (eOp a).2 h) ro.1, fun hf ds ed => ?_⟩ rt
      obtain ⟨a, xs, e1, na, nO, ha, hx, hpar⟩ := ro.2 hf ds ed
      have less : ∀ b, plus O a b → plus B.Op a b := fun b w => w.elim (fun w => .inl ((eOp b).2 w)) .inr
      refine ⟨a, xs, e1, na, fun w => nO ((eOp a).2 w), ha, AtAll.mv (Mv.less less) hx, heapOk J fun p hp' => ?_⟩
      obtain ⟨s, h1, h2, h3⟩ := hpar p hp'
      exact ⟨s, h1, h2, h3.mv (Mv.less less) (fun b eb _ => by cases eb; exact .inl ((eOp _).1 (.inr ⟨p, hp', rfl⟩))) fun _ _ _ _ z => z⟩
/-- THE RULE of a def -/
theorem fun_okT {T : Hp → (Addr → Prop) → V → Hp → D → Prop} {x qual : Str} {st : Stmt} {f : Addr} {fd : FuncData} {N ps : List Str} {k : Nat} {ca : Str → Addr} {np : List Nat} {fr : Bool} {g : SF} (F : Fun K x qual st f fd) (S : FnScope N ps (defScope st)) (hps : ps.length ≤ N.length) (hT0 : ∀ H O H', T H O .non H' .none)
    (hbody : ∀ (cdv : Value) (A : Around) (outer : List Env) (s : Shared) (H : Hp) (E : XK), Room k (A.deeper (envOfC qual (defScope st) s.heap.objs.size f cdv)) → A.guards = some [] →
      DSs ⟨ca, np, fun c d _ H => E c d H, T⟩ (cxOf (L2.CX P w) P w K mg base N qual (defScope st) f cdv A outer s H E) fr (defBody st) g) :
    FnG P w K mg base (k + 1) f fd ps (spDT K ca np fr T (runD N.length g)) := by
  obtain ⟨oc, od, kV, doc, pm, an, cdv, ct, osl, rfl, lk, hcd⟩ := F.ex
  refine ⟨fun A outer s H args us vs Q E hr hgd e0 hb r hl hsp => ?_⟩
  have KX : K.In s.heap := e0.mod.kin.keeps fun b o e => (e0.bs b o e).1
  have lim : s.heap.NoLimit := e0.mod.nolimit.keeps fun b o e => (e0.bs b o e).1
  have hkind : ∀ y ∈ ps.zip us, (defScope st).names.lookup y.1 = some .local ∨ ((defScope st).names.lookup y.1 = some .cell ∧ ((cellsFrom (s.heap.objs.size + 1) (defScope st).names []).lookup y.1).isSome = true) := fun ⟨n, v⟩ hy => by
    rcases S.par n (List.of_mem_zip hy).1 with q | q
    · exact .inl q
    · exact .inr ⟨q, PySem.W.cellsFrom_some _ _ _ (.inl q)⟩
  refine codeAny_call_function hr.depth (KX _ _ lk) rfl S.co S.gen rfl (PySem.W.codeRec_of KX hcd) (hb _ _ _ _ ?_)
  refine wpAny_newFunctionEnv_cells S.kind hkind fun env he s1 x => ?_
  subst he
  refine ⟨lim.keeps x.toInCall.keep, codeAny_func ?_⟩
  have ht := hbody cdv A outer s H E (hr.deeper _) hgd
  have I : Inv (cxOf (L2.CX P w) P w K mg base N qual (defScope st) f cdv A outer s H E) [] (start N vs) H s1 := inv_start S hr.hd e0 hl r x
  refine wpAny_mono (ht.run [] s1 (start N vs) H _ I (sem_def rfl (by rw [hl]; exact hps) (hT0 H) hsp)) (fun fl s' hs => ?_) fun e s' hs => hs
  have fin : ∀ {σ' : Sg} {H' : Hp} {v : V} {u : Value}, Inv (cxOf (L2.CX P w) P w K mg base N qual (defScope st) f cdv A outer s H E) [] σ' H' s' → RelV v u → Q v H' → CE outer P w H s Q u s' :=
    fun {σ' H' v u} J rv q => ⟨v, H', J.os, J.bare, J.base, J.hok, rv, q⟩
  cases fl with
  | ret u =>
    obtain ⟨v, σ', H', J, rv, q⟩ := hs
    exact fin J rv q
  | next =>
    obtain ⟨σ', H', J, q⟩ := hs
    exact fin (v := V.non) (u := Value.none) J rfl q
  | brk =>
    obtain ⟨_, _, _, q⟩ := hs
    exact False.elim q
  | cont =>
    obtain ⟨_, _, _, q⟩ := hs
    exact False.elim q
theorem FnG.weak {f : Addr} {fd : FuncData} {ps : List Str} {k : Nat} {sp sp' : Sp} (F : FnG P w K mg base k f fd ps sp) (h : ∀ vs H Q E, sp' vs H Q E → sp vs H Q E) : FnG P w K mg base k f fd ps sp' :=
  ⟨fun A outer s H args us vs Q E hr hgd e0 hb r hl hsp => F.run A outer s H args us vs Q E hr hgd e0 hb r hl (h vs H Q E hsp)⟩
theorem spDT_of {ca : Str → Addr} {np : List Nat} {fr : Bool} {T : Hp → (Addr → Prop) → V → Hp → D → Prop} {F : FD} {vs : List V} {H : Hp} {Q : VK} {E : XK} (h : spD K ca np fr F vs H Q E) : spDT K ca np fr T F vs H Q E := by
  obtain ⟨es, O, ao, hp⟩ := h
  exact ⟨es, O, ao, hp.imp (fun p q v H' c _ => q v H' c) fun _ _ q => q⟩
theorem fun_okG {x qual : Str} {st : Stmt} {f : Addr} {fd : FuncData} {N ps : List Str} {k : Nat} {ca : Str → Addr} {np : List Nat} {fr : Bool} {g : SF} (F : Fun K x qual st f fd) (S : FnScope N ps (defScope st)) (hps : ps.length ≤ N.length)
    (hbody : ∀ (cdv : Value) (A : Around) (outer : List Env) (s : Shared) (H : Hp) (E : XK), Room k (A.deeper (envOfC qual (defScope st) s.heap.objs.size f cdv)) → A.guards = some [] →
      DSs ⟨ca, np, fun c d _ H => E c d H, fun _ _ _ _ _ => True⟩ (cxOf (L2.CX P w) P w K mg base N qual (defScope st) f cdv A outer s H E) fr (defBody st) g) :
    FnG P w K mg base (k + 1) f fd ps (spD K ca np fr (runD N.length g)) :=
  (fun_okT (T := fun _ _ _ _ _ => True) F S hps (fun _ _ _ => trivial) hbody).weak fun _ _ _ _ h => spDT_of h
end
end DL
namespace DL
open PySem PySem.Spec PyProof.Rows L2
variable {K : PySem.W.Frag}
section
variable {X : Cx} {z : Z}
theorem dts_nil : PTs X [] (tT X.K z fun env => .ok (true, env)) := ⟨fun pins s σ H Q I ⟨B, env, J, p⟩ => pts_nil.run pins s σ H Q I (p H J .refl)⟩
theorem dts_one {c : Expr} {f : En → R En (Bool × En)} (h : DT z X c f) : PTs X [c] (tT X.K z f) := pts_one h
end
def Lk (K : PySem.W.Frag) (f : Addr) (fd : FuncData) : Prop := ∃ (oc : Value) (od : Option Addr) (osl : Array (Option Value)), K.lookup f = some ⟨oc, od, .func fd, osl⟩
theorem Lk.same {K : PySem.W.Frag} {f : Addr} {fd fd' : FuncData} (h : Lk K f fd) (h' : Lk K f fd') : fd = fd' := by
  obtain ⟨_, _, _, e⟩ := h
  obtain ⟨_, _, _, e'⟩ := h'
  rw [e] at e'
  cases e'
  rfl
theorem lk_of {K : PySem.W.Frag} {x q : Str} {st : Stmt} {f : Addr} {fd : FuncData} (h : Fun K x q st f fd) : Lk K f fd := by
  obtain ⟨oc, od, kV, doc, pm, an, cdv, ct, osl, e, lk, _⟩ := h.ex
  exact ⟨oc, od, osl, lk⟩
def Has (P : Program) (w : World) (K : PySem.W.Frag) (mg : Str → Option Value) (base : Heap) (ca : Str → Addr) (x : Str) (k : Nat) (ps : List Str) (np : List Nat) (fr : Bool) (F : FD) : Prop :=
  ∃ (f : Addr) (fd : FuncData), mg x = some (.ref f) ∧ PySem.W.keepIn K (.ref f) = true ∧ L2.Binds K fd ps [] ∧ FnG P w K mg base k f fd ps (spD K ca np fr F) ∧ Lk K f fd
/-- a def that stands in the text -/
def Stands (K : PySem.W.Frag) (mg : Str → Option Value) (x : Str) (st : Stmt) (ps : List Str) : Prop :=
  ∃ (f : Addr) (fd : FuncData), mg x = some (.ref f) ∧ Fun K x x st f fd ∧ L2.Binds K fd ps []
section
variable {P : Program} {w : World} {mg : Str → Option Value} {base : Heap} {ca : Str → Addr}
theorem Stands.has {x : Str} {st : Stmt} {N ps : List Str} {k : Nat} {np : List Nat} {fr : Bool} {g : SF} {n : Nat} (S : Stands K mg x st ps) (sc : FnScope N ps (defScope st)) (hps : ps.length ≤ N.length) (hn : N.length = n)
    (hbody : ∀ (f : Addr) (cdv : Value) (A : Around) (outer : List Env) (s : Shared) (H : Hp) (E : XK), Room k (A.deeper (envOfC x (defScope st) s.heap.objs.size f cdv)) → A.guards = some [] →
      DSs ⟨ca, np, fun c d _ H => E c d H, fun _ _ _ _ _ => True⟩ (cxOf (L2.CX P w) P w K mg base N x (defScope st) f cdv A outer s H E) fr (defBody st) g) :
    Has P w K mg base ca x (k + 1) ps np fr (runD n g) := by
  obtain ⟨f, fd, h1, h2, h3⟩ := S
  subst hn
  exact ⟨f, fd, h1, h2.kp, h3, fun_okG h2 sc hps fun cdv A outer s H E => hbody f cdv A outer s H E, lk_of h2⟩
end
section
variable {X : Cx} {z : Z} {k j n : Nat} {ps : List Str} {x : Str} {p pos : Pos} {e : Expr} {es : List Expr} {np' : List Nat} {fr : Bool} {F : FD} {g : En → R En (List PArg × En)}
theorem de_callH (h : Has X.prog X.w X.K X.mg X.base z.ca x j ps np' fr F) (hr : Room k X.A) (hj : j ≤ k) (hgd : X.A.guards = some []) (hg : Gl X x) (hn : ps.length = n)
    (tk : Takes X z.W) (ha : DC z X (e :: es) g) (hdb : (x == ("__debug__" : Str)) = false := by decide) (he : starEach (e :: es) X.env = (false, eval e X.env) :: starEach es X.env := by rfl) (hpl : (backTo pos (starEach es X.env)).any (·.1) = false := by rfl) :
    DE z X fr (.Call (.Name x p) (e :: es) [] pos) (fCallF n np' F g) := by
  obtain ⟨f, fd, h1, h2, h3, h4, _⟩ := h
  subst hn
  exact de_call (h4.mono hj) hr hgd hg h1 h2 h3 tk ha hdb he hpl
end
theorem law_callG {P : Program} {w : World} {mg mb : Str → Option Value} {k : Nat} {fa a : Addr} {fd : FuncData} {x : Str} {sp : Sp} {s₁ : Shared} {vs : List Value} {ns : List Int}
    (KX : K.In s₁.heap) (hns : s₁.heap.Ns mainGlobals mg) (hb : s₁.heap.Ns builtinsNs mb) (hbb : ∀ x : Str, x ≠ "__name__" → mb x = bootBuiltins x) (hlim : s₁.heap.NoLimit) (hg : s₁.gens = #[])
    (ha : s₁.heap.get? a = some { cls := .type "list", data := .seq vs.toArray }) (hi : IntsAre vs ns) (hl : ns.length ≤ sizeLine) (hr : Room k callerA)
    (F : ∀ base : Heap, K.In base → base.Ns mainGlobals mg → FnG P w K mg base k fa fd [x] sp) (hbind : L2.Binds K fd [x] [])
    (hsp : ∀ H : Hp, Only H → SqL K H a (ns.map V.int) → sp [.ref a] H (fun v _ => v = .bl true) fun _ _ _ => False)
    (hCX : ∀ H e s', L2.CX P w [] H s₁ (fun _ _ _ => False) e s' → False) :
    codeAny (model P w) callerA (.call (.ref fa) ⟨[.ref a], []⟩) (fun r s' => r = .ok (.ret (.bool true)) ∧ OldK s₁.heap s'.heap ∧ s'.os = s₁.os ∧ AllBare s'.gens) s₁ := by
  have rv := vals_ints hi
  have lenV := hi.length
  have core : ∀ H : Hp, Only H → SqL K H a (ns.map V.int) → HOk P w H s₁.heap → (∀ b, H b ≠ none → b = a) → (H a ≠ none → K.lookup a = none) →
      codeAny (model P w) callerA (.call (.ref fa) ⟨[.ref a], []⟩) (fun r s' => r = .ok (.ret (.bool true)) ∧ OldK s₁.heap s'.heap ∧ s'.os = s₁.os ∧ AllBare s'.gens) s₁ := by
    intro H hO hS hok hA hK
    have base_of : ∀ {b : Addr} {o : Obj}, s₁.heap.get? b = some o → H b = none → (hidT s₁.heap H).get? b = some o := fun e n => hidT_get e n
    have noA : ∀ {b : Addr} {o : Obj} {es : Array DictEntry} {ep : Nat}, s₁.heap.get? b = some o → o.data = .dict es ep → H b = none := fun {b o es ep} e d => by
      cases q : H b with
      | none => rfl
      | some u =>
        have e' : b = a := hA b (by rw [q]; simp)
        subst e'
        rw [ha] at e; cases e
        have d' : Data.seq vs.toArray _ = Data.dict es ep := d
        cases d'
    have nsK : ∀ {b : Addr} {m : Str → Option Value}, s₁.heap.Ns b m → (hidT s₁.heap H).Ns b m := fun {b m} ⟨o, es, ep, e, d, r⟩ => ⟨o, es, ep, base_of e (noA e d), d, r⟩
    have hKb : K.In (hidT s₁.heap H) := fun b o e => base_of (KX b o e) (by
      cases q : H b with
      | none => rfl
      | some u =>
        have e' : b = a := hA b (by rw [q]; simp)
        subst e'
        rw [hK (by rw [q]; simp)] at e; cases e)
    have hM : Mod K mg (hidT s₁.heap H) := ⟨hKb, nsK hns, ⟨mb, nsK hb, hbb⟩, let ⟨mc, h1, h2⟩ := hlim; ⟨mc, nsK h1, h2⟩⟩
    have e0 : Env0 P w K mg (hidT s₁.heap H) callerA [] s₁ H := ⟨rfl, hM, fun b o e => of_hidT e, Nat.le_of_eq (hidT_size _ _), trivial, fun b hb => absurd (show b ∈ ([] : List Addr) from hb) (by simp), hok, .of_eq hg⟩
    refine codeAny_mono ((F _ hKb (nsK hns)).run callerA [] s₁ H ⟨[.ref a], []⟩ [.ref a] [.ref a] _ _ hr rfl e0 (hbind s₁ [.ref a] KX rfl) (.cons rfl .nil) rfl (hsp H hO hS)) fun r s' h => ?_
    cases r with
    | error e => exact (hCX H e s' h).elim
    | ok fl =>
      cases fl with
      | next => exact False.elim h
      | brk => exact False.elim h
      | cont => exact False.elim h
      | ret u =>
        obtain ⟨v, H', os, bare, un, hok', r', q⟩ := h
        have q' : v = .bl true := q
        subst q'
        obtain rfl : u = Value.bool true := r'
        refine ⟨rfl, OldK.of_keep fun b o e => ?_, os, bare⟩
        cases q : H b with
        | none => exact un.keep b o e q (by intro z; exact absurd (show b ∈ ([] : List Addr) from z) (by simp)) (by simp)
        | some u =>
          rcases hO b with z | ⟨ob, xs, z⟩
          · rw [q] at z; cases z
          · have z2 := un.frzs b ob _ z
            obtain ⟨e1, _⟩ := hok b _ z
            obtain ⟨e2, _⟩ := hok' b _ z2
            rw [e] at e1; cases e1
            exact e2
  cases hk : K.lookup a with
  | some o =>
    have e := KX a o hk
    rw [ha] at e
    cases e
    refine core (fun _ => none) (fun _ => .inl rfl) (.inr ⟨_, vs.toArray, _, hk, rfl, rfl, rfl, by rw [List.size_toArray, lenV]; exact hl, by simpa using rv⟩) (fun b u z => by have z' : (none : Option HO) = some u := z; cases z') (fun b z => absurd rfl z) fun z => absurd rfl z
  | none =>
    refine core (fun b => if b = a then some (.frz { cls := .type "list", data := .seq vs.toArray } (.lst (ns.map V.int))) else none) (fun b => ?_) (.inl (.inr ⟨{ cls := .type "list", data := .seq vs.toArray }, if_pos rfl⟩)) (fun b u z => ?_) (fun b z => ?_) fun _ => hk
    · by_cases hb : b = a
      · exact .inr ⟨_, _, if_pos hb⟩
      · exact .inl (if_neg hb)
    · by_cases hb : b = a
      · have z' := (if_pos hb).symm.trans z
        cases z'
        subst hb
        exact ⟨ha, by rw [List.length_map]; exact hl, vs, _, rv, ha⟩
      · have z' := (if_neg hb).symm.trans z
        cases z'
    · by_cases hb : b = a
      · exact hb
      · exact absurd (if_neg hb) z
theorem walk_ofG {l : PySem.W.OpenLaw} {n k m : Nat} {q : Program} {loose : List Str} {XP : (Str → Option Value) → Heap → Prop} {YP : World → Heap → Prop} {d : DefRec} {K : Params → PySem.W.Frag} {x : Str} {g : SF} {fr : Bool}
    (hn : l.most = some n) (hn2 : n ≤ sizeLine) (hdf : d.params.defaults = []) (hr : Room k callerA)
    (hY : ∀ (w : World) (h : Heap), YP w h → (K w.params).In h)
    (F : ∀ (w : World) (mg : Str → Option Value) (fa : Addr) (h : Heap), (K w.params).In h → h.Ns mainGlobals mg → mg d.name = some (.ref fa) →
      ∃ (fd : FuncData) (ca : Str → Addr), L2.Binds (K w.params) fd [x] [] ∧
        ∀ base : Heap, (K w.params).In base → base.Ns mainGlobals mg → FnG l.prog w (K w.params) mg base k fa fd [x] (spD (K w.params) ca [] fr (runD m g)))
    (hlaw : ∀ ns : List Int, ns.length ≤ n → ∃ es', runD m g [.im (.list (ns.map .int))] = .ok (.bool true, es')) :
    PySem.W.WalkO q loose XP YP l.row.toRowW d [] (fun f vs => PySem.call f vs) := by
  refine Att.attach_call hn hdf fun w s₀ s₁ mg mb fa o pm cd doc a vs ns G Y ho hd hcd hmg hobj hints hlen hg => ?_
  have KX := hY w _ Y
  obtain ⟨fd, ca, hb, hF⟩ := F w mg fa _ KX G.T.g hmg
  refine law_callG KX G.T.g G.T.b G.T.builtins G.T.nolimit hg hobj hints (Nat.le_trans hlen hn2) hr hF hb (fun H hO hS => ?_) fun H e s' h => ?_
  · refine ⟨[.im (.list (ns.map .int))], fun _ => False, ⟨rfl, fun _ _ h => h, fun i s h => ?_, fun i j a s t h1 h2 => ?_, fun i s h1 h2 => ?_⟩, ?_⟩
    · cases i with
      | zero =>
        have e : Sl.im (.list (ns.map .int)) = s := by simpa using h
        subst e
        exact ⟨_, rfl, .lst ⟨hS, fun z => z.elim⟩ (.of_ints ns)⟩
      | succ i => simp at h
    · cases i with
      | zero => cases h1; cases h2
      | succ i => simp at h1
    · cases i with
      | zero => cases h1; cases h2
      | succ i => simp at h1
    · obtain ⟨es', e⟩ := hlaw ns hlen
      rw [e]
      intro v H' hc
      obtain ⟨_, ha, _⟩ := hc
      cases ha
      rfl
  · obtain ⟨_, _, _, _, _, _, _, _, _, _, _, _, hE⟩ := h
    exact hE
theorem has_fit {P : Program} {w : World} {K : PySem.W.Frag} {mg : Str → Option Value} {x : Str} {st : Stmt} {ps : List Str} {k : Nat} {np : List Nat} {fr : Bool} {F : FD} {fa : Addr} {ca : Str → Addr} (S : Stands K mg x st ps)
    (H : ∀ base : Heap, K.In base → base.Ns mainGlobals mg → Has P w K mg base ca x k ps np fr F) (hmg : mg x = some (.ref fa)) :
    ∃ (fd : FuncData) (ca' : Str → Addr), L2.Binds K fd ps [] ∧ ∀ base : Heap, K.In base → base.Ns mainGlobals mg → FnG P w K mg base k fa fd ps (spD K ca' np fr F) := by
  obtain ⟨fl, fdl, e1, e2, e3⟩ := S
  have e4 : fl = fa := by have := e1.symm.trans hmg; cases this; rfl
  subst e4
  refine ⟨fdl, ca, e3, fun base hb1 hb2 => ?_⟩
  obtain ⟨f2, fd2, q1, q2, q3, q4, q5⟩ := H base hb1 hb2
  have e5 : f2 = fl := by have := q1.symm.trans e1; cases this; rfl
  subst e5
  have e6 := q5.same (lk_of e2)
  subst e6
  exact q4
abbrev FrX {K : PySem.W.Frag} {h : PySem.Heap} (_ : K.In h) : PySem.W.Frag := K
end DL
namespace DL
open PySem PySem.Spec PyProof.Rows L2
variable {K : PySem.W.Frag}
section
variable {X : Cx} {z : Z} {e : Expr} {es : List Expr}
theorem u65 {k : Nat} {A : Around} (r : Room k A) : A.units + 65 < cLine := by have := r.un; omega
theorem SR.owDp {np : List Nat} {B : Bs} {σ : Sg} {H : Hp} {env : En} (I : SR K np B σ H env) {i : Nat} {ds : List D} (h : env[i]? = some (some (.ow ds))) : ∃ a xs, σ[i]? = some (some (V.ref a)) ∧ H a = some (.lst xs) ∧ (SeqAt.shaped (.list ds) = true → Dp K H (.ref a) (.list ds)) := by
  obtain ⟨a, xs, e, _, hH, r⟩ := I.ow h
  exact ⟨a, xs, e, hH, fun hs => .lst (SqL.of hH) (r.dp (by simpa only [PyData.canLay0] using SeqAt.canLay_of_shaped hs))⟩
/-- own list (left) compared -/
def fOpL (i : Nat) (h : D → D → Option D) (g : EF) : EF := fun env => match env[i]? with
  | some (some (.ow _)) => (g env).bind fun q => match q.2[i]? with
    | some (some (.ow ds)) => (ofO (h (.list ds) q.1)).bind fun r => .ok (r, q.2)
    | _ => .stuck
  | _ => .stuck
def fOpR (i : Nat) (h : D → D → Option D) (f : EF) : EF := fun env => (f env).bind fun q => match q.2[i]? with
    | some (some (.ow ds)) => (ofO (h q.1 (.list ds))).bind fun r => .ok (r, q.2)
    | _ => .stuck
/-- a comparison that only looks -/
def OpB (X : Cx) (f : Value → Value → Sem Value) (h : D → D → Option D) : Prop :=
  ∃ r : R2, OpR X f r ∧ ∀ (H : Hp) (x y : V) (d e w : D) (Q : VK), (SeqAt.shaped d = true → Dp X.K H x d) → (SeqAt.shaped e = true → Dp X.K H y e) → h d e = some w → (∀ b, w = .bool b → Q (.bl b) H) → (∃ b, w = .bool b) → r x y H Q
theorem eqD_inv {d e w : D} (h : eqD d e = some w) : SeqAt.shaped d = true ∧ SeqAt.shaped e = true ∧ w = .bool (PyData.eqv d e) := by
  unfold eqD at h
  split at h
  · rename_i hs
    cases h
    rw [Bool.and_eq_true] at hs
    exact ⟨hs.1, hs.2, rfl⟩
  · cases h
theorem ob_eq (hu : X.A.units + 64 < cLine) : OpB X (compareOp .Eq) eqD := ⟨_, op_eqD hu, fun H x y d e w Q hx hy hw q _ => by
  obtain ⟨h1, h2, rfl⟩ := eqD_inv hw
  exact ⟨d, e, hx h1, hy h2, h1, h2, q _ rfl⟩⟩
theorem EP1.bool {B : Bs} {σ : Sg} {H H2 : Hp} {env e2 : En} {Q : VK} {b : Bool} {fr : Bool} (h : EP1 K z fr B σ H env Q (.bool b, e2)) (I : SR K z.np B σ H2 e2) (m : Mv (B.O σ env) (B.O σ e2) H H2) : Q (.bl b) H2 :=
  EP1.give h I m (.flat (.bl _) fun _ q => nomatch q)
theorem eqD_bool {d e w : D} (h : eqD d e = some w) : ∃ b, w = .bool b := ⟨_, (eqD_inv h).2.2⟩
theorem e_opL {i : Nat} {r : R2} {fb : Bool} {g : EF} {h : D → D → Option D} (hb : ∀ d e w, h d e = some w → ∃ b, w = .bool b)
    (sem : ∀ (H : Hp) (x y : V) (d e w : D) (Q : VK), (SeqAt.shaped d = true → Dp K H x d) → (SeqAt.shaped e = true → Dp K H y e) → h d e = some w → (∀ b, w = .bool b → Q (.bl b) H) → (∃ b, w = .bool b) → r x y H Q)
    {B : Bs} {env : En} {σ : Sg} {H : Hp} {Q : VK} (I : SR K z.np B σ H env) (hp : (fOpL i h g env).post (EP1 K z true B σ H env Q) (XP K z B σ H env)) : tOp r (tVar i) (tE K z fb g) σ H Q := by
  unfold fOpL at hp
  split at hp
  · rename_i ds0 e0
    obtain ⟨a0, _, hv, _⟩ := I.ow e0
    refine ⟨_, hv, B, env, I, (R.post_bind hp).imp (fun q hq u H2 I2 m2 a2 _ => ?_) fun _ _ q => q⟩
    split at hq
    · rename_i ds e1
      obtain ⟨w, ew, hw⟩ := ofO_post (R.post_bind hq)
      obtain ⟨a, xs, e2, hH, dp⟩ := I2.owDp e1
      rw [hv] at e2
      cases e2
      refine sem H2 _ u _ q.1 w Q dp (fun hs => a2.dp (SeqAt.canLay_of_shaped hs)) ew (fun b eb => ?_) (hb _ _ _ ew)
      subst eb
      exact EP1.bool hw I2 m2
    · exact hq.elim
  · exact hp.elim
section
variable {a b : Expr} {pos : Pos} {i : Nat} {fb fa : Bool} {g f : EF}
theorem de_eqL (hu : X.A.units + 64 < cLine) (ha : PE X a (tVar i)) (hb : DE z X fb b g) (hm : behindInMarks .Eq b = false) : DE z X true (.Compare a [.Eq] [b] pos) (fOpL i eqD g) := by
  obtain ⟨r, hr, sem⟩ := ob_eq hu
  exact de_imp (pe_cmpR hr ha hb hm) fun B env σ H Q I hp => e_opL (fun _ _ _ => eqD_bool) sem I hp
end
section
variable {a b : Expr} {pos : Pos} {i : Nat} {fb fa : Bool} {g f : EF}
/-- repr(own list) -/
def fReprO (i : Nat) : EF := fun env => match env[i]? with
  | some (some (.ow ds)) => (ofO (reprD [.list ds])).bind fun r => .ok (r, env)
  | _ => .stuck
/-- isinstance(own list, T) -/
def fIsiO (T : String) (i : Nat) : EF := fun env => match env[i]? with
  | some (some (.ow _)) => (ofO (isTy T (.list []))).bind fun r => .ok (r, env)
  | _ => .stuck
end
def caOf (mg : Str → Option Value) (x : Str) : Addr := match mg x with
  | some (.ref a) => a
  | _ => 0
theorem caOf_eq {mg : Str → Option Value} {x : Str} {a : Addr} (h : mg x = some (.ref a)) : caOf mg x = a := by unfold caOf; rw [h]
theorem stands_of {h : Heap} {mg : Str → Option Value} {x : Str} {st : Stmt} {f : Addr} {od an : Option Addr} {sl : Array (Option Value)} {oc kV dc pm cd ct : Value} {ps : List Str} (KX : K.In h) (G : h.Ns mainGlobals mg)
    (a : PySem.W.nsIn K mainGlobals x = some (some (.ref f))) (l : K.lookup f = some ⟨oc, od, .func (PySem.W.fnOf x x (defArgs st) (defBody st) (defScope st) .none kV dc pm an cd ct), sl⟩) (c : PySem.W.codeIn K cd x = true) (k : PySem.W.keepIn K (.ref f) = true)
    (b : ∀ (kV doc pm : Value) (an : Option Addr) (cdv ct : Value) (us : List Value), us.length = ps.length → bindArgs (PySem.W.fnOf x x (defArgs st) (defBody st) (defScope st) .none kV doc pm an cdv ct) ⟨us, []⟩ = pure (ps.zip us)) : Stands K mg x st ps :=
  ⟨f, _, PySem.W.mg_of KX G a, fun_mk l c k, (fun_mk l c k).binds b⟩
/-- an own exception class over another one, without methods of its own -/
structure ExF (K : PySem.W.Frag) (mg : Str → Option Value) (x : Str) (C : Addr) : Prop where
  g : mg x = some (.ref C)
  k : PySem.W.keepIn K (.ref C) = true
  b : PySem.W.subIn K (.ref C) (.type "BaseException") = some true
  t : PySem.W.typeIn K (.ref C) = some (.type "type")
  x : PySem.W.excIn K C [.type "ValueError", .type "Exception", .type "BaseException", .type "object"] "ValueError.__new__" = true
theorem exf_of {h : Heap} {mg : Str → Option Value} {x : Str} {C : Addr} (KX : K.In h) (G : h.Ns mainGlobals mg) (a : PySem.W.nsIn K mainGlobals x = some (some (.ref C))) (k : PySem.W.keepIn K (.ref C) = true)
    (b : PySem.W.subIn K (.ref C) (.type "BaseException") = some true) (t : PySem.W.typeIn K (.ref C) = some (.type "type")) (x' : PySem.W.excIn K C [.type "ValueError", .type "Exception", .type "BaseException", .type "object"] "ValueError.__new__" = true) : ExF K mg x C :=
  ⟨PySem.W.mg_of KX G a, k, b, t, x'⟩
theorem ds_raiseF {x m : Str} {C : Addr} {j : Nat} {p p2 pos pos' : Pos} {fr : Bool} (hc : X.calm = true) (tk : Takes X z.W) (F : ExF X.K X.mg x C) (hg : Gl X x) (hC : z.ca = caOf X.mg) (hdb : (x == ("__debug__" : Str)) = false := by decide) :
    DS z X fr (.Raise (some (.Call (.Name x p) [.Constant (.str m) j p2] [] pos)) none pos') (sRaise x) :=
  ds_raise hc tk (pmk_own PySem.F.excBase_ValueError F.x F.g F.k (raises_own F.b F.t) hg hdb) (by rw [hC]; exact caOf_eq F.g)
theorem ds_par {fr : Bool} {i j : Nat} {x y : Str} {a b : Expr} {g : En → R En (List D × En)} {px py pt pos : Pos} {kt k2 pt2} (hc : X.calm = true) (hN : X.N.Nodup) (hi : X.N[i]? = some x) (hj : X.N[j]? = some y) (hij : i ≠ j)
    (hx : X.env.scope.names.lookup x = some .local) (hy : X.env.scope.names.lookup y = some .local) (ha : DA z X [a, b] g) (hin : i ∉ z.np) (hjn : j ∉ z.np)
    (hw : swappedStores [.Tuple [.Name x px, .Name y py] kt pt] (.Tuple [a, b] k2 pt2) X.env = pure (some [x, y]) := by rfl)
    (hs : swapsWithSole [.Tuple [.Name x px, .Name y py] kt pt] (.Tuple [a, b] k2 pt2) pos.line X.env = pure false := by rfl) :
    DS z X fr (.Assign [.Tuple [.Name x px, .Name y py] kt pt] (.Tuple [a, b] k2 pt2) pos) (sPar i j g) :=
  ds_imp (ps_par hc hN hi hj hij hx hy ha hw hs) fun B env σ H Dd I p => sem_par hin hjn I p
/-- a, b, c = x, y, z -/
def sPar3 (i j l : Nat) (g : En → R En (List D × En)) : SF := fun env => (g env).bind fun p => match p.1 with
  | [d, e, f] => .ok (.nx (((p.2.set i (some (.im d))).set j (some (.im e))).set l (some (.im f))))
  | _ => .stuck
end
end DL
namespace DL
open PySem PySem.Spec PyProof.Rows L2
section
variable {X : Cx} {z : Z} {e : Expr} {es : List Expr} {pos : Pos} {f : EF} {g : En → R En (List D × En)} {fr : Bool}
def fStar (f : EF) (g : En → R En (List D × En)) : En → R En (List D × En) := fun env => (f env).bind fun p => (ofO (itemsD p.1)).bind fun ds => (g p.2).bind fun q => .ok (ds ++ q.1, q.2)
theorem da_star (ha : DE z X fr e f) (hr : DA z X es g) (hs : starEach (.Starred e pos :: es) X.env = (true, eval e X.env) :: starEach es X.env := by rfl) : DA z X (.Starred e pos :: es) (fStar f g) :=
  da_imp (StX.pa_star ha hr hs) fun B env σ H Q I hp => ⟨B, env, I, (R.post_bind hp).imp (fun p hp v H1 I1 m1 a1 _ => by
    obtain ⟨d, e1⟩ := p
    obtain ⟨ds, hd, hp⟩ := ofO_post (R.post_bind hp)
    have go : ∀ (xs : List V), AtAll X.K (B.O σ e1) H1 xs ds → tA X.K z g σ H1 fun ys H2 => Q (xs ++ ys) H2 := fun xs r =>
      ⟨B, e1, I1, (R.post_bind hp).imp (fun q hq vs H2 I2 m2 a2 => hq (xs ++ vs) H2 I2 (m1.trans m2) ((AtAll.mv m2 r).append a2)) fun _ _ q => q.step m1⟩
    cases a1 with
    | lst l r => cases hd; exact ⟨_, _, rfl, .inr l.1, go _ r⟩
    | tup l r => cases hd; exact ⟨_, _, rfl, .inl l.1, go _ r⟩
    | _ => cases hd) fun _ _ q => q⟩
end
end DL
namespace DL
open PySem PySem.Spec PyProof.Rows L2
theorem adj_back (n : Int) : Builtin.Slice.sliceAdjust none none (-1) n = (n - 1, -1) := by simp [Builtin.Slice.sliceAdjust]
theorem places_back (n : Nat) : Builtin.Slice.slicePlaces ((n : Int) - 1) (-1) (-1) = n := by
  unfold Builtin.Slice.slicePlaces
  rw [if_neg (by decide)]
  by_cases h : 0 < n
  · rw [if_pos (by omega)]
    have e : ((n : Int) - 1 - -1 - 1) / (- -1) = n - 1 := by
      rw [show (- -1 : Int) = 1 by decide, Int.ediv_one]; omega
    rw [e]; omega
  · rw [if_neg (by omega)]; omega
theorem fm_congr {f g : Nat → Option Value} : ∀ {l : List Nat}, (∀ k ∈ l, f k = g k) → l.filterMap f = l.filterMap g
  | [], _ => rfl
  | a :: l, h => by rw [List.filterMap_cons, List.filterMap_cons, h a (by simp), fm_congr (l := l) fun k hk => h k (by simp [hk])]
theorem pick_back (l : List Value) : ((List.range l.length).filterMap fun k : Nat => l.toArray[((l.length : Int) - 1 + (k : Int) * -1).toNat]?) = l.reverse := by
  have h1 : ∀ k ∈ List.range l.length, (fun k : Nat => l.toArray[((l.length : Int) - 1 + (k : Int) * -1).toNat]?) k = (fun k => some (l.reverse.getD k .none)) k := by
    intro k hk
    rw [List.mem_range] at hk
    show l.toArray[((l.length : Int) - 1 + (k : Int) * -1).toNat]? = some (l.reverse.getD k .none)
    rw [List.getElem?_toArray, show ((l.length : Int) - 1 + (k : Int) * -1).toNat = l.length - 1 - k by omega, List.getD_eq_getElem?_getD, List.getElem?_reverse hk, List.getElem?_eq_getElem (by omega)]
    rfl
  rw [fm_congr h1]
  rw [show (List.range l.length).filterMap (fun k => some (l.reverse.getD k .none)) = (List.range l.length).map fun k => l.reverse.getD k .none by rw [← List.filterMap_eq_map]; rfl]
  apply List.ext_getElem
  · simp
  · intro i h1 h2
    simp only [List.getElem_map, List.getElem_range]
    rw [List.getD_eq_getElem?_getD, List.getElem?_eq_getElem h2]; rfl
variable {prog : Program} {w : World} {A : Around} {s : Shared} {E : Value → Shared → Prop}
theorem applied_back {sl : Addr} {vl vu vs : Value} {n : Nat} {Q : Int × Int × Nat → Shared → Prop} (hs : s.heap.IsSliceOf sl vl vu vs) (pl : IsPart vl none) (pu : IsPart vu none) (ps : IsPart vs (some (-1)))
    (h : Q ((n : Int) - 1, -1, n) s) : wpAny (model prog w) A (Builtin.Slice.sliceApplied (.ref sl) (pure (n : Int))) Q E s := by
  obtain ⟨q, hq, _, hf⟩ := id hs
  unfold Builtin.Slice.sliceApplied Builtin.Slice.sliceFields
  refine wpAny_bind (wpAny_bind (wpAny_field hq hf (x := vl) rfl (wpAny_bind (wpAny_field hq hf (x := vu) rfl (wpAny_bind (wpAny_field hq hf (x := vs) rfl (wpAny_pure ?_)))))))
  refine wpAny_bind (HT.slicePart_ ps ?_)
  show wpAny _ _ (if ((-1 : Int) == 0) = true then _ else _) _ _ s
  rw [if_neg (by decide)]
  refine wpAny_bind (HT.slicePart_ pl (wpAny_bind (HT.slicePart_ pu (wpAny_bind (wpAny_pure ?_)))))
  show wpAny _ _ (match Builtin.Slice.sliceAdjust none none (-1) (n : Int) with | (a, b) => pure (a, (-1 : Int), Builtin.Slice.slicePlaces a b (-1))) _ _ s
  rw [adj_back]
  show wpAny _ _ (pure ((n : Int) - 1, (-1 : Int), Builtin.Slice.slicePlaces ((n : Int) - 1) (-1) (-1))) _ _ s
  rw [places_back]
  exact wpAny_pure h
theorem getItem_back {t sl : Addr} {xs : List Value} {vl vu vs : Value} {Q : Value → Shared → Prop} (ht : IsTup s.heap t xs.toArray) (hs : s.heap.IsSliceOf sl vl vu vs) (pl : IsPart vl none) (pu : IsPart vu none) (ps : IsPart vs (some (-1)))
    (h : Q (.ref s.heap.objs.size) { s with heap := s.heap.push { cls := .type "tuple", data := .seq xs.reverse.toArray } }) (hz : xs.length ≤ sizeLine) : wpAny (model prog w) A (getItem (.ref t) (.ref sl)) Q E s := by
  have hfit : sizeOk (.seq xs.reverse.toArray) := by
    show xs.reverse.toArray.size ≤ sizeLine
    rw [List.size_toArray, List.length_reverse]; exact hz
  obtain ⟨q, hq, hc, hf⟩ := id hs
  have hT : s.TypeIs (.ref sl) "slice" := ⟨q, hq, hc⟩
  unfold getItem
  try with_reducible refine wpAny_holding ?_
  first | refine wpAny_bind (wpAny_pure ?_) | skip
  refine wpAny_bind (wpAny_sequenceKey ht.typeIs (by decide) ?_)
  refine wpAny_bind (wpAny_callSpecial?_slot
    (name := Str.ofString "__getitem__") ht.typeIs
    PyProof.Rows.slot_tuple_getitem (wpAny_call_entry
      PyProof.Rows.slot_tuple_getitem ht.typeIs
      entry_tuple_getitem ?_ (args_tuple_getitem _ _)))
  show wpAny _ _ (Builtin.Tuple.tupleItemsOf (.ref t) >>= _) _ _ s
  refine wpAny_bind (tupleItemsOf_ ht ?_)
  refine wpAny_bind (wpAny_typeOf hT ?_)
  rw [if_pos (by decide)]
  refine wpAny_bind (applied_back hs pl pu ps ?_)
  have no : ¬ (((xs.toArray.size : Int) - 1 == 0 && (-1 : Int) == 1 && xs.toArray.size == xs.toArray.size) = true) := by simp
  show wpAny _ _ (if ((xs.toArray.size : Int) - 1 == 0 && (-1 : Int) == 1 && xs.toArray.size == xs.toArray.size) = true then _ else _) _ _ s
  rw [if_neg no]
  have e := pick_back xs
  rw [← List.size_toArray] at e
  rw [e]
  first
    | exact wpAny_bind (wpAny_newObj_type (wpAny_pure ⟨_, rfl, wpAny_pure h⟩) hfit)
    | exact wpAny_bind (m := Builtin.Tuple.tupleExact _)
        (wpAny_newObj_type (wpAny_pure ⟨_, rfl, wpAny_pure h⟩) hfit)
def tBackT (K : PySem.W.Frag) (te : TE) : TE := fun σ H Q => te σ H fun x H1 => ∃ (a : Addr) (xs : List V), x = .ref a ∧ SqT K H1 a xs ∧ ∀ p, H1 p = none → Q (.ref p) (upd H1 p (.tup xs.reverse))
section
variable {X : Cx} {z : Z}
theorem pe_backT {e : Expr} {te : TE} {k : Nat} {p1 p2 p3 pos : Pos} (he : PE X e te) :
    PE X (.Subscript e (.Slice none none (some (.UnaryOp .USub (.Constant (.int 1) k p1) p2)) p3) pos) (tBackT X.K te) := by
  refine ⟨fun pins s σ H Q I h => ?_⟩
  refine Subscript_ (thn (he.run pins s σ H _ I h) fun v s1 ⟨x, H1, I1, r1, a, xs, ex, hx, q⟩ => ?_)
  subst ex
  cases r1
  have minus : PO X (some (.UnaryOp .USub (.Constant (.int 1) k p1) p2)) (tPart (L2.tUn (rU fun i => .int (-i)) (L2.tC (.int 1)))) :=
    po_some (pe_un un_neg pe_int)
  refine wpAny_Slice (thn (po_none.run pins s1 σ H1
    (fun o G => o = none ∧ G = H1) I1 ⟨rfl, rfl⟩) fun vl s2 ⟨l, H2, I2, pl, el, e2⟩ => ?_)
  subst el e2
  refine thn (po_none.run pins s2 σ H2
    (fun o G => o = none ∧ G = H2) I2 ⟨rfl, rfl⟩) fun vu s3 ⟨u, H3, I3, pu, eu, e3⟩ => ?_
  subst eu e3
  refine thn (minus.run pins s3 σ H3
    (fun o G => o = some (-1) ∧ G = H3) I3 ⟨1, rfl, -1, rfl, rfl, rfl⟩) fun vs s4 ⟨o, H4, I4, ps, eo, e4⟩ => ?_
  subst eo e4
  have I5 : Inv X pins σ H4 { s4 with heap := s4.heap.push { cls := .type "slice", data := .fields #[vl, vu, vs] } } :=
    I4.kept (t' := s4.toks) fun b ob w => Heap.get?_push_of_some _ w
  obtain ⟨its, r, ht, hz⟩ := I5.tuple hx
  have hlen := r.length
  show wpAny (model X.prog X.w) X.A (subscriptTail e
    (.Slice none none (some (.UnaryOp .USub (.Constant (.int 1) k p1) p2)) p3) (.ref a) (.ref s4.heap.objs.size))
    (EP X pins σ Q) X.xe { s4 with heap := s4.heap.push { cls := .type "slice", data := .fields #[vl, vu, vs] } }
  refine tail_any (ops := [.ref a, .ref s4.heap.objs.size])
    ht.typeIs PyProof.Rows.slot_tuple_getitem.lookup ?_ (by with_unfolding_all rfl)
  refine getItem_back ht (Heap.IsSliceOf.new _ vl vu vs) pl pu ps ?_ (by omega)
  refine ⟨.ref _, _, I5.laid (o := .tup xs.reverse) (t' := s4.toks)
    (fun b ob w => Heap.get?_push_of_some _ w) (Nat.le_refl _) ?_, rfl, q _ (I5.hok.fresh (Nat.le_refl _))⟩
  exact ⟨by rw [List.length_reverse]; exact hz, _, r.reverse, IsTup.new _ _⟩
theorem AtAll.back {K : PySem.W.Frag} {O : Addr → Prop} {H : Hp} {vs : List V} {ds : List D} (h : AtAll K O H vs ds) : AtAll K O H vs.reverse ds.reverse := by
  induction vs generalizing ds with
  | nil => cases h; exact .nil
  | cons v vs ih =>
    cases h with
    | cons a r =>
      rw [List.reverse_cons, List.reverse_cons]
      exact (ih r).append (.cons a .nil)
def backD : D → Option D
  | .tuple ds => some (.tuple ds.reverse)
  | .list ds => some (.list ds.reverse)
  | _ => none
theorem pe_orE {e : Expr} {t t' : TE} (h : PE X e t) (h' : PE X e t') : PE X e (fun σ H Q => t σ H Q ∨ t' σ H Q) :=
  ⟨fun pins s σ H Q I q => q.elim (h.run pins s σ H Q I) (h'.run pins s σ H Q I)⟩
theorem de_back {fr : Bool} {f : EF} {e : Expr} {k : Nat} {p1 p2 p3 pos : Pos} (he : DE z X fr e f) :
    DE z X true (.Subscript e (.Slice none none (some (.UnaryOp .USub (.Constant (.int 1) k p1) p2)) p3) pos) (fUn backD f) :=
  de_imp (pe_orE (pe_backT he) (pe_revL he)) fun B env σ H Q I hp => by
    have h1 := R.post_bind hp
    cases hf : f env with
    | stuck => rw [hf] at h1; exact h1.elim
    | err x e2 => rw [hf] at h1; exact .inl ⟨B, env, I, by rw [hf]; exact h1⟩
    | ok p =>
      rw [hf] at h1
      obtain ⟨d, e1⟩ := p
      obtain ⟨w, ew, hw⟩ := ofO_post (R.post_bind h1)
      cases d with
      | tuple ds =>
        refine .inl ⟨B, env, I, ?_⟩
        rw [hf]
        intro v H1 I1 m1 a1 _
        cases a1 with
        | tup l r => cases ew; exact ⟨_, _, rfl, l.1, fun q hq => EP1.give hw I1 m1 (Res.tup I1.od hq r.back)⟩
      | list ds =>
        refine .inr ⟨B, env, I, ?_⟩
        rw [hf]
        intro v H1 I1 m1 a1 _
        cases a1 with
        | lst l r => cases ew; exact ⟨_, _, rfl, l.1, fun q hq => EP1.give hw I1 m1 (Res.lst I1.od hq r.back)⟩
      | _ => cases ew
end
end DL
namespace DL
open PySem PySem.Spec PyProof.Rows L2
variable {K : PySem.W.Frag}
def Sl.lent : Sl → Sl
  | .ow ds => .im (.list ds)
  | s => s
def lentE (env : En) : En := env.map (Option.map Sl.lent)
def noDk (env : En) : Bool := env.all fun o => match o with | some (.dk _) => false | some (.db _) => false | _ => true
theorem SR.lend {np : List Nat} {B : Bs} {σ : Sg} {H : Hp} {env : En} (I : SR K np B σ H env) (hd : noDk env = true) : SR K np ⟨B.O0, H, [], H, B.fx⟩ σ H (lentE env) := by
  have no : ∀ i a, ¬ ownedAt σ (lentE env) i a := fun i a ⟨s, h1, h2, _⟩ => by
    unfold lentE at h1
    rw [List.getElem?_map, Option.map_eq_some_iff] at h1
    obtain ⟨o, h3, h4⟩ := h1
    cases o with
    | none => cases h4
    | some t =>
      cases h4
      cases t with
      | im d => cases h2
      | ow ds => cases h2
      | dk kvs =>
        have := List.all_eq_true.mp hd _ (List.mem_of_getElem? h3)
        cases this
      | db kvs =>
        have := List.all_eq_true.mp hd _ (List.mem_of_getElem? h3)
        cases this
  have sub : ∀ a, Bs.O ⟨B.O0, H, [], H, B.fx⟩ σ (lentE env) a → B.O0 a := fun a z => z.elim id fun ⟨i, q⟩ => absurd q (no i a)
  refine ⟨by simpa [lentE] using I.len, fun i s hs => ?_, fun i j a h => absurd h (no i a), fun a o h _ => h, fun a h => h, fun i a h => absurd h (no i a), fun a h => ⟨(I.o0 a h).1, fun p hp => by cases hp⟩, fun a o h => h, fun i a h => absurd h (no i a), fun i a h => absurd h (no i a), (fun p hp => by cases hp), I.fix⟩
  unfold lentE at hs
  rw [List.getElem?_map, Option.map_eq_some_iff] at hs
  obtain ⟨o, h3, h4⟩ := hs
  cases o with
  | none => cases h4
  | some t =>
    cases h4
    obtain ⟨v, e, q⟩ := I.slot i t h3
    refine ⟨v, e, ?_⟩
    have m : Mv (B.O σ env) (Bs.O ⟨B.O0, H, [], H, B.fx⟩ σ (lentE env)) H H := Mv.less fun a z => .inl (sub a z)
    cases t with
    | im d => exact At.mv m q
    | ow ds =>
      obtain ⟨a, xs, rfl, _, h5, h6⟩ := q
      have na : ¬ B.O0 a := I.own0 i a ⟨_, h3, rfl, e⟩
      exact .lst ⟨.inl (.inl h5), fun z => absurd (sub a z) na⟩ (AtAll.mv m h6)
    | dk kvs =>
      have := List.all_eq_true.mp hd _ (List.mem_of_getElem? h3)
      cases this
    | db kvs =>
      have := List.all_eq_true.mp hd _ (List.mem_of_getElem? h3)
      cases this
section
variable {X : Cx} {e : Expr} {z : Z}
def tLend (t : En → R En (Bool × En)) : En → R En (Bool × En) := fun env => if noDk env = true then (match t (lentE env) with
  | .ok p => .ok (p.1, env)
  | _ => .stuck) else .stuck
def flatD : D → Bool
  | .list _ => false
  | .tuple _ => false
  | .dict _ => false
  | _ => true
def fLend (f : EF) : EF := fun env => if noDk env = true then (match f (lentE env) with
  | .ok p => if flatD p.1 = true then .ok (p.1, env) else .stuck
  | _ => .stuck) else .stuck
theorem dt_lend {t : En → R En (Bool × En)} (h : DT z X e t) : DT z X e (tLend t) := dt_imp h fun B env σ H Q I hp => by
  unfold tLend at hp
  by_cases hd : noDk env = true
  · rw [if_pos hd] at hp
    refine ⟨_, _, I.lend hd, ?_⟩
    revert hp
    cases t (lentE env) with
    | stuck => exact fun q => q
    | err x s => exact fun q => q.elim
    | ok p => exact fun q H' I' m => q H' (I.ex fun a o h => I'.kept a o h) (Mv.ex fun a o h => I'.kept a o h)
  · rw [if_neg hd] at hp
    exact hp.elim
end
end DL
namespace DL
open PySem PySem.Spec PyProof.Rows L2
variable {K : PySem.W.Frag}
section
variable {np : List Nat} {B : Bs} {σ : Sg} {H : Hp} {env : En}
/-- a name goes -/
theorem SR.drop (I : SR K np B σ H env) {i : Nat} {x : Option V} (hi : i ∉ np) : SR K np B (σ.set i x) H (env.set i none) ∧ Mv (B.O σ env) (B.O (σ.set i x) (env.set i none)) H H := by
  have ow : ∀ j a, ownedAt (σ.set i x) (env.set i none) j a → j ≠ i ∧ ownedAt σ env j a := fun j a ⟨s, h1, h2, h3⟩ => by
    rcases getElem?_set_some h1 with ⟨e, e2⟩ | ⟨e, h1⟩
    · cases e2
    · rw [List.getElem?_set_ne (Ne.symm e)] at h3
      exact ⟨e, s, h1, h2, h3⟩
  have wo : ∀ j a, j ≠ i → ownedAt σ env j a → ownedAt (σ.set i x) (env.set i none) j a := fun j a n ⟨s, h1, h2, h3⟩ =>
    ⟨s, by rw [List.getElem?_set_ne (Ne.symm n)]; exact h1, h2, by rw [List.getElem?_set_ne (Ne.symm n)]; exact h3⟩
  have m : Mv (B.O σ env) (B.O (σ.set i x) (env.set i none)) H H := Mv.less fun a z => z.elim .inl fun ⟨j, q⟩ => .inr ⟨j, (ow j a q).2⟩
  refine ⟨⟨by simpa using I.len, fun j s hs => ?_, fun j k a h1 h2 => I.dist j k a (ow j a h1).2 (ow k a h2).2, I.keep, I.dom, fun j a h => I.new j a (ow j a h).2, I.o0, I.kept, fun j a h => I.kpo j a (ow j a h).2, fun j a h => I.own0 j a (ow j a h).2, fun p hp => ?_, I.fixSet hi⟩, m⟩
  · rcases getElem?_set_some hs with ⟨_, e2⟩ | ⟨e, h1⟩
    · cases e2
    · obtain ⟨u, e1, q⟩ := I.slot j s h1
      exact ⟨u, by rw [List.getElem?_set_ne (Ne.symm e)]; exact e1, q.mv m (fun a ea ho => .inr ⟨j, wo j a e ⟨s, h1, ho, ea ▸ e1⟩⟩) fun _ _ _ _ z => z⟩
  · obtain ⟨h1, h2, h3⟩ := I.par p hp
    exact ⟨wo _ _ (fun z => hi (z ▸ h3)) h1, h2, h3⟩
end
section
variable {X : Cx} {z : Z} {fr : Bool} {e : Expr}
/-- an error as data -/
def excDP (x : Exn) : D := .dict ((.str x.cls, .none) :: x.dat.map fun p => (.str p.1, p.2))
/-- i: the clause's name; j: the name that keeps the error -/
def sTryK (i j : Nat) (g : SF) : SF := fun env => match g env with
  | .err x e => if decide (x.dat.length ≤ 1) = true ∧ x.cls ∈ exNames then .ok (.nx ((e.set j (some (.im (excDP x)))).set i none)) else .stuck
  | r => r
/-- isinstance of an error's class -/
def isEx (m : Str) : D → Option D
  | .none => some (.bool false)
  | .dict ((.str n, .none) :: _) => some (.bool (exSub n m))
  | _ => none
def fIsE (m : Str) (f : EF) : EF := fUn (isEx m) f
end
end DL
namespace DL
open PySem PySem.Spec PyProof.Rows L2
section
variable {X : Cx} {z : Z} {e : Expr}
def rCountD (K : PySem.W.Frag) : V → List V → Hp → VK → Prop := fun x xs H Q => ∃ (a : Addr) (y : V) (d : PyData) (ds : List PyData), x = V.ref a ∧ xs = [y] ∧ Dp K H (V.ref a) (.list ds) ∧ Dp K H y d ∧
  SeqAt.shaped (.list ds) = true ∧ SeqAt.shaped d = true ∧ Q (.int (ds.countP fun w => PyData.eqv w d : Nat)) H
theorem mt_countD (hu : X.A.units + 65 < cLine) : MtR X "list.count" (rCountD X.K) := by
  intro pins s σ H x xs v us Q I rx rxs h
  obtain ⟨a, y, d, ds, rfl, rfl, hl, hy, sl, sd, q⟩ := h
  cases rx
  cases rxs with
  | cons ry rt =>
    rename_i uy ut
    cases rt
    obtain ⟨bs, rY⟩ := Dp.reads I d y uy hy ry
    have lay : PyData.canLayAll0 ds = true := SeqAt.canLay_of_shaped sl
    have room : X.A.units + 1 + min (PyData.depthAll ds) d.depth < cLine := room_in_shaped sd hu
    cases hl with
    | lst hs ha =>
      obtain ⟨its, rv, ⟨⟨cls, dd, data, sls⟩, n, ho, hc, hdn, hdt⟩, hlen⟩ := I.list hs
      simp only at hc hdt
      subst hc hdt
      obtain ⟨as, rL⟩ := Dp.readsAll I ds _ its ha rv
      have em : its.map (SeqAt.readOf s.heap) = ds := SeqAt.readsAll_map ds its as lay rL
      have ec : its.toArray.toList.countP (fun u => PyData.eqv (SeqAt.readOf s.heap u) d) = ds.countP fun w => PyData.eqv w d := by
        rw [← em, List.countP_map]; rfl
      refine call_meets PySem.F.slot_list_count ⟨_, ho, rfl⟩ PySem.F.entry_list_count (PySem.F.args_list_count_2 _ _)
        (SeqAt.list_countAt a its.toArray n dd sls uy fun u => PyData.eqv (SeqAt.readOf s.heap u) d) ⟨ho, SeqAt.items_eqAt (vs := its.toArray) (show ReadsAll s.heap its.toArray.toList ds as from rL) rY lay (SeqAt.canLay_of_shaped sd) room, ?_⟩
      refine ⟨.int (ds.countP fun w => PyData.eqv w d : Nat), H, I.tok _, ⟨s.toks, ?_⟩, q⟩
      show Value.int ((its.toArray.toList.countP (fun u => PyData.eqv (SeqAt.readOf s.heap u) d) : Nat) : Int) s.toks = _
      rw [ec]
def countD (d e : D) : Option D := match d with
  | .list ds => if (SeqAt.shaped (.list ds) && SeqAt.shaped e) = true then some (.int (ds.countP fun w => PyData.eqv w e : Nat)) else none
  | _ => none
def fMt (h : D → D → Option D) (f g : EF) : EF := fun env => (f env).bind fun p => match p.1 with
  | .list ds => (g p.2).bind fun q => (ofO (h (.list ds) q.1)).bind fun r => .ok (r, q.2)
  | _ => .stuck
theorem de_mtD {id : String} {name : Str} {r : V → List V → Hp → VK → Prop} {h : D → D → Option D} {fo fe : Bool} {f g : EF} {o : Expr} {apos cpos : Pos} (slot : Slot "list" name id) (hty : typeOf (.builtin id) = pure (.type "method_descriptor")) (hm : MtR X id r)
    (sem : ∀ (H : Hp) (x y : V) (ds : List D) (e w : D) (Q : VK), (∃ a, x = .ref a) → (SeqAt.shaped (.list ds) = true → Dp X.K H x (.list ds)) → (SeqAt.shaped e = true → Dp X.K H y e) → h (.list ds) e = some w → (∀ i : Int, w = .int i → Q (.int i) H) → r x [y] H Q)
    (hi : ∀ d e w, h d e = some w → ∃ i : Int, w = .int i) (ho : DE z X fo o f) (he : DE z X fe e g)
    (hbase : attributeBase o name X.env (eval o X.env) = eval o X.env := by rfl)
    (hfew : ((backTo cpos (starEach [e] X.env)).all (fun x => !x.1) && (backToKw cpos (keywordEach [] X.env)).all (fun x => x.1.isSome)
      && decide ([e].length + ([] : List Keyword).length + (if ([] : List Keyword).isEmpty then 0 else 1) < 30)) = true := by rfl)
    (hline : (apos.endLine == cpos.line) = true := by rfl) (hs : starEach [e] X.env = (false, eval e X.env) :: starEach [] X.env := by rfl) (hplain : (backTo cpos (starEach [] X.env)).any (·.1) = false := by rfl) :
    DE z X true (.Call (.Attribute o name apos) [e] [] cpos) (fMt h f g) :=
  de_imp (pe_bm PySem.F.plainAttrs_list slot hty hm ho (pa_cons he pa_nil hs) hbase hfew hline hs hplain) fun B env σ H Q I hp => ⟨B, env, I, (R.post_bind hp).imp (fun p hp x H1 I1 m1 a1 _ => by
    obtain ⟨d, e1⟩ := p
    cases d with
    | list ds =>
      obtain ⟨a, xs, rfl, l, r1⟩ := a1.list_inv
      refine ⟨.inl ⟨rfl, xs, l.1⟩, B, e1, I1, (R.post_bind hp).imp (fun q hq u H2 I2 m2 a2 _ => ?_) fun _ _ q => q.step m1⟩
      obtain ⟨w, ew, hw⟩ := ofO_post (R.post_bind hq)
      have aL := At.mv m2 (At.lst l r1)
      exact sem H2 (.ref a) u ds q.1 w Q ⟨a, rfl⟩ (fun hs => aL.dp (SeqAt.canLay_of_shaped hs)) (fun hs => a2.dp (SeqAt.canLay_of_shaped hs)) ew fun i ei => by
        subst ei
        exact EP1.give hw I2 (m1.trans m2) (.flat (.int _) fun _ q => nomatch q)
    | _ => exact hp.elim) fun _ _ q => q⟩
theorem de_count {fo fe : Bool} {f g : EF} {o : Expr} {apos cpos : Pos} (hu : X.A.units + 65 < cLine) (ho : DE z X fo o f) (he : DE z X fe e g)
    (hbase : attributeBase o "count" X.env (eval o X.env) = eval o X.env := by rfl)
    (hfew : ((backTo cpos (starEach [e] X.env)).all (fun x => !x.1) && (backToKw cpos (keywordEach [] X.env)).all (fun x => x.1.isSome)
      && decide ([e].length + ([] : List Keyword).length + (if ([] : List Keyword).isEmpty then 0 else 1) < 30)) = true := by rfl)
    (hline : (apos.endLine == cpos.line) = true := by rfl) (hs : starEach [e] X.env = (false, eval e X.env) :: starEach [] X.env := by rfl) (hplain : (backTo cpos (starEach [] X.env)).any (·.1) = false := by rfl) :
    DE z X true (.Call (.Attribute o "count" apos) [e] [] cpos) (fMt countD f g) := by
  refine de_mtD PySem.F.slot_list_count rfl (mt_countD hu) (fun H x y ds e w Q ⟨a, ea⟩ hx hy hw q => ?_) (fun d e w hw => ?_) ho he hbase hfew hline hs hplain
  · subst ea
    unfold countD at hw
    simp only at hw
    split at hw
    · rename_i hc
      rw [Bool.and_eq_true] at hc
      cases hw
      exact ⟨a, y, e, ds, rfl, rfl, hx hc.1, hy hc.2, hc.1, hc.2, q _ rfl⟩
    · cases hw
  · unfold countD at hw
    split at hw
    · split at hw
      · cases hw; exact ⟨_, rfl⟩
      · cases hw
    · cases hw
end
end DL
namespace DL
open PySem PySem.Spec PyProof.Rows L2
variable {K : PySem.W.Frag}
def putD (kvs : List (Key × D)) (k : Key) (v : D) : List (Key × D) :=
  if (kvs.any fun kv => decide (kv.1 = k)) = true then kvs.map (fun kv => if kv.1 = k then (kv.1, v) else kv) else kvs ++ [(k, v)]
/-- a dict's pairs and their data -/
inductive DkR (K : PySem.W.Frag) (O : Addr → Prop) (H : Hp) : List (Key × V) → List (Key × D) → Prop
  | nil : DkR K O H [] []
  | cons {k : Key} {v : V} {d : D} {vs : List (Key × V)} {kvs : List (Key × D)} : At K O H v d → DkR K O H vs kvs → DkR K O H ((k, v) :: vs) ((k, d) :: kvs)
section
variable {O O' : Addr → Prop} {H H' : Hp}
theorem DkR.of : ∀ {vs : List (Key × V)} {kvs : List (Key × D)}, vs.map Prod.fst = kvs.map Prod.fst → AtAll K O H (vs.map Prod.snd) (kvs.map Prod.snd) → DkR K O H vs kvs
  | [], [], _, _ => .nil
  | [], _ :: _, e, _ => by simp at e
  | _ :: _, [], e, _ => by simp at e
  | (k, v) :: vs, (k', d) :: kvs, e, r => by
    simp only [List.map_cons, List.cons.injEq] at e r
    obtain ⟨rfl, e⟩ := e
    cases r with
    | cons a r => exact .cons a (DkR.of e r)
theorem DkR.fst : ∀ {vs : List (Key × V)} {kvs : List (Key × D)}, DkR K O H vs kvs → vs.map Prod.fst = kvs.map Prod.fst
  | _, _, .nil => rfl
  | _, _, .cons a r => by simp only [List.map_cons, r.fst]
theorem DkR.snd : ∀ {vs : List (Key × V)} {kvs : List (Key × D)}, DkR K O H vs kvs → AtAll K O H (vs.map Prod.snd) (kvs.map Prod.snd)
  | _, _, .nil => .nil
  | _, _, .cons a r => .cons a r.snd
theorem DkR.length : ∀ {vs : List (Key × V)} {kvs : List (Key × D)}, DkR K O H vs kvs → vs.length = kvs.length
  | _, _, .nil => rfl
  | _, _, .cons a r => by simp only [List.length_cons, r.length]
theorem DkR.mv (m : Mv O O' H H') : ∀ {vs : List (Key × V)} {kvs : List (Key × D)}, DkR K O H vs kvs → DkR K O' H' vs kvs
  | _, _, .nil => .nil
  | _, _, .cons a r => .cons (a.mv m) (r.mv m)
theorem DkR.any (p : Key → Bool) : ∀ {vs : List (Key × V)} {kvs : List (Key × D)}, DkR K O H vs kvs → (vs.any fun kv => p kv.1) = kvs.any fun kv => p kv.1
  | _, _, .nil => rfl
  | _, _, .cons a r => by simp only [List.any_cons, r.any p]
theorem DkR.put {v : V} {d : D} (k : Key) (a : At K O H v d) : ∀ {vs : List (Key × V)} {kvs : List (Key × D)}, DkR K O H vs kvs → DkR K O H (putK vs k v) (putD kvs k d) := by
  intro vs kvs r
  unfold putK putD
  rw [r.any fun j => decide (j = k)]
  split
  · rename_i h
    clear h
    induction r with
    | nil => exact .nil
    | cons b r ih =>
      simp only [List.map_cons]
      split
      · exact .cons a ih
      · exact .cons b ih
  · rename_i h
    clear h
    induction r with
    | nil => exact .cons a .nil
    | cons b r ih => exact .cons b ih
end
end DL
namespace DL
open PySem PySem.Spec PyProof.Rows L2
variable {K : PySem.W.Frag}
theorem u1 {k : Nat} {A : Around} (r : Room k A) : A.units + 1 < cLine := by have := r.un; omega
end DL
namespace DL
open PySem PySem.Spec PyProof.Rows L2
variable {K : PySem.W.Frag}
def insD (ds : List D) (k : Nat) (d : D) : List D := ds.take k ++ [d] ++ ds.drop k
def sIns (i : Nat) (g f : EF) : SF := fun env => match env[i]? with
  | some (some (.ow _)) => (g env).bind fun q => (f q.2).bind fun p => match p.2[i]?, q.1 with
    | some (some (.ow ds)), .int k => if ds.length < sizeLine ∧ 0 ≤ k ∧ k < 2 ^ 63 then .ok (.nx (p.2.set i (some (.ow (insD ds k.toNat p.1))))) else .stuck
    | _, _ => .stuck
  | _ => .stuck
section
variable {X : Cx} {z : Z} {fr : Bool}
theorem ds_ins {i : Nat} {o b a : Expr} {g f : EF} {fb fe : Bool} {apos cpos pos : Pos} (ho : PE X o (tVar i)) (hb : DE z X fb b g) (ha : DE z X fe a f) (hbase : attributeBase o "insert" X.env (eval o X.env) = eval o X.env := by rfl)
    (hfew : ((backTo cpos (starEach [b, a] X.env)).all (fun x => !x.1) && (backToKw cpos (keywordEach [] X.env)).all (fun x => x.1.isSome) && decide ([b, a].length + ([] : List Keyword).length + (if ([] : List Keyword).isEmpty then 0 else 1) < 30)) = true := by rfl)
    (hline : (apos.endLine == cpos.line) = true := by rfl) (hs : starEach [b, a] X.env = (false, eval b X.env) :: starEach [a] X.env := by rfl) (hs2 : starEach [a] X.env = (false, eval a X.env) :: starEach [] X.env := by rfl) (hplain : (backTo cpos (starEach [a] X.env)).any (·.1) = false := by rfl)
    (hsw : swapsWith (.Call (.Attribute o "insert" apos) [b, a] [] cpos) none pos.line X.env = pure false := by rfl) : DS z X fr (.Expr (.Call (.Attribute o "insert" apos) [b, a] [] cpos) pos) (sIns i g f) := by
  refine ds_imp (ps_expr (pe_bm PySem.F.plainAttrs_list PySem.F.slot_list_insert PySem.F.type_list_insert mt_insert ho (pa_cons hb (pa_cons ha pa_nil hs2) hs) hbase hfew hline hs hplain) hsw) fun B env σ H Dd I p => ?_
  unfold sIns at p
  split at p
  · rename_i ds0 he
    obtain ⟨a0, xs0, e1, _, hH0, _⟩ := I.ow he
    refine ⟨_, e1, .inl ⟨rfl, _, SqL.of hH0⟩, B, env, I, (R.post_bind p).imp (fun q hq w H1 I1 m1 b1 _ => ?_) fun _ _ q => q.xp⟩
    refine ⟨B, q.2, I1, (R.post_bind hq).imp (fun p hp v H2 I2 m2 a1 _ => ?_) fun _ _ q => (XS.step m1 q).xp⟩
    split at hp
    · rename_i ds k he1 hk
      split at hp
      · rename_i hl
        obtain ⟨a, xs, e2, hO, hH, r⟩ := I2.ow he1
        rw [e1] at e2
        cases e2
        have bw := At.mv m2 b1
        rw [hk] at bw
        cases bw
        have m3 : Mv (B.O σ p.2) (B.O σ p.2) H2 (upd H2 a0 (.lst (xs.take k.toNat ++ [v] ++ xs.drop k.toNat))) := ⟨fun b u e n => by
          rw [upd_ne (show b ≠ a0 from fun q => n (q ▸ hO))]; exact e, fun _ w => .inl w, fun b e => by
          by_cases q : b = a0
          · rw [q, upd_same] at e; cases e
          · rw [upd_ne q] at e; exact e⟩
        have r2 := AtAll.mv m3 r
        obtain ⟨I', m'⟩ := I2.write (i := i) (a := a0) (s := .ow ds) (s' := .ow (insD ds k.toNat p.1)) (o := .lst (xs.take k.toNat ++ [v] ++ xs.drop k.toNat)) he1 rfl rfl e1 ⟨a0, _, rfl, hO, upd_same, ((r2.take k.toNat).append (.cons (At.mv m3 a1) .nil)).append (r2.drop k.toNat)⟩
        exact ⟨a0, xs, k, v, rfl, rfl, hH, by rw [r.length]; exact hl.1, hl.2.1, hl.2.2, hp σ _ I' ((m1.trans m2).trans m')⟩
      · exact hp.elim
    · exact hp.elim
  · exact p.elim
end
end DL
namespace DL
open PySem PySem.Spec PyProof.Rows L2
variable {K : PySem.W.Frag}
def putB (kvs : List (Bool × D)) (k : Bool) (v : D) : List (Bool × D) :=
  if (kvs.any fun kv => decide (kv.1 = k)) = true then kvs.map (fun kv => if kv.1 = k then (kv.1, v) else kv) else kvs ++ [(k, v)]
inductive DbR (K : PySem.W.Frag) (O : Addr → Prop) (H : Hp) : List (Bool × V) → List (Bool × D) → Prop
  | nil : DbR K O H [] []
  | cons {k : Bool} {v : V} {d : D} {vs : List (Bool × V)} {kvs : List (Bool × D)} : At K O H v d → DbR K O H vs kvs → DbR K O H ((k, v) :: vs) ((k, d) :: kvs)
section
variable {O O' : Addr → Prop} {H H' : Hp}
theorem DbR.of : ∀ {vs : List (Bool × V)} {kvs : List (Bool × D)}, vs.map Prod.fst = kvs.map Prod.fst → AtAll K O H (vs.map Prod.snd) (kvs.map Prod.snd) → DbR K O H vs kvs
  | [], [], _, _ => .nil
  | [], _ :: _, e, _ => by simp at e
  | _ :: _, [], e, _ => by simp at e
  | (k, v) :: vs, (k', d) :: kvs, e, r => by
    simp only [List.map_cons, List.cons.injEq] at e r
    obtain ⟨rfl, e⟩ := e
    cases r with
    | cons a r => exact .cons a (DbR.of e r)
theorem DbR.fst : ∀ {vs : List (Bool × V)} {kvs : List (Bool × D)}, DbR K O H vs kvs → vs.map Prod.fst = kvs.map Prod.fst
  | _, _, .nil => rfl
  | _, _, .cons a r => by simp only [List.map_cons, r.fst]
theorem DbR.snd : ∀ {vs : List (Bool × V)} {kvs : List (Bool × D)}, DbR K O H vs kvs → AtAll K O H (vs.map Prod.snd) (kvs.map Prod.snd)
  | _, _, .nil => .nil
  | _, _, .cons a r => .cons a r.snd
theorem DbR.length : ∀ {vs : List (Bool × V)} {kvs : List (Bool × D)}, DbR K O H vs kvs → vs.length = kvs.length
  | _, _, .nil => rfl
  | _, _, .cons a r => by simp only [List.length_cons, r.length]
theorem DbR.mv (m : Mv O O' H H') : ∀ {vs : List (Bool × V)} {kvs : List (Bool × D)}, DbR K O H vs kvs → DbR K O' H' vs kvs
  | _, _, .nil => .nil
  | _, _, .cons a r => .cons (a.mv m) (r.mv m)
theorem DbR.any (p : Bool → Bool) : ∀ {vs : List (Bool × V)} {kvs : List (Bool × D)}, DbR K O H vs kvs → (vs.any fun kv => p kv.1) = kvs.any fun kv => p kv.1
  | _, _, .nil => rfl
  | _, _, .cons a r => by simp only [List.any_cons, r.any p]
theorem DbR.put {v : V} {d : D} (k : Bool) (a : At K O H v d) {vs : List (Bool × V)} {kvs : List (Bool × D)} (r : DbR K O H vs kvs) : DbR K O H (putK vs k v) (putB kvs k d) := by
  unfold putK putB
  rw [r.any fun j => decide (j = k)]
  split
  · rename_i h
    clear h
    induction r with
    | nil => exact .nil
    | cons b r ih =>
      simp only [List.map_cons]
      split
      · exact .cons a ih
      · exact .cons b ih
  · rename_i h
    clear h
    induction r with
    | nil => exact .cons a .nil
    | cons b r ih => exact .cons b ih
end
end DL
namespace DL
open PySem PySem.Spec PyProof.Rows L2
variable {K : PySem.W.Frag}
/-- the i-th statement of a class's body -/
def clsS (s : Stmt) (i : Nat) : Stmt := match s with
  | .ClassDef _ _ _ body _ _ _ _ _ _ _ => body.getD i (.Pass ⟨0, 0, 0, 0⟩)
  | _ => .Pass ⟨0, 0, 0, 0⟩
end DL
namespace DL
open PySem PySem.Spec PyProof.Rows L2
variable {K : PySem.W.Frag}
/-- .. where α holds o for the time being: it is nobody's data, and it stays -/
def Bs.hold (B : Bs) (α : Addr) (o : HO) : Bs := ⟨plus B.O0 α, B.H0, B.ps, fun a => if a = α then some o else B.kp a, B.fx⟩
section
variable {np : List Nat} {B : Bs} {σ : Sg} {H H1 H2 : Hp} {env e1 e2 : En} {α : Addr} {o : HO}
theorem Bs.hold_O (a : Addr) : (B.hold α o).O σ env a ↔ plus (B.O σ env) α a := by
  constructor
  · rintro ((h | h) | h)
    · exact .inl (.inl h)
    · exact .inr h
    · exact .inl (.inr h)
  · rintro ((h | h) | h)
    · exact .inl (.inl h)
    · exact .inr h
    · exact .inl (.inr h)
theorem SR.hold_out (I : SR K np (B.hold α o) σ H env) (hk : B.kp α = none) : SR K np B σ H env where
  len := I.len
  slot := fun i s h => by
    obtain ⟨v, e, q⟩ := I.slot i s h
    exact ⟨v, e, q.mv (Mv.less fun a z => (Bs.hold_O a).2 (.inl z)) (fun a ea ho => .inr ⟨i, s, h, ho, ea ▸ e⟩) fun _ _ _ _ z => z⟩
  dist := I.dist
  keep := I.keep
  dom := I.dom
  new := I.new
  o0 := fun a h => I.o0 a (.inl h)
  kept := fun a u h => I.kept a u (by
    show (if a = α then some o else B.kp a) = some u
    rw [if_neg fun e => by rw [e, hk] at h; cases h]
    exact h)
  kpo := fun i a h => by
    have k : (if a = α then some o else B.kp a) = none := I.kpo i a h
    split at k
    · cases k
    · exact k
  own0 := fun i a h z => I.own0 i a h (.inl z)
  par := I.par
  fix := I.fix
theorem SR.hold_at (I : SR K np (B.hold α o) σ H env) : H α = some o := I.kept α o (by show (if α = α then some o else B.kp α) = some o; rw [if_pos rfl])
theorem SR.hold_nO (I : SR K np (B.hold α o) σ H env) (h : ¬ B.O0 α) : ¬ B.O σ env α := fun z => z.elim h fun ⟨i, q⟩ => I.own0 i α q (.inr rfl)
/-- what is moved under a hold is moved without it, from before α -/
theorem Mv.hold (m1 : Mv (B.O σ env) (B.O σ e1) H H1) (m : Mv ((B.hold α o).O σ e1) ((B.hold α o).O σ e2) H1 H2) (na : H α = none) : Mv (B.O σ env) (B.O σ e2) H H2 := by
  refine ⟨fun a u e n => ?_, fun a z => ?_, fun a z => m1.dom a (m.dom a z)⟩
  · refine m.keep a u (m1.keep a u e n) fun q => ?_
    rcases (Bs.hold_O a).1 q with q | q
    · exact (m1.own a q).elim n fun z => by rw [z] at e; cases e
    · rw [q, na] at e; cases e
  · rcases m.own a ((Bs.hold_O a).2 (.inl z)) with q | q
    · rcases (Bs.hold_O a).1 q with q | q
      · exact m1.own a q
      · exact .inr (q ▸ na)
    · exact .inr (m1.dom a q)
end
end DL
namespace DL
open PySem PySem.Spec PyProof.Rows L2
/-- a zip of two lists that has given out i pairs, all of which are still there -/
def ZSt (h : Heap) (z TI TO i1 i2 l1 l2 S : Addr) (xs ys : Array Value) (i : Nat) : Prop :=
  IsPair h TI (.ref i1) (.ref i2) ∧ h.IsListIter i1 l1 i ∧ h.IsListIter i2 l2 i ∧ h.IsList l1 xs ∧ h.IsList l2 ys ∧
    ((IsZip h z TI TO .none ∧ ∃ a b, IsPair h TO a b) ∨ ∃ T f oT, IsZipHeld h z TI TO T f ∧ h.get? T = some oT ∧ T ≠ z ∧ T ≠ i1 ∧ T ≠ i2 ∧ T ≠ S)
/-- the zip's own objects, and the lists it walks, lie ahead of the list that is made -/
structure ZLow (z TI TO i1 i2 l1 l2 S : Addr) : Prop where
  D : ZipApart z TI TO i1 i2 l1 l2
  z : z < S
  TI : TI < S
  TO : TO < S
  i1 : i1 < S
  i2 : i2 < S
  l1 : l1 < S
  l2 : l2 < S
theorem ZSt.keep {h h' : Heap} {z TI TO i1 i2 l1 l2 S : Addr} {xs ys : Array Value} {i : Nat} (L : ZLow z TI TO i1 i2 l1 l2 S) (x : ZSt h z TI TO i1 i2 l1 l2 S xs ys i) (hk : ∀ b o, b ≠ S → h.get? b = some o → h'.get? b = some o) : ZSt h' z TI TO i1 i2 l1 l2 S xs ys i := by
  obtain ⟨hTI, h1, h2, hl1, hl2, hz⟩ := x
  refine ⟨hk _ _ (Nat.ne_of_lt L.TI) hTI, h1.at fun o e => hk _ o (Nat.ne_of_lt L.i1) e, h2.at fun o e => hk _ o (Nat.ne_of_lt L.i2) e, hl1.at fun o e => hk _ o (Nat.ne_of_lt L.l1) e, hl2.at fun o e => hk _ o (Nat.ne_of_lt L.l2) e, ?_⟩
  rcases hz with ⟨hz, a, b, hTO⟩ | ⟨T, f, oT, hz, hT, r1, r2, r3, r4⟩
  · exact .inl ⟨hk _ _ (Nat.ne_of_lt L.z) hz, a, b, hk _ _ (Nat.ne_of_lt L.TO) hTO⟩
  · exact .inr ⟨T, f, oT, hk _ _ (Nat.ne_of_lt L.z) hz, hk _ _ r4 hT, r1, r2, r3, r4⟩
section
variable {prog : Program} {w : World} {A : Around} {E : Value → Shared → Prop} {s : Shared} {R : Result → Shared → Prop} {z TI TO i1 i2 l1 l2 : Addr} {xs ys : Array Value} {n : Nat}
theorem ZSt.typeIs {S : Addr} {i : Nat} (x : ZSt s.heap z TI TO i1 i2 l1 l2 S xs ys i) : s.TypeIs (.ref z) "zip" := by
  obtain ⟨_, _, _, _, _, hz⟩ := x
  rcases hz with ⟨hz, _⟩ | ⟨_, _, _, hz, _⟩
  · exact ⟨_, hz, rfl⟩
  · exact ⟨_, hz, rfl⟩
end
end DL
namespace DL
open PySem PySem.Spec PyProof.Rows L2
mutual
/-- v stands for d; as: the lists in it, in order; none of them may be changed by others -/
inductive Tr (K : PySem.W.Frag) (O : Addr → Prop) (H : Hp) : V → D → List Addr → Prop
  | non : Tr K O H .non .none []
  | bl (b : Bool) : Tr K O H (.bl b) (.bool b) []
  | int (i : Int) : Tr K O H (.int i) (.int i) []
  | str (x : Str) : Tr K O H (.str x) (.str x) []
  | lst {a : Addr} {xs : List V} {ds : List D} {as : List Addr} : H a = some (.lst xs) → ¬ O a → TrAll K O H xs ds as → Tr K O H (.ref a) (.list ds) (a :: as)
  | tup {a : Addr} {xs : List V} {ds : List D} {as : List Addr} : LT K O H a xs → TrAll K O H xs ds as → Tr K O H (.ref a) (.tuple ds) as
inductive TrAll (K : PySem.W.Frag) (O : Addr → Prop) (H : Hp) : List V → List D → List Addr → Prop
  | nil : TrAll K O H [] [] []
  | cons {v : V} {vs : List V} {d : D} {ds : List D} {as bs : List Addr} : Tr K O H v d as → TrAll K O H vs ds bs → TrAll K O H (v :: vs) (d :: ds) (as ++ bs)
end
section
variable {K : PySem.W.Frag} {O O' : Addr → Prop} {H H' : Hp}
mutual
theorem Tr.mv (m : Mv O O' H H') : ∀ {v : V} {d : D} {as : List Addr}, Tr K O H v d as → Tr K O' H' v d as
  | _, _, _, .non => .non
  | _, _, _, .bl b => .bl b
  | _, _, _, .int i => .int i
  | _, _, _, .str x => .str x
  | _, _, _, .lst h n r => .lst (m.keep _ _ h n) (fun w => (m.own _ w).elim n fun q => by rw [q] at h; cases h) (TrAll.mv m r)
  | _, _, _, .tup l r => .tup (l.mv m) (TrAll.mv m r)
theorem TrAll.mv (m : Mv O O' H H') : ∀ {vs : List V} {ds : List D} {as : List Addr}, TrAll K O H vs ds as → TrAll K O' H' vs ds as
  | _, _, _, .nil => .nil
  | _, _, _, .cons h r => .cons (Tr.mv m h) (TrAll.mv m r)
end
mutual
/-- data without a list in it -/
def noLst : D → Bool
  | .list _ => false
  | .dict _ => false
  | .tuple ds => noLstAll ds
  | _ => true
def noLstAll : List D → Bool
  | [] => true
  | d :: ds => noLst d && noLstAll ds
end
mutual
theorem At.tr : ∀ {v : V} {d : D}, At K O H v d → noLst d = true → Tr K O H v d []
  | _, _, .non, _ => .non
  | _, _, .bl b, _ => .bl b
  | _, _, .int i, _ => .int i
  | _, _, .str x, _ => .str x
  | _, _, .tup l r, h => .tup l (AtAll.tr r (by simpa only [noLst] using h))
  | _, _, .lst _ _, h => by simp only [noLst] at h; cases h
  | _, _, .exc _ _ _, h => by simp only [noLst] at h; cases h
  | _, _, .excP _ _ _ _ _, h => by simp only [noLst] at h; cases h
  | _, _, .sti _ _ _ _ _ _ _, h => by simp only [noLst] at h; cases h
theorem AtAll.tr : ∀ {vs : List V} {ds : List D}, AtAll K O H vs ds → noLstAll ds = true → TrAll K O H vs ds []
  | _, _, .nil, _ => .nil
  | _, _, .cons a r, h => by
    simp only [noLstAll, Bool.and_eq_true] at h
    exact .cons (At.tr a h.1) (AtAll.tr r h.2)
end
end
mutual
def dep : D → Nat
  | .list ds => depAll ds + 1
  | .tuple ds => depAll ds + 1
  | _ => 0
def depAll : List D → Nat
  | [] => 0
  | d :: ds => max (dep d) (depAll ds)
end
mutual
def wt : D → Nat
  | .list ds => wtAll ds + 1
  | .tuple ds => wtAll ds + 1
  | _ => 0
def wtAll : List D → Nat
  | [] => 0
  | d :: ds => wt d + wtAll ds + 1
end
/-- all lists in v are new since H0, no two are one; its depth, its size -/
def TreeT (K : PySem.W.Frag) (n m : Nat) : Hp → (Addr → Prop) → V → Hp → D → Prop := fun H0 O v H d => ∃ as, Tr K O H v d as ∧ as.Nodup ∧ (∀ a ∈ as, H0 a = none) ∧ dep d ≤ n ∧ wt d ≤ m
theorem TreeT.le {K : PySem.W.Frag} {n m n' m' : Nat} {H0 : Hp} {O : Addr → Prop} {v : V} {H : Hp} {d : D} (h : TreeT K n m H0 O v H d) (hn : n ≤ n') (hm : m ≤ m') : TreeT K n' m' H0 O v H d := by
  obtain ⟨as, h1, h2, h3, h4, h5⟩ := h
  exact ⟨as, h1, h2, h3, Nat.le_trans h4 hn, Nat.le_trans h5 hm⟩
/-- a def that hands back such a value -/
def HasT (P : Program) (w : World) (K : PySem.W.Frag) (mg : Str → Option Value) (base : Heap) (ca : Str → Addr) (x : Str) (k : Nat) (ps : List Str) (np : List Nat) (fr : Bool) (F : FD) (a b : Nat) : Prop :=
  ∃ (f : Addr) (fd : FuncData), mg x = some (.ref f) ∧ PySem.W.keepIn K (.ref f) = true ∧ L2.Binds K fd ps [] ∧ FnG P w K mg base k f fd ps (spDT K ca np fr (TreeT K a b) F) ∧ Lk K f fd
theorem HasT.has {P : Program} {w : World} {K : PySem.W.Frag} {mg : Str → Option Value} {base : Heap} {ca : Str → Addr} {x : Str} {k : Nat} {ps : List Str} {np : List Nat} {fr : Bool} {F : FD} {a b : Nat} (h : HasT P w K mg base ca x k ps np fr F a b) : Has P w K mg base ca x k ps np fr F := by
  obtain ⟨f, fd, h1, h2, h3, h4, h5⟩ := h
  exact ⟨f, fd, h1, h2, h3, h4.weak fun _ _ _ _ q => spDT_of q, h5⟩
end DL
namespace DL
open PySem PySem.Spec PyProof.Rows L2
section
variable {K : PySem.W.Frag} {O O' : Addr → Prop} {H H' : Hp}
mutual
theorem Tr.at : ∀ {v : V} {d : D} {as : List Addr}, Tr K O H v d as → At K O H v d
  | _, _, _, .non => .non
  | _, _, _, .bl b => .bl b
  | _, _, _, .int i => .int i
  | _, _, _, .str x => .str x
  | _, _, _, .lst e n r => .lst ⟨.inl (.inl e), fun w => absurd w n⟩ (TrAll.at r)
  | _, _, _, .tup l r => .tup l (TrAll.at r)
theorem TrAll.at : ∀ {vs : List V} {ds : List D} {as : List Addr}, TrAll K O H vs ds as → AtAll K O H vs ds
  | _, _, _, .nil => .nil
  | _, _, _, .cons h r => .cons (Tr.at h) (TrAll.at r)
end
end
end DL
namespace DL
open PySem PySem.Spec PyProof.Rows L2
mutual
def noDct : D → Bool
  | .list ds => noDctAll ds
  | .tuple ds => noDctAll ds
  | .dict _ => false
  | _ => true
def noDctAll : List D → Bool
  | [] => true
  | d :: ds => noDct d && noDctAll ds
end
def Bs.fixv (B : Bs) (j : Nat) (v : V) : Bs := ⟨B.O0, B.H0, B.ps, B.kp, (j, v) :: B.fx⟩
section
variable {K : PySem.W.Frag} {np : List Nat} {B : Bs} {σ : Sg} {H : Hp} {env : En}
theorem SR.fixv (I : SR K np B σ H env) {j : Nat} {v : V} (hv : σ[j]? = some (some v)) : SR K (j :: np) (B.fixv j v) σ H env where
  len := I.len
  slot := I.slot
  dist := I.dist
  keep := I.keep
  dom := I.dom
  new := I.new
  o0 := I.o0
  kept := I.kept
  kpo := I.kpo
  own0 := I.own0
  par := fun p hp => let ⟨h1, h2, h3⟩ := I.par p hp; ⟨h1, h2, List.mem_cons_of_mem _ h3⟩
  fix := fun p hp => by
    rcases List.mem_cons.mp hp with rfl | hp
    · exact ⟨hv, List.mem_cons_self ..⟩
    · obtain ⟨h1, h2⟩ := I.fix p hp
      exact ⟨h1, List.mem_cons_of_mem _ h2⟩
theorem SR.unfixv {j : Nat} {v : V} (hp : ∀ p ∈ B.ps, p.1 ∈ np) (hf : ∀ p ∈ B.fx, p.1 ∈ np) (I : SR K (j :: np) (B.fixv j v) σ H env) : SR K np B σ H env where
  len := I.len
  slot := I.slot
  dist := I.dist
  keep := I.keep
  dom := I.dom
  new := I.new
  o0 := I.o0
  kept := I.kept
  kpo := I.kpo
  own0 := I.own0
  par := fun p q => let ⟨h1, h2, _⟩ := I.par p q; ⟨h1, h2, hp p q⟩
  fix := fun p q => ⟨(I.fix p (List.mem_cons_of_mem _ q)).1, hf p q⟩
end
def Z.at (z : Z) (j : Nat) : Z := ⟨z.ca, j :: z.np, z.W, z.rt⟩
/-- what is known of the name's value, since the state before -/
structure MOk (K : PySem.W.Frag) (n m : Nat) (z : Z) (B : Bs) (σ0 : Sg) (H0 : Hp) (env0 : En) (σ : Sg) (H : Hp) (env : En) (v : V) (d : D) (as : List Addr) : Prop where
  tr : Tr K (B.O σ env) H v d as
  nd : as.Nodup
  dp : dep d ≤ n
  sz : wt d ≤ m
  nw : ∀ a ∈ as, H0 a = none
  nb : ∀ a ∈ as, B.H0 a = none
  nk : ∀ a ∈ as, B.kp a = none
  mv : Mv (B.O σ0 env0) (B.O σ env) H0 H
  ps : ∀ p ∈ B.ps, p.1 ∈ z.np
  fx : ∀ p ∈ B.fx, p.1 ∈ z.np
theorem MOk.step {K : PySem.W.Frag} {n m : Nat} {z : Z} {B : Bs} {σ0 σ σ' : Sg} {H0 H H' : Hp} {env0 env env' : En} {v : V} {d : D} {as : List Addr} (h : MOk K n m z B σ0 H0 env0 σ H env v d as) (mm : Mv (B.O σ env) (B.O σ' env') H H') : MOk K n m z B σ0 H0 env0 σ' H' env' v d as :=
  ⟨h.tr.mv mm, h.nd, h.dp, h.sz, h.nw, h.nb, h.nk, h.mv.trans mm, h.ps, h.fx⟩
end DL
namespace DL
open PySem PySem.Spec PyProof.Rows L2
/-- a def by a promise of its own -/
def HasV (P : Program) (w : World) (K : PySem.W.Frag) (mg : Str → Option Value) (base : Heap) (x : Str) (k : Nat) (ps : List Str) (sp : Sp) : Prop :=
  ∃ (f : Addr) (fd : FuncData), mg x = some (.ref f) ∧ PySem.W.keepIn K (.ref f) = true ∧ L2.Binds K fd ps [] ∧ FnG P w K mg base k f fd ps sp
section
variable {P : Program} {w : World} {K : PySem.W.Frag} {mg : Str → Option Value} {base : Heap}
theorem fun_okV {sp : Sp} {x qual : Str} {st : Stmt} {f : Addr} {fd : FuncData} {N ps : List Str} {k : Nat} (F : Fun K x qual st f fd) (S : FnScope N ps (defScope st)) (hps : ps.length ≤ N.length)
    (hbody : ∀ (cdv : Value) (A : Around) (outer : List Env) (s : Shared) (H : Hp) (E : XK) (Q : VK) (vs : List V), Room k (A.deeper (envOfC qual (defScope st) s.heap.objs.size f cdv)) → A.guards = some [] → vs.length = ps.length → sp vs H Q E →
      ∃ t, PSs (cxOf (L2.CX P w) P w K mg base N qual (defScope st) f cdv A outer s H E) (defBody st) t ∧ t { nx := fun _ H' => Q .non H', rt := Q } (start N vs) H) :
    FnG P w K mg base (k + 1) f fd ps sp := by
  obtain ⟨oc, od, kV, doc, pm, an, cdv, ct, osl, rfl, lk, hcd⟩ := F.ex
  refine ⟨fun A outer s H args us vs Q E hr hgd e0 hb r hl hsp => ?_⟩
  have KX : K.In s.heap := e0.mod.kin.keeps fun b o e => (e0.bs b o e).1
  have lim : s.heap.NoLimit := e0.mod.nolimit.keeps fun b o e => (e0.bs b o e).1
  have hkind : ∀ y ∈ ps.zip us, (defScope st).names.lookup y.1 = some .local ∨ ((defScope st).names.lookup y.1 = some .cell ∧ ((cellsFrom (s.heap.objs.size + 1) (defScope st).names []).lookup y.1).isSome = true) := fun ⟨n, v⟩ hy => by
    rcases S.par n (List.of_mem_zip hy).1 with q | q
    · exact .inl q
    · exact .inr ⟨q, PySem.W.cellsFrom_some _ _ _ (.inl q)⟩
  refine codeAny_call_function hr.depth (KX _ _ lk) rfl S.co S.gen rfl (PySem.W.codeRec_of KX hcd) (hb _ _ _ _ ?_)
  refine wpAny_newFunctionEnv_cells S.kind hkind fun env he s1 x => ?_
  subst he
  refine ⟨lim.keeps x.toInCall.keep, codeAny_func ?_⟩
  obtain ⟨t, ht, hq⟩ := hbody cdv A outer s H E Q vs (hr.deeper _) hgd hl hsp
  have I : Inv (cxOf (L2.CX P w) P w K mg base N qual (defScope st) f cdv A outer s H E) [] (start N vs) H s1 := inv_start S hr.hd e0 hl r x
  refine wpAny_mono (ht.run [] s1 (start N vs) H _ I hq) (fun fl s' hs => ?_) fun e s' hs => hs
  have fin : ∀ {σ' : Sg} {H' : Hp} {v : V} {u : Value}, Inv (cxOf (L2.CX P w) P w K mg base N qual (defScope st) f cdv A outer s H E) [] σ' H' s' → RelV v u → Q v H' → CE outer P w H s Q u s' :=
    fun {σ' H' v u} J rv q => ⟨v, H', J.os, J.bare, J.base, J.hok, rv, q⟩
  cases fl with
  | ret u =>
    obtain ⟨v, σ', H', J, rv, q⟩ := hs
    exact fin J rv q
  | next =>
    obtain ⟨σ', H', J, q⟩ := hs
    exact fin (v := V.non) (u := Value.none) J rfl q
  | brk =>
    obtain ⟨_, _, _, q⟩ := hs
    exact False.elim q
  | cont =>
    obtain ⟨_, _, _, q⟩ := hs
    exact False.elim q
theorem Stands.hasV {sp : Sp} {x : Str} {st : Stmt} {N ps : List Str} {k : Nat} (S : Stands K mg x st ps) (sc : FnScope N ps (defScope st)) (hps : ps.length ≤ N.length)
    (hbody : ∀ (f : Addr) (cdv : Value) (A : Around) (outer : List Env) (s : Shared) (H : Hp) (E : XK) (Q : VK) (vs : List V), Room k (A.deeper (envOfC x (defScope st) s.heap.objs.size f cdv)) → A.guards = some [] → vs.length = ps.length → sp vs H Q E →
      ∃ t, PSs (cxOf (L2.CX P w) P w K mg base N x (defScope st) f cdv A outer s H E) (defBody st) t ∧ t { nx := fun _ H' => Q .non H', rt := Q } (start N vs) H) :
    HasV P w K mg base x (k + 1) ps sp := by
  obtain ⟨f, fd, h1, h2, h3⟩ := S
  exact ⟨f, fd, h1, h2.kp, h3, fun_okV h2 sc hps fun cdv A outer s H E => hbody f cdv A outer s H E⟩
end
theorem pe_callV {X : Cx} {e : Expr} {es : List Expr} {t : TA} {N j k : Nat} {ps : List Str} {x : Str} {p pos : Pos} {sp : Sp} {W : WX} (h : HasV X.prog X.w X.K X.mg X.base x j ps sp) (hr : Room k X.A) (hj : j ≤ k) (hgd : X.A.guards = some []) (hg : Gl X x) (hn : ps.length = N)
    (tk : Takes X W) (ha : PA X (e :: es) t) (hdb : (x == ("__debug__" : Str)) = false := by decide) (he : starEach (e :: es) X.env = (false, eval e X.env) :: starEach es X.env := by rfl) (hpl : (backTo pos (starEach es X.env)).any (·.1) = false := by rfl) :
    PE X (.Call (.Name x p) (e :: es) [] pos) (tCallG N sp (WE W) t) := by
  obtain ⟨f, fd, h1, h2, h3, h4⟩ := h
  subst hn
  exact pe_callG (h4.mono hj) hr hgd hg h1 h2 h3 (fun σ => passAt tk σ) ha hdb he hpl
def F0 : Addr → Prop := fun _ => False
def B0 (H : Hp) : Bs := ⟨fun _ => False, H, [], fun _ => none, []⟩
inductive FlatR (K : PySem.W.Frag) (H : Hp) : Sg → En → Prop
  | nil : FlatR K H [] []
  | non {σ : Sg} {env : En} (x : Option V) : FlatR K H σ env → FlatR K H (x :: σ) (none :: env)
  | im {σ : Sg} {env : En} {v : V} {d : D} : At K F0 H v d → FlatR K H σ env → FlatR K H (some v :: σ) (some (.im d) :: env)
section
variable {K : PySem.W.Frag} {H : Hp}
theorem FlatR.len : ∀ {σ : Sg} {env : En}, FlatR K H σ env → σ.length = env.length
  | _, _, .nil => rfl
  | _, _, .non _ r => congrArg (· + 1) r.len
  | _, _, .im _ r => congrArg (· + 1) r.len
theorem FlatR.get : ∀ {σ : Sg} {env : En} {i : Nat} {s : Sl}, FlatR K H σ env → env[i]? = some (some s) → ∃ (d : D) (v : V), s = .im d ∧ σ[i]? = some (some v) ∧ At K F0 H v d
  | _, _, _, _, .nil, h => by simp at h
  | _, _, 0, _, .non _ _, h => by simp at h
  | _, _, 0, _, .im (v := v) (d := d) a _, h => ⟨d, v, by simpa using h.symm, rfl, a⟩
  | _, _, i + 1, _, .non _ r, h => by simpa using r.get (i := i) (by simpa using h)
  | _, _, i + 1, _, .im _ r, h => by simpa using r.get (i := i) (by simpa using h)
theorem FlatR.noO {σ : Sg} {env : En} (r : FlatR K H σ env) (B : Bs) (hB : ∀ a, ¬ B.O0 a) (a : Addr) : ¬ B.O σ env a := fun w => w.elim (hB a) fun ⟨i, s, h1, h2, _⟩ => by
  obtain ⟨d, v, rfl, _⟩ := r.get h1
  cases h2
theorem FlatR.sr {np : List Nat} {σ : Sg} {env : En} (r : FlatR K H σ env) : SR K np (B0 H) σ H env where
  len := r.len
  slot := fun i s h => by
    obtain ⟨d, v, rfl, e, a⟩ := r.get h
    exact ⟨v, e, At.mv (Mv.less fun a w => r.noO (B0 H) (fun _ h => h) a w) a⟩
  dist := fun i j a h _ => (r.noO (B0 H) (fun _ h => h) a (.inr ⟨i, h⟩)).elim
  keep := fun a o h _ => h
  dom := fun a h => h
  new := fun i a h => (r.noO (B0 H) (fun _ h => h) a (.inr ⟨i, h⟩)).elim
  o0 := fun a h => h.elim
  kept := fun a o h => by cases h
  kpo := fun i a h => rfl
  own0 := fun i a h w => w
  par := fun p h => by cases h
  fix := fun p h => by cases h
end
section
variable {K : PySem.W.Frag} {O : Addr → Prop} {H H' : Hp}
mutual
theorem Tr.count : ∀ {v : V} {d : D} {as : List Addr}, Tr K O H v d as → as.length ≤ wt d
  | _, _, _, .non => Nat.zero_le _
  | _, _, _, .bl b => Nat.zero_le _
  | _, _, _, .int i => Nat.zero_le _
  | _, _, _, .str x => Nat.zero_le _
  | _, _, _, .lst _ _ r => by have := TrAll.count r; simp only [List.length_cons, wt]; omega
  | _, _, _, .tup _ r => by have := TrAll.count r; simp only [wt]; omega
theorem TrAll.count : ∀ {vs : List V} {ds : List D} {as : List Addr}, TrAll K O H vs ds as → as.length ≤ wtAll ds
  | _, _, _, .nil => Nat.zero_le _
  | _, _, _, .cons h r => by have := Tr.count h; have := TrAll.count r; simp only [List.length_append, wtAll]; omega
end
theorem TrAll.append : ∀ {vs us : List V} {ds es : List D} {as bs : List Addr}, TrAll K O H vs ds as → TrAll K O H us es bs → TrAll K O H (vs ++ us) (ds ++ es) (as ++ bs)
  | _, _, _, _, _, _, .nil, q => q
  | _, _, _, _, _, _, .cons x r, q => by
    rw [List.append_assoc]
    exact .cons x (TrAll.append r q)
end
end DL
namespace DL
open PySem PySem.Spec PyProof.Rows L2
section
variable {S α β : Type} {env : En} {f g k : EF} {h h' : D → D → Option D} {i j : Nat}
theorem bind_ok (a : α) (f : α → R S β) : (R.ok a : R S α).bind f = f a := rfl
theorem ofO_some (a : α) : (ofO (some a) : R S α) = .ok a := rfl
theorem calm_ok (a : α) : (R.ok a : R S α).calm = .ok a := rfl
theorem fVar_ap : fVar i env = match env[i]? with | some (some (.im d)) => .ok (d, env) | _ => .stuck := rfl
theorem fIxO_ap : fIxO i g env = match env[i]? with
  | some (some (.ow _)) => (g env).bind fun q => match q.2[i]? with
    | some (some (.ow ds)) => (ofO (ixD (.list ds) q.1)).bind fun r => .ok (r, q.2)
    | _ => .stuck
  | _ => .stuck := rfl
theorem fLenO_ap : fLenO i env = match env[i]? with | some (some (.ow ds)) => .ok (.int ds.length, env) | _ => .stuck := rfl
theorem fReprO_ap : fReprO i env = match env[i]? with | some (some (.ow ds)) => (ofO (reprD [.list ds])).bind fun r => .ok (r, env) | _ => .stuck := rfl
theorem fIsiO_ap (T : String) : fIsiO T i env = match env[i]? with | some (some (.ow _)) => (ofO (isTy T (.list []))).bind fun r => .ok (r, env) | _ => .stuck := rfl
theorem fOpL_ap : fOpL i h g env = match env[i]? with
  | some (some (.ow _)) => (g env).bind fun q => match q.2[i]? with
    | some (some (.ow ds)) => (ofO (h (.list ds) q.1)).bind fun r => .ok (r, q.2)
    | _ => .stuck
  | _ => .stuck := rfl
theorem fOpR_ap : fOpR i h f env = (f env).bind fun q => match q.2[i]? with
    | some (some (.ow ds)) => (ofO (h q.1 (.list ds))).bind fun r => .ok (r, q.2)
    | _ => .stuck := rfl
theorem cSl_ap {c : En → R En (List PArg × En)} : cSl j c env = match env[j]? with
  | some (some s) => if s.own = true then (c env).bind fun q => .ok (.sl j :: q.1, q.2) else .stuck
  | _ => .stuck := rfl
variable {a b : SF}
theorem sSeq_ap : sSeq a b env = (a env).bind fun o => match o with | .nx e => b e | o => .ok o := rfl
theorem sRetO_ap : sRetO i env = match env[i]? with | some (some (.ow ds)) => .ok (.rt (.list ds) env) | _ => .stuck := rfl
theorem sFrz_ap : sFrz i a env = match env[i]? with | some (some (.ow ds)) => a (env.set i (some (.im (.list ds)))) | _ => .stuck := rfl
theorem sApp_ap : sApp i f env = match env[i]? with
  | some (some (.ow _)) => (f env).bind fun p => match p.2[i]? with
    | some (some (.ow ds)) => if ds.length < sizeLine then .ok (.nx (p.2.set i (some (.ow (ds ++ [p.1]))))) else .stuck
    | _ => .stuck
  | _ => .stuck := rfl
theorem sAugS_ap {op : Int → Int → Int} : sAugS i op g f env = match env[i]? with
  | some (some (.ow _)) => (g env).bind fun q => match q.2[i]?, q.1 with
    | some (some (.ow ds)), .int k => if 0 ≤ k then match ds[k.toNat]? with
      | some (.int x) => (f q.2).bind fun p => match p.2[i]?, p.1 with
        | some (some (.ow es)), .int y => if k.toNat < es.length then .ok (.nx (p.2.set i (some (.ow (es.set k.toNat (.int (op x y))))))) else .stuck
        | _, _ => .stuck
      | _ => .stuck
      else .stuck
    | _, _ => .stuck
  | _ => .stuck := rfl
theorem sAug_ap {op : Int → Int → Int} : sAug i op f env = match env[i]? with
  | some (some (.im (.int x))) => (f env).bind fun p => match p.1 with
    | .int y => .ok (.nx (p.2.set i (some (.im (.int (op x y))))))
    | _ => .stuck
  | _ => .stuck := rfl
theorem forF_cons {T : TF} {d : D} {ds : List D} : forF T a (d :: ds) env = (ofO (T d env)).bind fun e1 => (a e1).bind fun o => match o with
    | .nx e => forF T a ds e
    | .ct e => forF T a ds e
    | .bk e => .ok (.nx e)
    | .rt d e => .ok (.rt d e) := rfl
theorem resolve_im {d : D} {as : List PArg} : resolve env (.im d :: as) = (resolve env as).map (.im d :: ·) := rfl
theorem resolve_sl {as : List PArg} : resolve env (.sl j :: as) = match env[j]? with | some (some s) => if s.own = true then (resolve env as).map (s :: ·) else none | _ => none := rfl
theorem back_nil {es : List Sl} : back [] es env = env := by cases es <;> rfl
theorem runD_ap {n : Nat} {es : List Sl} : runD n a es = match a (es.map some ++ List.replicate (n - es.length) none) with
  | .ok (.rt d e) => .ok (d, backP es.length e)
  | .ok (.nx e) => .ok (.none, backP es.length e)
  | .err x e => .err x (backP es.length e)
  | _ => .stuck := rfl
end
theorem sizeLine_lt (n : Nat) (h : n ≤ 16777216) : n ≤ sizeLine := by rw [sizeLine_eq]; exact h
theorem addD_int (i j : Int) : addD (.int i) (.int j) = some (.int (i + j)) := rfl
theorem subD_int (i j : Int) : subD (.int i) (.int j) = some (.int (i - j)) := rfl
theorem negD_int (i : Int) : negD (.int i) = some (.int (-i)) := rfl
theorem mulD_l {i j : Int} (h1 : -18446744073709551616 < i) (h2 : i < 18446744073709551616) : mulD (.int i) (.int j) = some (.int (i * j)) := by
  simp only [mulD]
  rw [if_pos (show CMulV i j from Or.inl (Or.inl ⟨by omega, by omega⟩))]
theorem mulD_r {i j : Int} (h1 : -18446744073709551616 < j) (h2 : j < 18446744073709551616) : mulD (.int i) (.int j) = some (.int (i * j)) := by
  simp only [mulD]
  rw [if_pos (show CMulV i j from Or.inl (Or.inr ⟨by omega, by omega⟩))]
theorem modD_pos {i j : Int} (h : 0 < j) : modD (.int i) (.int j) = some (.int (i % j)) := by
  simp only [modD]
  rw [if_pos (by omega), Int.fmod_eq_emod_of_nonneg _ (by omega)]
theorem fdivD_pos {i j : Int} (h : 0 < j) (h2 : j < 1073741824) : fdivD (.int i) (.int j) = some (.int (i / j)) := by
  simp only [fdivD]
  rw [if_pos ⟨by omega, by omega⟩, Int.fdiv_eq_ediv_of_nonneg _ (by omega)]
theorem ltD_int (i j : Int) : ltD (.int i) (.int j) = some (.bool (decide (i < j))) := rfl
theorem leD_int (i j : Int) : leD (.int i) (.int j) = some (.bool (decide (i ≤ j))) := rfl
theorem gtD_int (i j : Int) : gtD (.int i) (.int j) = some (.bool (decide (j < i))) := rfl
theorem geD_int (i j : Int) : geD (.int i) (.int j) = some (.bool (decide (j ≤ i))) := rfl
theorem intD_int (i : Int) : intD [.int i] = some (.int i) := rfl
theorem lenD_list (ds : List D) : lenD [.list ds] = some (.int ds.length) := rfl
theorem lenD_tuple (ds : List D) : lenD [.tuple ds] = some (.int ds.length) := rfl
theorem lenD_lmap {α : Type} (f : α → D) (xs : List α) : lenD [.list (xs.map f)] = some (.int xs.length) := by simp [lenD]
theorem lenD_tmap {α : Type} (f : α → D) (xs : List α) : lenD [.tuple (xs.map f)] = some (.int xs.length) := by simp [lenD]
theorem itemsD_list (ds : List D) : itemsD (.list ds) = some ds := rfl
theorem itemsD_tuple (ds : List D) : itemsD (.tuple ds) = some ds := rfl
theorem rangeD1_int {j : Int} (h1 : -1000000000 ≤ j) (h2 : j ≤ 1000000000) : rangeD1 [.int j] = some (rangeL 0 j.toNat) := by
  simp only [rangeD1]; rw [if_pos (by omega)]
theorem rangeD2_int {i j : Int} (h1 : -1000000000 ≤ i) (h2 : i ≤ 1000000000) (h3 : -1000000000 ≤ j) (h4 : j ≤ 1000000000) : rangeD2 [.int i, .int j] = some (rangeL i (j - i).toNat) := by
  simp only [rangeD2]; rw [if_pos (by omega)]
theorem notD_bool (b : Bool) : notD (.bool b) = some (.bool (!b)) := rfl
theorem atI_nat' {ds : List D} {i : Int} {d : D} (h0 : 0 ≤ i) (h : ds[i.toNat]? = some d) : atI ds i = some d := by
  have e : ((i.toNat : Nat) : Int) = i := by omega
  rw [← e]; exact atI_nat h
theorem maxD2 (i j : Int) : maxD [.int i, .int j] = some (.int (max i j)) := rfl
theorem minD2 (i j : Int) : minD [.int i, .int j] = some (.int (min i j)) := rfl
theorem tupleD_list (ds : List D) : tupleD [.list ds] = some (.tuple ds) := rfl
theorem listD_tuple (ds : List D) : listD [.tuple ds] = some (.list ds) := rfl
theorem listD_list (ds : List D) : listD [.list ds] = some (.list ds) := rfl
theorem boolsD_map : ∀ bs : List Bool, boolsD (bs.map PyData.bool) = some bs
  | [] => rfl
  | b :: r => by simp only [List.map_cons, boolsD, boolsD_map r, Option.map_some]
theorem allD_list (bs : List Bool) : allD [.list (bs.map .bool)] = some (.bool (bs.all id)) := by simp only [allD, boolsD_map, Option.map_some]
structure Nice (n w : Nat) (d : D) : Prop where
  lay : d.canLay0 = true
  dep : d.depth ≤ n
  wt : d.weight ≤ w
  sh : d.showable = true
  ls : d.leavesShort 300 = true
theorem Nice.mono {n w n' w' : Nat} {d : D} (h : Nice n w d) (hn : n ≤ n') (hw : w ≤ w') : Nice n' w' d := ⟨h.lay, Nat.le_trans h.dep hn, Nat.le_trans h.wt hw, h.sh, h.ls⟩
theorem nice_none : Nice 0 0 .none := ⟨by simp [PyData.canLay0], by simp [PyData.depth], by simp [PyData.weight], by simp [PyData.showable], by simp [PyData.leavesShort]⟩
theorem nice_bool (b : Bool) : Nice 0 0 (.bool b) := ⟨by simp [PyData.canLay0], by simp [PyData.depth], by simp [PyData.weight], by simp [PyData.showable], by simp [PyData.leavesShort]⟩
theorem nice_int {i : Int} (h : i.natAbs.log2 < 100) : Nice 0 100 (.int i) := by
  refine ⟨by simp [PyData.canLay0], by simp [PyData.depth], ?_, ?_, ?_⟩
  · simp only [PyData.weight]; split <;> omega
  · simp only [PyData.showable, decide_eq_true_eq]; omega
  · simp only [PyData.leavesShort, PyData.shown]
    have e := int_text_length_le (a := i) (k := 100) (by decide) h
    refine decide_eq_true ?_
    rw [PySem.ofString_length]; omega
theorem log2_small {n : Nat} (h : n < 2 ^ 100) : n.log2 < 100 := by
  by_cases h0 : n = 0
  · subst h0; decide
  · exact (Nat.log2_lt h0).2 h
theorem nice_small {i : Int} (h1 : -1000000000000000000000000000000 ≤ i) (h2 : i ≤ 1000000000000000000000000000000) : Nice 0 100 (.int i) := nice_int (log2_small (Nat.lt_of_le_of_lt (show i.natAbs ≤ 1000000000000000000000000000000 by omega) (by decide)))
theorem Nice.shaped {n w : Nat} {d : D} (h : Nice n w d) (hn : n ≤ 64) : SeqAt.shaped d = true := by
  unfold SeqAt.shaped
  rw [h.lay, Bool.true_and, decide_eq_true_eq]
  exact Nat.le_trans h.dep hn
theorem neD_int (x y : Int) : neD (.int x) (.int y) = some (.bool (!decide (x = y))) := by
  unfold neD SeqAt.shaped; simp only [PyData.canLay0, PyData.depth, PyData.eqv]; by_cases q : x = y <;> simp [q]
theorem eqD_int (x y : Int) : eqD (.int x) (.int y) = some (.bool (decide (x = y))) := by
  unfold eqD SeqAt.shaped; simp only [PyData.canLay0, PyData.depth, PyData.eqv]; by_cases q : x = y <;> simp [q]
/-- each turn leaves the slots as they were -/
theorem compF_all {T : TF} {t : En → R En (Bool × En)} {f : EF} {vs : List Nat} {env : En} {b : D → Bool} {v : D → D} : ∀ {ds acc : List D}, acc.length + ds.length ≤ sizeLine →
    (∀ d ∈ ds, ∃ e1 e2, T d env = some e1 ∧ t e1 = .ok (b d, e2) ∧ (b d = true → ∃ e3, f e2 = .ok (v d, e3) ∧ okVs e3 vs = true ∧ wipeE e3 vs = env) ∧ (b d = false → okVs e2 vs = true ∧ wipeE e2 vs = env)) →
    compF T t f vs ds acc env = .ok (acc ++ (ds.filter b).map v, env)
  | [], acc, _, _ => by simp [compF]
  | d :: ds, acc, hl, h => by
    obtain ⟨e1, e2, h1, h2, h3, h4⟩ := h d (by simp)
    have ih := fun acc' (hl' : acc'.length + ds.length ≤ sizeLine) => compF_all (T := T) (t := t) (f := f) (vs := vs) (env := env) (b := b) (v := v) (ds := ds) (acc := acc') hl' fun x hx => h x (by simp [hx])
    unfold compF
    rw [h1, ofO_some, bind_ok, h2, calm_ok, bind_ok]
    simp only [List.length_cons] at hl
    cases hb : b d with
    | true =>
      obtain ⟨e3, h5, h6, h7⟩ := h3 hb
      simp only [if_true]
      rw [h5, calm_ok, bind_ok]
      simp only
      rw [if_pos ⟨by omega, h6⟩, h7, ih _ (by simp; omega)]
      simp [List.filter_cons, hb]
    | false =>
      obtain ⟨h6, h7⟩ := h4 hb
      simp only [Bool.false_eq_true, if_false]
      rw [if_pos h6, h7, ih _ (by omega)]
      simp [List.filter_cons, hb]
end DL
namespace DL
open PySem PySem.Spec PyProof.Rows L2
structure Ev {S α : Type} (m : R S (α × S)) (Q : α → S → Prop) (E : Exn → S → Prop) : Prop where
  out : match m with
    | .ok p => Q p.1 p.2
    | .err x s => E x s
    | .stuck => False
def EvO {α : Type} (o : Option α) (Q : α → Prop) : Prop := ∃ r, o = some r ∧ Q r
/-- a statement: goes on, returns, breaks, continues, raises -/
structure Es (m : R En Out) (N : En → Prop) (P : D → En → Prop) (B C : En → Prop) (E : Exn → En → Prop) : Prop where
  out : match m with
    | .ok (.nx e) => N e
    | .ok (.rt d e) => P d e
    | .ok (.bk e) => B e
    | .ok (.ct e) => C e
    | .err x e => E x e
    | .stuck => False
theorem ex_mk {α : Type} {p q : α → Prop} (a : α) (h : p a) (k : q a) : ∃ a, p a ∧ q a := ⟨a, h, k⟩
theorem tt_mk {X Y : Prop} (x : X) : (true = true → X) ∧ (true = false → Y) := ⟨fun _ => x, fun h => Bool.noConfusion h⟩
theorem ff_mk {X Y : Prop} (y : Y) : (false = true → X) ∧ (false = false → Y) := ⟨fun h => Bool.noConfusion h, fun _ => y⟩
theorem nt_mk {X Y : Prop} (y : Y) : ((!true) = true → X) ∧ ((!true) = false → Y) := ⟨fun h => Bool.noConfusion h, fun _ => y⟩
theorem nf_mk {X Y : Prop} (x : X) : ((!false) = true → X) ∧ ((!false) = false → Y) := ⟨fun _ => x, fun h => Bool.noConfusion h⟩
inductive Par2 : List D → (D → D → Prop) → Prop
  | mk {d d' : D} {N : D → D → Prop} (q : N d d') : Par2 [d, d'] N
inductive Par3 : List D → (D → D → D → Prop) → Prop
  | mk {d d' d'' : D} {N : D → D → D → Prop} (q : N d d' d'') : Par3 [d, d', d''] N
theorem ev_o {α : Type} {o : Option α} {Q : α → Prop} {r : α} (h : o = some r) (q : Q r) : EvO o Q := ⟨r, h, q⟩
section
variable {S α β : Type}
theorem ev_imp {m : R S (α × S)} {Q Q' : α → S → Prop} {E E' : Exn → S → Prop} (h : Ev m Q E) (hq : ∀ a s, Q a s → Q' a s) (he : ∀ x s, E x s → E' x s) : Ev m Q' E' := by
  cases m with
  | stuck => exact ⟨h.1⟩
  | ok a => exact ⟨hq _ _ h.1⟩
  | err x s => exact ⟨he _ _ h.1⟩
theorem ev_imp1 {m : R S (α × S)} {Q Q' : α → S → Prop} {E : Exn → S → Prop} (h : Ev m Q E) (hq : ∀ a s, Q a s → Q' a s) : Ev m Q' E := ev_imp h hq fun _ _ h => h
theorem ev_bind {m : R S (α × S)} {f : α × S → R S (β × S)} {Q : β → S → Prop} {E : Exn → S → Prop} (h : Ev m (fun a s => Ev (f (a, s)) Q E) E) : Ev (m.bind f) Q E := by
  cases m with
  | stuck => exact ⟨h.1⟩
  | ok a => exact h.1
  | err x s => exact ⟨h.1⟩
theorem ev_ob {o : Option α} {f : α → R S (β × S)} {Q : β → S → Prop} {E : Exn → S → Prop} (h : EvO o fun a => Ev (f a) Q E) : Ev ((ofO o).bind f) Q E := by
  obtain ⟨r, e, q⟩ := h
  subst e
  exact q
theorem ev_obk {o : Option α} {e : S} {Q : α → S → Prop} {E : Exn → S → Prop} (h : EvO o fun a => Q a e) : Ev ((ofO o).bind fun r => .ok (r, e)) Q E := by
  obtain ⟨r, h, q⟩ := h
  subst h
  exact ⟨q⟩
theorem ev_eq {m : R S (α × S)} {Q : α → S → Prop} (h : Ev m Q fun _ _ => False) : ∃ a s, m = .ok (a, s) ∧ Q a s := by
  cases m with
  | stuck => exact h.1.elim
  | ok a => exact ⟨a.1, a.2, rfl, h.1⟩
  | err x s => exact h.1.elim
theorem ev_eqs {m : R S (α × S)} {a : α} {s : S} (h : Ev m (fun x t => x = a ∧ t = s) fun _ _ => False) : m = .ok (a, s) := by
  obtain ⟨x, t, e, rfl, rfl⟩ := ev_eq h; exact e
theorem ev_ok {a : α} {s : S} {Q : α → S → Prop} {E : Exn → S → Prop} (q : Q a s) : Ev (.ok (a, s)) Q E := ⟨q⟩
theorem ev_of {m : R S (α × S)} {Q : α → S → Prop} {E : Exn → S → Prop} {a : α} {s : S} (h : m = .ok (a, s)) (q : Q a s) : Ev m Q E := by subst h; exact ⟨q⟩
end
section
variable {N N' : En → Prop} {P P' : D → En → Prop} {B B' C C' : En → Prop} {E : Exn → En → Prop}
theorem es_imp {m : R En Out} (h : Es m N P B C E) (hn : ∀ e, N e → N' e) (hp : ∀ d e, P d e → P' d e) (hb : ∀ e, B e → B' e) (hc : ∀ e, C e → C' e) : Es m N' P' B' C' E := by
  cases m with
  | stuck => exact ⟨h.1⟩
  | ok o => cases o with
    | nx e => exact ⟨hn _ h.1⟩
    | rt d e => exact ⟨hp _ _ h.1⟩
    | bk e => exact ⟨hb _ h.1⟩
    | ct e => exact ⟨hc _ h.1⟩
  | err x s => exact ⟨h.1⟩
theorem es_bind {α : Type} {m : R En (α × En)} {f : α × En → R En Out} (h : Ev m (fun a s => Es (f (a, s)) N P B C E) E) : Es (m.bind f) N P B C E := by
  cases m with
  | stuck => exact ⟨h.1⟩
  | ok a => exact h.1
  | err x s => exact ⟨h.1⟩
theorem es_ob {α : Type} {o : Option α} {f : α → R En Out} (h : EvO o fun a => Es (f a) N P B C E) : Es ((ofO o).bind f) N P B C E := by
  obtain ⟨r, e, q⟩ := h
  subst e
  exact q
variable {Q : D → En → Prop} {QT : Bool → En → Prop} {QL : List D → En → Prop} {env : En} {f g k : EF} {h h' : D → D → Option D} {t u : En → R En (Bool × En)} {l : En → R En (List D × En)} {i j : Nat} {d : D} {ds : List D}
theorem ev_var (he : env[i]? = some (some (.im d))) (q : Q d env) : Ev (fVar i env) Q E := by rw [fVar_ap, he]; exact ⟨q⟩
theorem ev_c (q : Q d env) : Ev (fC d env) Q E := ⟨q⟩
theorem ev_op (q : Ev (f env) (fun a e => Ev (g e) (fun b e => EvO (h a b) fun r => Q r e) E) E) : Ev (fOp h f g env) Q E :=
  ev_bind (ev_imp1 q fun _ _ q => ev_bind (ev_imp1 q fun _ _ q => ev_obk q))
theorem ev_un {U : D → Option D} (q : Ev (f env) (fun a e => EvO (U a) fun r => Q r e) E) : Ev (fUn U f env) Q E := ev_bind (ev_imp1 q fun _ _ q => ev_obk q)
theorem ev_bool (q : Ev (f env) (fun a e => ∃ b, a = .bool b ∧ QT b e) E) : Ev (fBool f env) QT E := by
  refine ev_bind (ev_imp1 q fun a e q => ?_)
  obtain ⟨b, rfl, q⟩ := q
  exact ⟨q⟩
theorem ev_notT (q : Ev (t env) (fun b e => QT (!b) e) E) : Ev (fNotT t env) QT E := ev_bind (ev_imp1 q fun _ _ q => ⟨q⟩)
theorem ev_andT (q : Ev (t env) (fun b e => (b = true → Ev (u e) QT E) ∧ (b = false → QT false e)) E) : Ev (fAndT t u env) QT E := by
  refine ev_bind (ev_imp1 q fun b e q => ?_)
  cases b with
  | true => exact q.1 rfl
  | false => exact ⟨q.2 rfl⟩
theorem ev_orT (q : Ev (t env) (fun b e => (b = true → QT true e) ∧ (b = false → Ev (u e) QT E)) E) : Ev (fOrT t u env) QT E := by
  refine ev_bind (ev_imp1 q fun b e q => ?_)
  cases b with
  | true => exact ⟨q.1 rfl⟩
  | false => exact q.2 rfl
theorem ev_if (q : Ev (t env) (fun b e => (b = true → Ev (f e) Q E) ∧ (b = false → Ev (g e) Q E)) E) : Ev (fIf t f g env) Q E := by
  refine ev_bind (ev_imp1 q fun b e q => ?_)
  cases b with
  | true => exact q.1 rfl
  | false => exact q.2 rfl
theorem ev_andV (q : Ev (f env) (fun a e => ∃ b, a = .bool b ∧ (b = true → Ev (g e) Q E) ∧ (b = false → Q (.bool false) e)) E) : Ev (fAndV f g env) Q E := by
  refine ev_bind (ev_imp1 q fun a e q => ?_)
  obtain ⟨b, rfl, q⟩ := q
  cases b with
  | true => exact q.1 rfl
  | false => exact ⟨q.2 rfl⟩
theorem ev_orV (q : Ev (f env) (fun a e => ∃ b, a = .bool b ∧ (b = true → Q (.bool true) e) ∧ (b = false → Ev (g e) Q E)) E) : Ev (fOrV f g env) Q E := by
  refine ev_bind (ev_imp1 q fun a e q => ?_)
  obtain ⟨b, rfl, q⟩ := q
  cases b with
  | true => exact ⟨q.1 rfl⟩
  | false => exact q.2 rfl
theorem ev_chain (q : Ev (f env) (fun a e => Ev (g e) (fun b e => EvO (h a b) fun r => ∃ w, r = .bool w ∧ (w = true → Ev (k e) (fun c e => EvO (h' b c) fun r => Q r e) E) ∧ (w = false → Q (.bool false) e)) E) E) : Ev (fChain h h' f g k env) Q E := by
  refine ev_bind (ev_imp1 q fun a e q => ev_bind (ev_imp1 q fun b e q => ev_ob ?_))
  obtain ⟨r, hr, w, rfl, q⟩ := q
  refine ⟨_, hr, ?_⟩
  cases w with
  | true => exact ev_bind (ev_imp1 (q.1 rfl) fun _ _ q => ev_obk q)
  | false => exact ⟨q.2 rfl⟩
theorem ev_nil (q : QL [] env) : Ev ((fun env => .ok ([], env) : En → R En (List D × En)) env) QL E := ⟨q⟩
theorem ev_cons (q : Ev (f env) (fun a e => Ev (l e) (fun as e => QL (a :: as) e) E) E) : Ev (fCons f l env) QL E := ev_bind (ev_imp1 q fun _ _ q => ev_bind (ev_imp1 q fun _ _ q => ⟨q⟩))
theorem ev_star (q : Ev (f env) (fun a e => EvO (itemsD a) fun ds => Ev (l e) (fun as e => QL (ds ++ as) e) E) E) : Ev (fStar f l env) QL E :=
  ev_bind (ev_imp1 q fun _ _ q => ev_ob (by obtain ⟨r, h, q⟩ := q; exact ⟨r, h, ev_bind (ev_imp1 q fun _ _ q => ⟨q⟩)⟩))
theorem ev_tup (q : Ev (l env) (fun as e => as.length ≤ sizeLine ∧ Q (.tuple as) e) E) : Ev (fTup l env) Q E := by
  refine ev_bind (ev_imp1 q fun a e q => ?_)
  simp only [q.1, if_true]; exact ⟨q.2⟩
theorem ev_lst (q : Ev (l env) (fun as e => as.length ≤ sizeLine ∧ Q (.list as) e) E) : Ev (fLst l env) Q E := by
  refine ev_bind (ev_imp1 q fun a e q => ?_)
  simp only [q.1, if_true]; exact ⟨q.2⟩
theorem ev_ca {c : List D → Option D} (q : Ev (l env) (fun as e => EvO (c as) fun r => Q r e) E) : Ev (fCall c l env) Q E := ev_bind (ev_imp1 q fun _ _ q => ev_obk q)
theorem ev_isi {T : String} (q : Ev (f env) (fun a e => EvO (isTy T a) fun r => Q r e) E) : Ev (fIsi T f env) Q E := ev_bind (ev_imp1 q fun _ _ q => ev_obk q)
theorem ev_isE {T : Str} (q : Ev (f env) (fun a e => EvO (isEx T a) fun r => Q r e) E) : Ev (fIsE T f env) Q E := ev_un q
theorem ev_mt (q : Ev (f env) (fun a e => ∃ ds, a = .list ds ∧ Ev (g e) (fun b e => EvO (h (.list ds) b) fun r => Q r e) E) E) : Ev (fMt h f g env) Q E := by
  refine ev_bind (ev_imp1 q fun a e q => ?_)
  obtain ⟨ds, rfl, q⟩ := q
  exact ev_bind (ev_imp1 q fun _ _ q => ev_obk q)
theorem ev_ixO (hi : env[i]? = some (some (.ow ds))) (q : Ev (g env) (fun a e => ∃ es, e[i]? = some (some (.ow es)) ∧ EvO (ixD (.list es) a) fun r => Q r e) E) : Ev (fIxO i g env) Q E := by
  rw [fIxO_ap, hi]
  refine ev_bind (ev_imp1 q fun a e q => ?_)
  obtain ⟨es, he, q⟩ := q
  simp only [he]
  exact ev_obk q
theorem ev_lenO (hi : env[i]? = some (some (.ow ds))) (q : Q (.int ds.length) env) : Ev (fLenO i env) Q E := by rw [fLenO_ap, hi]; exact ⟨q⟩
theorem ev_reprO (hi : env[i]? = some (some (.ow ds))) (q : EvO (reprD [.list ds]) fun r => Q r env) : Ev (fReprO i env) Q E := by rw [fReprO_ap, hi]; exact ev_obk q
theorem ev_isiO {T : String} (hi : env[i]? = some (some (.ow ds))) (q : EvO (isTy T (.list [])) fun r => Q r env) : Ev (fIsiO T i env) Q E := by rw [fIsiO_ap, hi]; exact ev_obk q
theorem ev_opL (hi : env[i]? = some (some (.ow ds))) (q : Ev (g env) (fun a e => ∃ es, e[i]? = some (some (.ow es)) ∧ EvO (h (.list es) a) fun r => Q r e) E) : Ev (fOpL i h g env) Q E := by
  rw [fOpL_ap, hi]
  refine ev_bind (ev_imp1 q fun a e q => ?_)
  obtain ⟨es, he, q⟩ := q
  simp only [he]
  exact ev_obk q
theorem ev_opR (q : Ev (f env) (fun a e => ∃ es, e[i]? = some (some (.ow es)) ∧ EvO (h a (.list es)) fun r => Q r e) E) : Ev (fOpR i h f env) Q E := by
  rw [fOpR_ap]
  refine ev_bind (ev_imp1 q fun a e q => ?_)
  obtain ⟨es, he, q⟩ := q
  simp only [he]
  exact ev_obk q
theorem ev_items (q : Ev (f env) (fun a e => EvO (itemsD a) fun r => QL r e) E) : Ev (fItems f env) QL E := ev_bind (ev_imp1 q fun _ _ q => ev_obk q)
theorem ev_walk {w : List D → Option (List D)} (q : Ev (l env) (fun a e => EvO (w a) fun r => QL r e) E) : Ev (fWalk w l env) QL E := ev_bind (ev_imp1 q fun _ _ q => ev_obk q)
theorem ev_part {QP : Option Int → En → Prop} (q : Ev (f env) (fun a e => ∃ n, a = .int n ∧ QP (some n) e) E) : Ev (fPart f env) QP E := by
  refine ev_bind (ev_imp1 q fun a e q => ?_)
  obtain ⟨b, rfl, q⟩ := q
  exact ⟨q⟩
theorem ev_sl {s : D → Option Int → Option Int → Option D} {fl fh : En → R En (Option Int × En)} (q : Ev (f env) (fun a e => Ev (fl e) (fun x e => Ev (fh e) (fun y e => EvO (s a x y) fun r => Q r e) E) E) E) : Ev (fSl s f fl fh env) Q E :=
  ev_bind (ev_imp1 q fun _ _ q => ev_bind (ev_imp1 q fun _ _ q => ev_bind (ev_imp1 q fun _ _ q => ev_obk q)))
theorem ev_lend (hd : noDk env = true) (q : Ev (t (lentE env)) (fun b _ => QT b env) fun _ _ => False) : Ev (tLend t env) QT E := by
  unfold tLend
  rw [if_pos hd]
  revert q
  cases t (lentE env) with
  | stuck => exact fun q => ⟨q.1⟩
  | ok p => exact fun q => ⟨q.1⟩
  | err x s => exact fun q => q.1.elim
theorem ev_lendF (hd : noDk env = true) (q : Ev (f (lentE env)) (fun d _ => flatD d = true ∧ Q d env) fun _ _ => False) : Ev (fLend f env) Q E := by
  unfold fLend
  rw [if_pos hd]
  revert q
  cases f (lentE env) with
  | stuck => exact fun q => ⟨q.1⟩
  | ok p =>
    intro q
    show Ev (if flatD p.1 = true then _ else _) Q E
    rw [if_pos q.1.1]
    exact ⟨q.1.2⟩
  | err x s => exact fun q => q.1.elim
variable {QC : List PArg → En → Prop} {c : En → R En (List PArg × En)}
theorem ev_cNil (q : QC [] env) : Ev (cNil env) QC E := ⟨q⟩
theorem ev_cIm (q : Ev (f env) (fun a e => Ev (c e) (fun as e => QC (.im a :: as) e) E) E) : Ev (cIm f c env) QC E := ev_bind (ev_imp1 q fun _ _ q => ev_bind (ev_imp1 q fun _ _ q => ⟨q⟩))
theorem ev_cSl {s : Sl} (hj : env[j]? = some (some s)) (ho : s.own = true) (q : Ev (c env) (fun as e => QC (.sl j :: as) e) E) : Ev (cSl j c env) QC E := by
  rw [cSl_ap, hj]
  simp only [ho, if_true]
  exact ev_bind (ev_imp1 q fun _ _ q => ⟨q⟩)
inductive CallAs (e : En) (as : List PArg) (n : Nat) (np : List Nat) (G : List Sl → Prop) : Prop
  | mk (es : List Sl) (h1 : resolve e as = some es) (h2 : as.length = n) (h3 : (slotsOf as).Nodup) (h4 : okNp np 0 es = true) (q : G es) : CallAs e as n np G
theorem callAs_mk {e : En} {as : List PArg} {n : Nat} {np : List Nat} {G : List Sl → Prop} (es : List Sl) (h1 : resolve e as = some es) (h2 : as.length = n) (h3 : (slotsOf as).Nodup) (h4 : okNp np 0 es = true) (q : G es) : CallAs e as n np G := ⟨es, h1, h2, h3, h4, q⟩
theorem res_nil {e : En} : resolve e [] = some [] := rfl
theorem res_im {e : En} {d : D} {as : List PArg} {es : List Sl} (h : resolve e as = some es) : resolve e (.im d :: as) = some (.im d :: es) := by rw [resolve_im, h]; rfl
theorem res_sl {e : En} {j : Nat} {s : Sl} {as : List PArg} {es : List Sl} (hj : e[j]? = some (some s)) (ho : s.own = true) (h : resolve e as = some es) : resolve e (.sl j :: as) = some (s :: es) := by
  rw [resolve_sl, hj]; simp only [ho, if_true, h, Option.map_some]
theorem ev_call {n : Nat} {np : List Nat} {F : FD} (q : Ev (c env) (fun as e => CallAs e as n np fun es => Ev (F es) (fun d es' => Q d (back as es' e)) (fun x es' => E x (back as es' e))) E) : Ev (fCallF n np F c env) Q E := by
  refine ev_bind (ev_imp1 q fun as e q => ?_)
  obtain ⟨es, h1, h2, h3, h4, q⟩ := q
  simp only [h1]
  rw [if_pos ⟨h2, h3, h4⟩]
  cases hf : F es with
  | stuck => rw [hf] at q; exact q.1.elim
  | ok a => rw [hf] at q; exact ⟨q.1⟩
  | err x s => rw [hf] at q; exact ⟨q.1⟩
theorem back_ims : ∀ {as : List PArg} {s : List Sl} {e : En}, slotsOf as = [] → back as s e = e
  | [], s, e, _ => back_nil
  | .im d :: as, [], e, _ => rfl
  | .im d :: as, x :: s, e, h => back_ims (as := as) (s := s) h
  | .sl j :: as, _, e, h => nomatch h
theorem ev_fun {n : Nat} {a : SF} {es : List Sl} {QF : D → List Sl → Prop} {EF' : Exn → List Sl → Prop} (q : Es (a (es.map some ++ List.replicate (n - es.length) none)) (fun e => QF .none (backP es.length e)) (fun d e => QF d (backP es.length e)) (fun _ => False) (fun _ => False) (fun x e => EF' x (backP es.length e))) : Ev (runD n a es) QF EF' := by
  rw [runD_ap]
  revert q
  cases a (es.map some ++ List.replicate (n - es.length) none) with
  | stuck => exact fun q => ⟨q.1⟩
  | ok o => cases o <;> first | exact fun q => q.1 | exact fun q => ⟨q.1⟩
  | err x s => exact fun q => ⟨q.1⟩
theorem ev_lc {T : TF} {vs : List Nat} {b : D → Bool} {v : D → D} {P0 : D → En → Prop} (q : Ev (l env) (fun ds e => okVs e vs = true ∧ ds.length ≤ sizeLine ∧
      (∀ d ∈ ds, EvO (T d (wipeE e vs)) fun e1 => Ev (t e1) (fun w e2 => w = b d ∧ (w = true → Ev (f e2) (fun r e3 => r = v d ∧ okVs e3 vs = true ∧ wipeE e3 vs = wipeE e vs) fun _ _ => False) ∧ (w = false → okVs e2 vs = true ∧ wipeE e2 vs = wipeE e vs)) fun _ _ => False) ∧
      Q (.list ((ds.filter b).map v)) (restE e (wipeE e vs) vs)) E) : Ev (fLc l T t f vs env) Q E := by
  refine ev_bind (ev_imp1 q fun ds e q => ?_)
  obtain ⟨h1, h2, h3, q⟩ := q
  simp only [h1, if_true]
  rw [compF_all (b := b) (v := v) (by simpa using h2) fun d hd => ?_]
  · rw [List.nil_append, bind_ok]; exact ⟨q⟩
  · obtain ⟨e1, a1, a2⟩ := h3 d hd
    obtain ⟨w, e2, b1, rfl, b2, b3⟩ := ev_eq a2
    refine ⟨e1, e2, a1, b1, fun hw => ?_, fun hw => b3 hw⟩
    obtain ⟨r, e3, c1, rfl, c2, c3⟩ := ev_eq (b2 hw)
    exact ⟨e3, c1, c2, c3⟩
theorem ev_lcm {T : TF} {vs : List Nat} {v : D → D} (q : Ev (l env) (fun ds e => okVs e vs = true ∧ ds.length ≤ sizeLine ∧
      (∀ d ∈ ds, EvO (T d (wipeE e vs)) fun e1 => Ev (f e1) (fun r e3 => r = v d ∧ okVs e3 vs = true ∧ wipeE e3 vs = wipeE e vs) fun _ _ => False) ∧
      Q (.list (ds.map v)) (restE e (wipeE e vs) vs)) E) : Ev (fLc l T (fun env => .ok (true, env)) f vs env) Q E := by
  refine ev_lc (b := fun _ => true) (v := v) (P0 := fun _ _ => True) (ev_imp1 q fun ds e q => ?_)
  obtain ⟨h1, h2, h3, q⟩ := q
  refine ⟨h1, h2, fun d hd => ?_, ?_⟩
  · obtain ⟨e1, a1, a2⟩ := h3 d hd
    exact ⟨e1, a1, rfl, fun _ => a2, fun w => nomatch w⟩
  · rw [List.filter_eq_self.mpr (by simp)]; exact q
variable {a b : SF}
theorem es_nil (q : N env) : Es (sNil env) N P B C E := ⟨q⟩
theorem es_seq (q : Es (a env) (fun e => Es (b e) N P B C E) P B C E) : Es (sSeq a b env) N P B C E := by
  rw [sSeq_ap]
  revert q
  cases a env with
  | stuck => exact fun q => ⟨q.1⟩
  | ok o => cases o <;> first | exact fun q => q.1 | exact fun q => ⟨q.1⟩
  | err x s => exact fun q => ⟨q.1⟩
theorem es_expr (q : Ev (f env) (fun _ e => N e) E) : Es (sExpr f env) N P B C E := es_bind (ev_imp1 q fun _ _ q => ⟨q⟩)
theorem es_ret (q : Ev (f env) (fun d e => P d e) E) : Es (sRet f env) N P B C E := es_bind (ev_imp1 q fun _ _ q => ⟨q⟩)
theorem es_retN (q : P .none env) : Es (sRetN env) N P B C E := ⟨q⟩
theorem es_retO (hi : env[i]? = some (some (.ow ds))) (q : P (.list ds) env) : Es (sRetO i env) N P B C E := by rw [sRetO_ap, hi]; exact ⟨q⟩
theorem es_if (q : Ev (t env) (fun w e => (w = true → Es (a e) N P B C E) ∧ (w = false → Es (b e) N P B C E)) E) : Es (sIf t a b env) N P B C E := by
  refine es_bind (ev_imp1 q fun w e q => ?_)
  cases w with
  | true => exact q.1 rfl
  | false => exact q.2 rfl
theorem es_asg {T : TF} (q : Ev (f env) (fun d e => EvO (T d e) fun e => N e) E) : Es (sAsg f T env) N P B C E := es_bind (ev_imp1 q fun _ _ q => by obtain ⟨r, h, q⟩ := q; exact es_ob ⟨r, h, ⟨q⟩⟩)
theorem es_set (q : Ev (f env) (fun d e => N (e.set i (some (.im d)))) E) : Es (sSet i f env) N P B C E := es_bind (ev_imp1 q fun _ _ q => ⟨q⟩)
theorem es_setO (q : Ev (f env) (fun d e => ∃ ds, d = .list ds ∧ N (e.set i (some (.ow ds)))) E) : Es (sSetO i f env) N P B C E := by
  refine es_bind (ev_imp1 q fun d e q => ?_)
  obtain ⟨ds, rfl, q⟩ := q
  exact ⟨q⟩
theorem es_frz (hi : env[i]? = some (some (.ow ds))) (q : Es (a (env.set i (some (.im (.list ds))))) N P B C E) : Es (sFrz i a env) N P B C E := by rw [sFrz_ap, hi]; exact q
theorem es_app (hi : env[i]? = some (some (.ow ds))) (q : Ev (f env) (fun d e => ∃ es, e[i]? = some (some (.ow es)) ∧ es.length < sizeLine ∧ N (e.set i (some (.ow (es ++ [d]))))) E) : Es (sApp i f env) N P B C E := by
  rw [sApp_ap, hi]
  refine es_bind (ev_imp1 q fun d e q => ?_)
  obtain ⟨es, he, h2, q⟩ := q
  simp only [he]
  rw [if_pos h2]
  exact ⟨q⟩
theorem es_sto (q : Ev (f env) (fun d e => ∃ es, e[i]? = some (some (.ow es)) ∧ Ev (g e) (fun k e => ∃ es, e[i]? = some (some (.ow es)) ∧ ∃ n, k = .int n ∧ ∃ j, ixN es.length n = some j ∧ N (e.set i (some (.ow (es.set j d))))) E) E) : Es (sSto i g f env) N P B C E := by
  refine es_bind (ev_imp1 q fun d e q => ?_)
  obtain ⟨es, he, q⟩ := q
  simp only [he]
  refine es_bind (ev_imp1 q fun k e q => ?_)
  obtain ⟨es, he, n, rfl, j, h3, q⟩ := q
  simp only [he, h3]
  exact ⟨q⟩
theorem es_augS {op : Int → Int → Int} (hi : env[i]? = some (some (.ow ds))) (q : Ev (g env) (fun k e => ∃ es, e[i]? = some (some (.ow es)) ∧ ∃ n, k = .int n ∧ 0 ≤ n ∧ ∃ x, es[n.toNat]? = some (.int x) ∧
      Ev (f e) (fun p e => ∃ es, e[i]? = some (some (.ow es)) ∧ ∃ y, p = .int y ∧ n.toNat < es.length ∧ N (e.set i (some (.ow (es.set n.toNat (.int (op x y))))))) E) E) : Es (sAugS i op g f env) N P B C E := by
  rw [sAugS_ap, hi]
  refine es_bind (ev_imp1 q fun d e q => ?_)
  obtain ⟨es, he, n, rfl, h0, x, hx, q⟩ := q
  simp only [he, h0, hx, if_true]
  refine es_bind (ev_imp1 q fun k e q => ?_)
  obtain ⟨es, he, y, rfl, h3, q⟩ := q
  simp only [he, h3, if_true]
  exact ⟨q⟩
theorem es_aug {op : Int → Int → Int} {x : Int} (hi : env[i]? = some (some (.im (.int x)))) (q : Ev (f env) (fun p e => ∃ y, p = .int y ∧ N (e.set i (some (.im (.int (op x y)))))) E) : Es (sAug i op f env) N P B C E := by
  rw [sAug_ap, hi]
  refine es_bind (ev_imp1 q fun d e q => ?_)
  obtain ⟨y, rfl, q⟩ := q
  exact ⟨q⟩
theorem es_par (q : Ev (l env) (fun ds e => Par2 ds fun d d' => N ((e.set i (some (.im d))).set j (some (.im d')))) E) : Es (sPar i j l env) N P B C E := by
  refine es_bind (ev_imp1 q fun d e q => ?_)
  obtain ⟨q⟩ := q
  exact ⟨q⟩
theorem es_par3 {k : Nat} (q : Ev (l env) (fun ds e => Par3 ds fun d d' d'' => N (((e.set i (some (.im d))).set j (some (.im d'))).set k (some (.im d'')))) E) : Es (sPar3 i j k l env) N P B C E := by
  refine es_bind (ev_imp1 q fun d e q => ?_)
  obtain ⟨q⟩ := q
  exact ⟨q⟩
theorem es_raise {c : Str} (q : E ⟨c, []⟩ env) : Es (sRaise c env) N P B C E := ⟨q⟩
theorem es_tryK (q : Es (a env) N P B C (fun x e => decide (x.dat.length ≤ 1) = true ∧ x.cls ∈ exNames ∧ N ((e.set j (some (.im (excDP x)))).set i none))) : Es (sTryK i j a env) N P B C E := by
  unfold sTryK
  revert q
  cases a env with
  | stuck => exact fun q => ⟨q.1⟩
  | ok o => cases o <;> exact fun q => ⟨q.1⟩
  | err x e =>
    intro q
    show Es (if _ then _ else _) N P B C E
    rw [if_pos ⟨q.1.1, q.1.2.1⟩]
    exact ⟨q.1.2.2⟩
theorem es_for {T : TF} (q : Ev (l env) (fun ds e => Es (forF T a ds e) N P B C E) E) : Es (sFor l T a env) N P B C E := es_bind q
theorem es_while {n : En → Nat} (q : Es (whileF t a (n env) env) N P B C E) : Es (sWhile n t a env) N P B C E := q
theorem es_forF_nil {T : TF} (q : N env) : Es (forF T a [] env) N P B C E := ⟨q⟩
theorem es_forF_cons {T : TF} (q : EvO (T d env) fun e => Es (a e) (fun e => Es (forF T a ds e) N P B C E) P N (fun e => Es (forF T a ds e) N P B C E) E) : Es (forF T a (d :: ds) env) N P B C E := by
  rw [forF_cons]
  refine es_ob ?_
  obtain ⟨r, h1, q⟩ := q
  refine ⟨r, h1, ?_⟩
  show Es ((a r).bind _) N P B C E
  revert q
  cases a r with
  | stuck => exact fun q => ⟨q.1⟩
  | ok o => cases o <;> first | exact fun q => q.1 | exact fun q => ⟨q.1⟩
  | err x s => exact fun q => ⟨q.1⟩
/-- what holds before each turn -/
theorem es_forI {T : TF} (I : Nat → En → Prop) : ∀ {ds : List D} {env : En} {k0 : Nat}, I k0 env →
    (∀ k d e, ds[k]? = some d → I (k0 + k) e → EvO (T d e) fun e => Es (a e) (I (k0 + k + 1)) P N (I (k0 + k + 1)) E) → (∀ e, I (k0 + ds.length) e → N e) → Es (forF T a ds env) N P B C E
  | [], env, k0, h0, _, h2 => es_forF_nil (h2 _ h0)
  | d :: ds, env, k0, h0, h1, h2 => by
    refine es_forF_cons ?_
    obtain ⟨r, q1, q2⟩ := h1 0 d env rfl h0
    have ih : ∀ e, I (k0 + 1) e → Es (forF T a ds e) N P B C E := fun e he => es_forI I (ds := ds) (k0 := k0 + 1) he (fun k d' e' hk hI => by
      have z := h1 (k + 1) d' e' (by simpa using hk) (by rw [show k0 + (k + 1) = k0 + 1 + k by omega]; exact hI)
      rw [show k0 + (k + 1) + 1 = k0 + 1 + k + 1 by omega] at z
      exact z) fun e he => h2 e (by rw [List.length_cons, show k0 + (ds.length + 1) = k0 + 1 + ds.length by omega]; exact he)
    exact ⟨r, q1, es_imp q2 ih (fun _ _ h => h) (fun _ h => h) ih⟩
theorem es_forK {T : TF} (I : Nat → En → Prop) (h0 : I 0 env)
    (h1 : ∀ k d e, ds[k]? = some d → I k e → EvO (T d e) fun e => Es (a e) (I (k + 1)) P N (I (k + 1)) E) (h2 : ∀ e, I ds.length e → N e) : Es (forF T a ds env) N P B C E :=
  es_forI I (k0 := 0) h0 (fun k d e hk hI => by rw [Nat.zero_add] at hI ⊢; exact h1 k d e hk hI) fun e he => h2 e (by rw [Nat.zero_add] at he; exact he)
end
end DL
namespace DL
open PySem PySem.Spec PyProof.Rows L2
theorem strOk_append (x y : Str) : PyData.strOk (x ++ y) = (PyData.strOk x && PyData.strOk y) := by
  show (x.cps ++ y.cps).all _ = _
  rw [Array.all_append]; rfl
theorem strOk_ofString (s : String) : PyData.strOk (Str.ofString s) = true := by
  unfold PyData.strOk
  rw [Str.ofString_eq_toList]
  simp only [List.all_toArray, List.all_map, List.all_eq_true, Function.comp, decide_eq_true_eq]
  intro c _
  have h : c.toNat < 55296 ∨ 57343 < c.toNat ∧ c.toNat < 1114112 := c.valid
  omega
theorem strOk_textFrom : ∀ (ts : List Str) (k : Nat) (acc : Str), PyData.strOk acc = true → (∀ t ∈ ts, PyData.strOk t = true) → PyData.strOk (textFrom k acc ts) = true
  | [], _, _, h, _ => h
  | t :: ts, k, acc, h, ht => by
    unfold textFrom
    refine strOk_textFrom ts (k + 1) _ ?_ fun x hx => ht x (by simp [hx])
    rw [strOk_append, strOk_append, h, ht t (by simp)]
    split <;> simp only [strOk_ofString, Bool.and_self]
theorem strOk_join (sep : Str) (hs : PyData.strOk sep = true) : ∀ (ts : List Str), (∀ t ∈ ts, PyData.strOk t = true) → PyData.strOk (Str.join sep ts) = true
  | [], _ => by simp [Str.join, Str.empty, PyData.strOk]
  | [x], h => h x (by simp)
  | x :: y :: r, h => by
    show PyData.strOk (x ++ sep ++ Str.join sep (y :: r)) = true
    rw [strOk_append, strOk_append, h x (by simp), hs, strOk_join sep hs (y :: r) fun t ht => h t (by simp [ht])]; rfl
def TxOk (d : D) : Prop := PyData.strOk d.shown = true
theorem sok_int (i : Int) : TxOk (.int i) := strOk_ofString _
theorem sok_none : TxOk .none := strOk_ofString _
theorem sok_bool (b : Bool) : TxOk (.bool b) := by
  unfold TxOk PyData.shown; cases b <;> exact strOk_ofString _
theorem sok_all : ∀ {ds : List D}, (∀ d ∈ ds, TxOk d) → ∀ t ∈ PyData.shownAll ds, PyData.strOk t = true
  | [], _, _, ht => by simp [PyData.shownAll] at ht
  | d :: ds, h, t, ht => by
    simp only [PyData.shownAll, List.mem_cons] at ht
    rcases ht with rfl | ht
    · exact h d (by simp)
    · exact sok_all (ds := ds) (fun x hx => h x (by simp [hx])) t ht
theorem sok_list {ds : List D} (h : ∀ d ∈ ds, TxOk d) : TxOk (.list ds) := by
  unfold TxOk PyData.shown listText
  rw [strOk_append, strOk_textFrom _ _ _ (strOk_ofString _) (sok_all h)]
  exact strOk_ofString _
theorem sok_tuple {ds : List D} (h : ∀ d ∈ ds, TxOk d) : TxOk (.tuple ds) := by
  unfold TxOk PyData.shown tupleText
  rw [strOk_append, strOk_append, strOk_join _ (strOk_ofString _) _ (sok_all h), strOk_ofString]
  simp only [Bool.true_and]
  exact strOk_ofString _
end DL
namespace DL
open PySem PySem.Spec PyProof.Rows L2
def isLd : D → Bool
  | .list _ => true
  | _ => false
section
variable {K : PySem.W.Frag} {np : List Nat} {B : Bs} {σ σ' : Sg} {H H' : Hp} {env env' : En} {α : Addr} {o o' : HO}
/-- what is moved under a hold is moved without it -/
theorem Mv.unhold (I : SR K np (B.hold α o) σ H env) (I' : SR K np (B.hold α o) σ' H' env') (h0 : ¬ B.O0 α) (m : Mv ((B.hold α o).O σ env) ((B.hold α o).O σ' env') H H') : Mv (B.O σ env) (B.O σ' env') H H' := by
  refine ⟨fun a u e n => ?_, fun a w => ?_, m.dom⟩
  · by_cases ea : a = α
    · rw [ea] at e ⊢
      rw [I.hold_at] at e
      rw [I'.hold_at]
      exact e
    · exact m.keep a u e fun q => ((Bs.hold_O a).1 q).elim n ea
  · rcases m.own a ((Bs.hold_O a).2 (.inl w)) with q | q
    · rcases (Bs.hold_O a).1 q with q | q
      · exact .inl q
      · rw [q] at w
        exact absurd w (I'.hold_nO h0)
    · exact .inr q
end
end DL
namespace DL
open PySem PySem.Spec PyProof.Rows L2
/-- a method and its promise -/
def HasM (P : Program) (w : World) (K : PySem.W.Frag) (mg : Str → Option Value) (base : Heap) (m : Str) (k : Nat) (ps : List Str) (sp : Sp) : Prop :=
  ∃ (f : Addr) (fd : FuncData), Meth K (caK K "Stints") m f ∧ L2.Binds K fd ps [] ∧ FnG P w K mg base k f fd ps sp ∧ Lk K f fd
theorem st_many {m : Int} {n p : Addr} : (stF m n p).lookup ("many" : Str) = some (.int m) := rfl
theorem st_now {m : Int} {n p : Addr} : (stF m n p).lookup ("now" : Str) = some (.ref n) := by rfl
theorem st_past {m : Int} {n p : Addr} : (stF m n p).lookup ("past" : Str) = some (.ref p) := by rfl
def noFld (x : Str) : Bool := !(x == ("many" : Str)) && !(x == ("now" : Str)) && !(x == ("past" : Str))
theorem st_no {m : Int} {n p : Addr} {x : Str} (h : noFld x = true) : (stF m n p).lookup x = none := by
  simp only [noFld, Bool.and_eq_true, Bool.not_eq_true'] at h
  obtain ⟨⟨h1, h2⟩, h3⟩ := h
  simp only [stF, List.lookup, h1, h2, h3]
def manyD : D → Option D
  | .dict [(.str _, .int m), (.str _, .list _), (.str _, .int _)] => some (.int m)
  | _ => none
def nowD : D → Option D
  | .dict [(.str _, .int _), (.str _, .list ds), (.str _, .int _)] => some (.list ds)
  | _ => none
section
variable {K : PySem.W.Frag} {O : Addr → Prop} {H : Hp} {v : V} {d w : D}
theorem at_many (a : At K O H v d) (e : manyD d = some w) : ∃ a dx n p m, v = .ref a ∧ H a = some (.ins (caK K "Stints") dx (stF m n p)) ∧ w = .int m ∧ StI K := by
  cases a with
  | sti m c i h l r _ => cases e; exact ⟨_, _, _, _, m, rfl, h.1, rfl, i⟩
  | _ => cases e
theorem at_now (a : At K O H v d) (e : nowD d = some w) : ∃ a dx n p m, v = .ref a ∧ H a = some (.ins (caK K "Stints") dx (stF m n p)) ∧ At K O H (.ref n) w ∧ StI K := by
  cases a with
  | sti m c i h l r _ => cases e; exact ⟨_, _, _, _, m, rfl, h.1, .lst l r, i⟩
  | _ => cases e
end
section
variable {X : Cx} {z : Z} {fe fr : Bool} {e : Expr} {g : EF} {pos : Pos}
theorem de_many (he : DE z X fe e g) (hb : attributeBase e "many" X.env (eval e X.env) = eval e X.env := by rfl) : DE z X true (.Attribute e "many" pos) (fUn manyD g) :=
  de_imp (pe_fld he hb) fun B env σ H Q I hp => by
    refine ⟨B, env, I, (R.post_bind hp).imp (fun p hp v H1 I1 m1 a1 _ => ?_) fun _ _ q => q⟩
    obtain ⟨w, ew, hw⟩ := ofO_post (R.post_bind hp)
    obtain ⟨a, dx, n, q, m, rfl, e1, rfl, T⟩ := at_many a1 ew
    exact ⟨a, _, dx, _, .int m, rfl, e1, T.cl, T.nM, st_many, hw _ _ I1 m1 (.int m) fun _ => fun ds ed => nomatch ed⟩
theorem de_now (he : DE z X fe e g) (hb : attributeBase e "now" X.env (eval e X.env) = eval e X.env := by rfl) : DE z X false (.Attribute e "now" pos) (fUn nowD g) :=
  de_imp (pe_fld he hb) fun B env σ H Q I hp => by
    refine ⟨B, env, I, (R.post_bind hp).imp (fun p hp v H1 I1 m1 a1 _ => ?_) fun _ _ q => q⟩
    obtain ⟨w, ew, hw⟩ := ofO_post (R.post_bind hp)
    obtain ⟨a, dx, n, q, m, rfl, e1, a2, T⟩ := at_now a1 ew
    exact ⟨a, _, dx, _, .ref n, rfl, e1, T.cl, T.nN, st_now, hw _ _ I1 m1 a2 fun q => nomatch q⟩
end
def tMethG (C : Addr) (m : Str) (n : Nat) (sp : Sp) (E : Sg → XK) (ta : TE) (t : TA) : TE := fun σ H Q => ta σ H fun x H1 => ∃ a dx fs, x = .ref a ∧ H1 a = some (.ins C dx fs) ∧ fs.lookup m = none ∧ t σ H1 fun vs H2 => vs.length + 1 = n ∧ sp (x :: vs) H2 Q (E σ)
section
variable {X : Cx} {z : Z} {k j n : Nat} {C f : Addr} {fd : FuncData} {ps : List Str} {sp : Sp} {E : Sg → XK} {m : Str} {pos apos : Pos} {e o : Expr} {es : List Expr} {ta : TE} {t : TA}
theorem pe_methG {pl : Sem Bool} (he : PE X o ta) (c : Cls X.K C) (hm : Meth X.K C m f) (F : FnG X.prog X.w X.K X.mg X.base k f fd ps sp) (hr : Room k X.A) (hgd : X.A.guards = some []) (hb : L2.Binds X.K fd ps []) (hx : ∀ σ, PassesAt (L2.CX X.prog X.w) X σ (E σ)) (ha : PA X (e :: es) t)
    (hst : starEach (e :: es) X.env = (false, eval e X.env) :: starEach es X.env := by rfl) (hpl : (backTo pos (starEach es X.env)).any (·.1) = false := by rfl)
    (ht : eval (.Call (.Attribute o m apos) (e :: es) [] pos) X.env = (do
      let ov ← eval o X.env
      standAt apos.atName
      let (f, first) ← holding [ov] (getMethod ov m pl)
      callWith pos f first (backTo pos (starEach (e :: es) X.env)) (backToKw pos (keywordEach [] X.env))) := by rfl) :
    PE X (.Call (.Attribute o m apos) (e :: es) [] pos) (tMethG C m ps.length sp E ta t) := by
  refine ⟨fun pins s σ H Q I h => ?_⟩
  refine PySem.W.methodCall_KW (pl := pl) (thn (he.run pins s σ H _ I h) fun u s1 ⟨x, H1, I1, rx, a, dx, fs, ex, ea, l, q⟩ => ?_) ht
  subst ex
  obtain rfl : u = Value.ref a := rx
  refine getmeth_ok I1 ea c hm l ?_
  refine PySem.W.callWith_K (first := [.ref a]) (h₀ := X.base) I.ok.mod.kin hm.kp (thn (ha.run pos pins s1 σ H1 _ I1 q) fun us s2 ⟨vs, H2, I2, r, q2⟩ => ⟨I2.kIn, ?_⟩) hst hpl
  exact run_fnG (us := .ref a :: us) (vs := .ref a :: vs) F hr hgd hb (hx σ) I2 (.cons rfl r) q2.1 q2.2
theorem pe_methG0 {pl : Sem Bool} (he : PE X o ta) (c : Cls X.K C) (hm : Meth X.K C m f) (F : FnG X.prog X.w X.K X.mg X.base k f fd ps sp) (hr : Room k X.A) (hgd : X.A.guards = some []) (hb : L2.Binds X.K fd ps []) (hx : ∀ σ, PassesAt (L2.CX X.prog X.w) X σ (E σ))
    (ht : eval (.Call (.Attribute o m apos) [] [] pos) X.env = (do
      let ov ← eval o X.env
      standAt apos.atName
      let (f, first) ← holding [ov] (getMethod ov m pl)
      callWith pos f first (backTo pos (starEach [] X.env)) (backToKw pos (keywordEach [] X.env))) := by rfl) :
    PE X (.Call (.Attribute o m apos) [] [] pos) (tMethG C m ps.length sp E ta tNil) := by
  refine ⟨fun pins s σ H Q I h => ?_⟩
  refine PySem.W.methodCall_KW (pl := pl) (thn (he.run pins s σ H _ I h) fun u s1 ⟨x, H1, I1, rx, a, dx, fs, ex, ea, l, q⟩ => ?_) ht
  subst ex
  obtain rfl : u = Value.ref a := rx
  refine getmeth_ok I1 ea c hm l ?_
  exact PySem.W.callWith_K0 (first := [.ref a]) I1.kIn hm.kp (run_fnG (us := [.ref a]) (vs := [.ref a]) F hr hgd hb (hx σ) I1 (.cons rfl .nil) q.1 q.2)
end
/-- e.m(..), a method that changes nothing -/
def fMeth (F : FD) (f : EF) (g : En → R En (List D × En)) : EF := fun env => (f env).bind fun p => if (manyD p.1).isSome = true then (g p.2).bind fun q => match F (Sl.im p.1 :: q.1.map Sl.im) with
    | .ok r => .ok (r.1, q.2)
    | .err x _ => .err x q.2
    | .stuck => .stuck
  else .stuck
theorem args_im {K : PySem.W.Frag} {O : Addr → Prop} {H : Hp} {vs : List V} {ds : List D} (od : Od O H) (a : AtAll K O H vs ds) : ArgsOk K [] O H vs (ds.map Sl.im) where
  len := by rw [a.length, List.length_map]
  od := od
  arg := fun i s h => by
    rw [List.getElem?_map, Option.map_eq_some_iff] at h
    obtain ⟨d, h, rfl⟩ := h
    exact a.get h
  dist := fun i j b s t h hs => by
    rw [List.getElem?_map, Option.map_eq_some_iff] at h
    obtain ⟨d, h, rfl⟩ := h
    cases hs
  np := fun i s h hs => by
    rw [List.getElem?_map, Option.map_eq_some_iff] at h
    obtain ⟨d, h, rfl⟩ := h
    cases hs
theorem ex_im {K : PySem.W.Frag} {O O' : Addr → Prop} {H H' : Hp} {vs : List V} {ds : List D} {es' : List Sl} (h : HeapOk K O O' H H' vs (ds.map Sl.im) es') : Ex H H' := fun a o e => h.keep a o e fun ⟨i, s, h1, h2, _⟩ => by
  rw [List.getElem?_map, Option.map_eq_some_iff] at h1
  obtain ⟨d, _, rfl⟩ := h1
  cases h2
section
variable {X : Cx} {z : Z} {k j : Nat} {ps : List Str} {m : Str} {pos apos : Pos} {e o : Expr} {es : List Expr} {F : FD} {f : EF} {g : En → R En (List D × En)} {fo fr : Bool}
theorem de_meth {pl : Sem Bool} (i : StI X.K) (h : HasM X.prog X.w X.K X.mg X.base m j ps (spD X.K z.ca [] fr F)) (hr : Room k X.A) (hj : j ≤ k) (hgd : X.A.guards = some []) (tk : Takes X z.W) (ho : DE z X fo o f) (ha : DA z X (e :: es) g) (hn : ps.length = es.length + 2 := by rfl) (hl : ∀ env p, g env = .ok p → p.1.length = es.length + 1) (hno : noFld m = true := by decide +kernel)
    (hst : starEach (e :: es) X.env = (false, eval e X.env) :: starEach es X.env := by rfl) (hpl : (backTo pos (starEach es X.env)).any (·.1) = false := by rfl)
    (ht : eval (.Call (.Attribute o m apos) (e :: es) [] pos) X.env = (do
      let ov ← eval o X.env
      standAt apos.atName
      let (f, first) ← holding [ov] (getMethod ov m pl)
      callWith pos f first (backTo pos (starEach (e :: es) X.env)) (backToKw pos (keywordEach [] X.env))) := by rfl) :
    DE z X false (.Call (.Attribute o m apos) (e :: es) [] pos) (fMeth F f g) := by
  obtain ⟨fa, fd, hm, hb, G, _⟩ := h
  refine de_imp (pe_methG (pl := pl) ho i.cl hm (G.mono hj) hr hgd hb (fun σ => passAt tk σ) ha hst hpl ht) fun B env σ H Q I hp => ?_
  refine ⟨B, env, I, (R.post_bind hp).imp (fun p hp v H1 I1 m1 a1 _ => ?_) fun _ _ q => q⟩
  split at hp
  · rename_i hs
    obtain ⟨w, hw⟩ := Option.isSome_iff_exists.mp hs
    obtain ⟨a, dx, n, q, mm, rfl, e1, _, _⟩ := at_many a1 hw
    refine ⟨a, dx, _, rfl, e1, st_no hno, B, p.2, I1, ?_⟩
    cases hg : g p.2 with
    | stuck => rw [hg] at hp; exact hp
    | err x e' => rw [hg] at hp; exact XP.step m1 hp
    | ok q =>
      rw [hg] at hp
      have hq := hl _ _ hg
      intro vs H2 I2 m2 a2
      have a1' := At.mv m2 a1
      refine ⟨by rw [a2.length, hq, hn], (p.1 :: q.1).map Sl.im, B.O σ q.2, args_im I2.od (.cons a1' a2), ?_⟩
      have hp : R.post (EP1 X.K z false B σ H env Q) (XP X.K z B σ H env) (match F ((p.1 :: q.1).map Sl.im) with
        | .ok r => .ok (r.1, q.2)
        | .err x _ => .err x q.2
        | .stuck => .stuck) := hp
      cases hF : F ((p.1 :: q.1).map Sl.im) with
      | stuck => rw [hF] at hp; exact hp
      | ok r =>
        rw [hF] at hp
        intro v H' hc
        have ex := ex_im hc.1
        exact hp v H' (I2.ex ex) ((m1.trans m2).trans (Mv.ex ex)) hc.2.1 fun q => nomatch q
      | err x es' =>
        rw [hF] at hp
        intro cls dp H' hc hx
        have ex := ex_im hc
        exact hp cls dp H' (I2.ex ex) ((m1.trans m2).trans (Mv.ex ex)) hx
  · exact hp.elim
theorem de_meth0 {pl : Sem Bool} (i : StI X.K) (h : HasM X.prog X.w X.K X.mg X.base m j ps (spD X.K z.ca [] fr F)) (hr : Room k X.A) (hj : j ≤ k) (hgd : X.A.guards = some []) (tk : Takes X z.W) (ho : DE z X fo o f) (hn : ps.length = 1 := by rfl) (hno : noFld m = true := by decide +kernel)
    (ht : eval (.Call (.Attribute o m apos) [] [] pos) X.env = (do
      let ov ← eval o X.env
      standAt apos.atName
      let (f, first) ← holding [ov] (getMethod ov m pl)
      callWith pos f first (backTo pos (starEach [] X.env)) (backToKw pos (keywordEach [] X.env))) := by rfl) :
    DE z X false (.Call (.Attribute o m apos) [] [] pos) (fMeth F f fun env => .ok ([], env)) := by
  obtain ⟨fa, fd, hm, hb, G, _⟩ := h
  refine de_imp (pe_methG0 (pl := pl) ho i.cl hm (G.mono hj) hr hgd hb (fun σ => passAt tk σ) ht) fun B env σ H Q I hp => ?_
  refine ⟨B, env, I, (R.post_bind hp).imp (fun p hp v H1 I1 m1 a1 _ => ?_) fun _ _ q => q⟩
  split at hp
  · rename_i hs
    obtain ⟨w, hw⟩ := Option.isSome_iff_exists.mp hs
    obtain ⟨a, dx, n, q, mm, rfl, e1, _, _⟩ := at_many a1 hw
    refine ⟨a, dx, _, rfl, e1, st_no hno, by rw [hn]; rfl, [p.1].map Sl.im, B.O σ p.2, args_im I1.od (.cons a1 .nil), ?_⟩
    have hp : R.post (EP1 X.K z false B σ H env Q) (XP X.K z B σ H env) (match F ([p.1].map Sl.im) with
      | .ok r => .ok (r.1, p.2)
      | .err x _ => .err x p.2
      | .stuck => .stuck) := hp
    cases hF : F ([p.1].map Sl.im) with
    | stuck => rw [hF] at hp; exact hp
    | ok r =>
      rw [hF] at hp
      intro v H' hc
      have ex := ex_im hc.1
      exact hp v H' (I1.ex ex) (m1.trans (Mv.ex ex)) hc.2.1 fun q => nomatch q
    | err x es' =>
      rw [hF] at hp
      intro cls dp H' hc hx
      have ex := ex_im hc
      exact hp cls dp H' (I1.ex ex) (m1.trans (Mv.ex ex)) hx
  · exact hp.elim
end
end DL
namespace DL
open PySem PySem.Spec PyProof.Rows L2
/-- a method that stands in the text -/
def StandsM (K : PySem.W.Frag) (m : Str) (q : Str) (st : Stmt) (ps : List Str) : Prop :=
  ∃ (f : Addr) (fd : FuncData), Meth K (caK K "Stints") m f ∧ Fun K m q st f fd ∧ L2.Binds K fd ps []
section
variable {P : Program} {w : World} {K : PySem.W.Frag} {mg : Str → Option Value} {base : Heap} {ca : Str → Addr}
theorem StandsM.has {m q : Str} {st : Stmt} {N ps : List Str} {k : Nat} {fr : Bool} {g : SF} {n : Nat} (S : StandsM K m q st ps) (sc : FnScope N ps (defScope st)) (hps : ps.length ≤ N.length) (hn : N.length = n)
    (hbody : ∀ (f : Addr) (cdv : Value) (A : Around) (outer : List Env) (s : Shared) (H : Hp) (E : XK), Room k (A.deeper (envOfC q (defScope st) s.heap.objs.size f cdv)) → A.guards = some [] →
      DSs ⟨ca, [], fun c d _ H => E c d H, fun _ _ _ _ _ => True⟩ (cxOf (L2.CX P w) P w K mg base N q (defScope st) f cdv A outer s H E) fr (defBody st) g) :
    HasM P w K mg base m (k + 1) ps (spD K ca [] fr (runD n g)) := by
  obtain ⟨f, fd, h1, h2, h3⟩ := S
  subst hn
  exact ⟨f, fd, h1, h3, fun_okG h2 sc hps fun cdv A outer s H E => hbody f cdv A outer s H E, lk_of h2⟩
theorem StandsM.hasV {sp : Sp} {m q : Str} {st : Stmt} {N ps : List Str} {k : Nat} (S : StandsM K m q st ps) (sc : FnScope N ps (defScope st)) (hps : ps.length ≤ N.length)
    (hbody : ∀ (f : Addr) (cdv : Value) (A : Around) (outer : List Env) (s : Shared) (H : Hp) (E : XK) (Q : VK) (vs : List V), Room k (A.deeper (envOfC q (defScope st) s.heap.objs.size f cdv)) → A.guards = some [] → vs.length = ps.length → sp vs H Q E →
      ∃ t, PSs (cxOf (L2.CX P w) P w K mg base N q (defScope st) f cdv A outer s H E) (defBody st) t ∧ t { nx := fun _ H' => Q .non H', rt := Q } (start N vs) H) :
    HasM P w K mg base m (k + 1) ps sp := by
  obtain ⟨f, fd, h1, h2, h3⟩ := S
  exact ⟨f, fd, h1, h3, fun_okV h2 sc hps fun cdv A outer s H E => hbody f cdv A outer s H E, lk_of h2⟩
end
/-- behind self.take(..) -/
def wrH (K : PySem.W.Frag) (H : Hp) (a dx n p : Addr) (m : Int) (xs : List V) (n' : Addr) : Hp := upd (upd H p (.lst (xs ++ [.ref n]))) a (.ins (caK K "Stints") dx (stF m n' p))
def spTake (K : PySem.W.Frag) : Sp := fun vs H Q _ => ∃ (a dx n p n' : Addr) (m : Int) (xs : List V), vs = [.ref a, .ref n'] ∧ StI K ∧ H a = some (.ins (caK K "Stints") dx (stF m n p)) ∧ H p = some (.lst xs) ∧ xs.length < sizeLine ∧ Q .non (wrH K H a dx n p m xs n')
theorem putF_now {m : Int} {n p n' : Addr} : putF "now" (.ref n') (stF m n p) = stF m n' p := by rfl
section
variable {P : Program} {w : World} {K : PySem.W.Frag} {mg : Str → Option Value} {base : Heap}
theorem take_ok {q : Str} {st : Stmt} {p1 p2 p3 p4 p5 p6 p7 p8 p9 p10 p11 : Pos} (S : StandsM K "take" q st ["self", "terms"]) (sc : FnScope ["self", "terms"] ["self", "terms"] (defScope st))
    (hb : defBody st = [.Expr (.Call (.Attribute (.Attribute (.Name "self" p1) "past" p2) "append" p3) [.Attribute (.Name "self" p4) "now" p5] [] p6) p7, .Assign [.Attribute (.Name "self" p8) "now" p9] (.Name "terms" p10) p11])
    (hline : (p3.endLine == p6.line) = true) (hv1 : Vis (defScope st) "self") (hv2 : Vis (defScope st) "terms") : HasM P w K mg base "take" 1 ["self", "terms"] (spTake K) := by
  refine S.hasV sc (Nat.le_refl _) fun f cdv A outer s H E Q vs hr hgd hl h => ?_
  obtain ⟨a, dx, n, p, n', m, xs, rfl, i, ha, hp, hx, q⟩ := h
  rw [hb]
  refine ⟨_, pss_cons (ps_expr (pe_bm PySem.F.plainAttrs_list PySem.F.slot_list_append PySem.F.type_list_append mt_append (pe_fld (pv 0 rfl hv1) rfl) (pa_cons (pe_fld (pv 0 rfl hv1) rfl) pa_nil) (hline := hline))) (pss_one (ps_fld (pv 0 rfl hv1) (pv 1 rfl hv2) rfl)), ?_⟩
  have npa : a ≠ p := ne_of ha hp (by intro q; cases q)
  refine ⟨_, rfl, a, _, dx, _, .ref p, rfl, ha, i.cl, i.nP, st_past, .inl ⟨rfl, _, SqL.of hp⟩, _, rfl, a, _, dx, _, .ref n, rfl, ha, i.cl, i.nN, st_now, p, xs, _, rfl, rfl, hp, hx, ?_⟩
  exact ⟨_, rfl, _, rfl, a, _, dx, _, rfl, by rw [upd_ne npa]; exact ha, i.cl, i.nN, (by show 3 < 1000; decide), by rw [putF_now]; exact q⟩
end
def spWr (K : PySem.W.Frag) (ca : Str → Addr) (ret : Option (Nat → V)) (F : List D → R En (List D)) : Sp := fun vs H Q E => ∃ (O : Addr → Prop) (a dx n p : Addr) (m : Int) (xs us ns : List V) (ds args : List D) (c : Nat),
  vs = .ref a :: us ∧ StI K ∧ H a = some (.ins (caK K "Stints") dx (stF m n p)) ∧ ¬ O a ∧ H p = some (.lst xs) ∧ O p ∧ xs.length < sizeLine ∧ Od O H ∧ LL K O H n ns ∧ AtAll K O H ns ds ∧ AtAll K O H us args ∧
  (F (stiD m ds c :: args)).post (fun ds' => ∀ H1 n', Ex H H1 → At K (plus O a) H1 (.ref n') (.list ds') → Q ((ret.map fun r => r ds'.length).getD .non) (wrH K H1 a dx n p m xs n'))
    (fun x _ => ∀ cls dp H', Ex H H' → ExnAt K O H' ca x cls dp → E cls dp H')
structure WOk (K : PySem.W.Frag) (B : Bs) (a dx n p : Addr) (m : Int) (xs : List V) : Prop where
  i : StI K
  ps : B.ps = []
  fx : (0, V.ref a) ∈ B.fx
  ha : B.H0 a = some (.ins (caK K "Stints") dx (stF m n p))
  na : ¬ B.O0 a
  hp : B.H0 p = some (.lst xs)
  op : B.O0 p
  hx : xs.length < sizeLine
def tW (K : PySem.W.Frag) (z : Z) (ret : Option (Nat → V)) (h : En → R En (List D)) : TS := fun Dd σ H => ∃ (B : Bs) (env : En) (a dx n p : Addr) (m : Int) (xs : List V), SR K z.np B σ H env ∧ WOk K B a dx n p m xs ∧
  (h env).post (fun ds' => ∀ σ' H1 n', Ex B.H0 H1 → At K (plus B.O0 a) H1 (.ref n') (.list ds') → match ret with
    | none => Dd.nx σ' (wrH K H1 a dx n p m xs n')
    | some r => Dd.rt (r ds'.length) (wrH K H1 a dx n p m xs n')) (XS K z B σ H env)
abbrev DSW (z : Z) (X : Cx) (ret : Option (Nat → V)) (sts : List Stmt) (h : En → R En (List D)) : Prop := PSs X sts (tW X.K z ret h)
def wCons (g : SF) (h : En → R En (List D)) : En → R En (List D) := fun env => (g env).bind fun o => match o with
  | .nx e => h e
  | _ => .stuck
def wTake (f : EF) : En → R En (List D) := fun env => (f env).bind fun p => match p.1 with
  | .list ds => if noDctAll ds = true then .ok ds else .stuck
  | _ => .stuck
section
variable {K : PySem.W.Frag} {O : Addr → Prop} {H : Hp} {a C dx : Addr} {fs : List (Str × V)}
theorem LL.plus {b : Addr} {xs : List V} (h : LL K O H b xs) (ha : H a = some (.ins C dx fs)) : LL K (plus O a) H b xs := by
  refine ⟨h.1, fun w => ?_⟩
  rcases w with w | rfl
  · exact h.2 w
  · rcases h.1 with (e | ⟨o, e⟩) | e
    · rw [ha] at e; cases e
    · rw [ha] at e; cases e
    · exact fun _ => .inr e
theorem LT.plus {b : Addr} {xs : List V} (h : LT K O H b xs) (ha : H a = some (.ins C dx fs)) : LT K (plus O a) H b xs := by
  refine ⟨h.1, fun w => ?_⟩
  rcases w with w | rfl
  · exact h.2 w
  · rcases h.1 with (e | ⟨o, e⟩) | e
    · rw [ha] at e; cases e
    · rw [ha] at e; cases e
    · exact fun _ => .inr e
mutual
/-- data without errors and objects: the object at a is none of its parts -/
theorem At.plus (ha : H a = some (.ins C dx fs)) : ∀ {v : V} {d : D}, At K O H v d → noDct d = true → At K (plus O a) H v d
  | _, _, .non, _ => .non
  | _, _, .bl b, _ => .bl b
  | _, _, .int i, _ => .int i
  | _, _, .str x, _ => .str x
  | _, _, .tup l r, h => .tup (l.plus ha) (AtAll.plus ha r (by simpa only [noDct] using h))
  | _, _, .lst l r, h => .lst (l.plus ha) (AtAll.plus ha r (by simpa only [noDct] using h))
  | _, _, .exc _ _ _, h => by simp only [noDct] at h; cases h
  | _, _, .excP _ _ _ _ _, h => by simp only [noDct] at h; cases h
  | _, _, .sti _ _ _ _ _ _ _, h => by simp only [noDct] at h; cases h
theorem AtAll.plus (ha : H a = some (.ins C dx fs)) : ∀ {vs : List V} {ds : List D}, AtAll K O H vs ds → noDctAll ds = true → AtAll K (plus O a) H vs ds
  | _, _, .nil, _ => .nil
  | _, _, .cons x r, h => by
    simp only [noDctAll, Bool.and_eq_true] at h
    exact .cons (At.plus ha x h.1) (AtAll.plus ha r h.2)
end
end
section
variable {X : Cx} {z : Z} {st : Stmt} {sts : List Stmt} {ret : Option (Nat → V)} {k j : Nat}
theorem dsw_cons {g : SF} {h : En → R En (List D)} {fr : Bool} (h1 : DS z X fr st g) (h2 : DSW z X ret sts h) : DSW z X ret (st :: sts) (wCons g h) := pss_weak (pss_cons h1 h2) fun Dd σ H ⟨B, env, a, dx, n, p, m, xs, I, W, q⟩ =>
  ⟨B, env, I, (R.post_bind q).imp (fun o ho => by
    cases o with
    | nx e => exact fun σ' H' I' m' => ⟨B, e, a, dx, n, p, m, xs, I', W, ho.imp (fun _ q => q) fun x e q => q.step m'⟩
    | bk e => exact ho.elim
    | ct e => exact ho.elim
    | rt d e => exact ho.elim) fun x e q => q⟩
theorem WOk.at {B : Bs} {σ : Sg} {H : Hp} {env : En} {np : List Nat} {a dx n p : Addr} {m : Int} {xs : List V} (W : WOk X.K B a dx n p m xs) (I : SR X.K np B σ H env) : Ex B.H0 H ∧ σ[0]? = some (some (.ref a)) ∧ H a = some (.ins (caK X.K "Stints") dx (stF m n p)) ∧ H p = some (.lst xs) := by
  have ex : Ex B.H0 H := fun b o e => I.keep b o e fun p hp => by rw [W.ps] at hp; cases hp
  exact ⟨ex, (I.fix _ W.fx).1, ex _ _ W.ha, ex _ _ W.hp⟩
theorem dsw_take {f : EF} {arg : Expr} {fr : Bool} {p1 p2 p3 p4 : Pos} {pl : Sem Bool} (T : HasM X.prog X.w X.K X.mg X.base "take" j ["self", "terms"] (spTake X.K)) (hr : Room k X.A) (hj : j ≤ k) (hgd : X.A.guards = some []) (tk : Takes X z.W) (hs : PE X (.Name "self" p1) (tVar 0)) (ha : DE z X fr arg f) (i : StI X.K)
    (hst : starEach [arg] X.env = (false, eval arg X.env) :: starEach [] X.env := by rfl)
    (hsw : swapsWith (.Call (.Attribute (.Name "self" p1) "take" p2) [arg] [] p3) none p4.line X.env = pure false := by rfl)
    (ht : eval (.Call (.Attribute (.Name "self" p1) "take" p2) [arg] [] p3) X.env = (do
      let ov ← eval (.Name "self" p1) X.env
      standAt p2.atName
      let (f, first) ← holding [ov] (getMethod ov "take" pl)
      callWith p3 f first (backTo p3 (starEach [arg] X.env)) (backToKw p3 (keywordEach [] X.env))) := by rfl) :
    DSW z X none [.Expr (.Call (.Attribute (.Name "self" p1) "take" p2) [arg] [] p3) p4] (wTake f) := by
  obtain ⟨fa, fd, hm, hb, G, _⟩ := T
  refine pss_weak (pss_one (ps_expr (pe_methG (pl := pl) hs i.cl hm (G.mono hj) hr hgd hb (fun σ => passAt tk σ) (pa_cons ha pa_nil hst) hst rfl ht) hsw)) fun Dd σ H ⟨B, env, a, dx, n, p, m, xs, I, W, q⟩ => ?_
  obtain ⟨_, hσ, h1, _⟩ := W.at I
  refine ⟨_, hσ, a, dx, _, rfl, h1, st_no (by decide +kernel), B, env, I, (R.post_bind q).imp (fun r hr v H1 I1 m1 a1 _ => ?_) fun x e q => q.xp⟩
  obtain ⟨ex, _, h3, h4⟩ := W.at I1
  refine ⟨rfl, ?_⟩
  obtain ⟨d, e1⟩ := r
  cases d with
  | list ds =>
    dsimp only at hr a1
    split at hr
    · rename_i hn
      cases a1 with
      | @lst n' ys _ l r =>
        have a2 : At X.K B.O0 H1 (.ref n') (.list ds) := At.mv (Mv.less fun b w => .inl w) (.lst l r)
        refine ⟨a, dx, n, p, n', m, xs, rfl, W.i, h3, h4, W.hx, ?_⟩
        exact hr σ H1 n' ex (a2.plus h3 (by simpa only [noDct] using hn))
    · exact hr.elim
  | _ => exact hr.elim
/-- self.take(..); return len(self.now) - 1 -/
theorem dsw_takeLen {f : EF} {arg : Expr} {fr : Bool} {p1 p2 p3 p4 p5 p6 p7 p8 p9 p10 p11 : Pos} {kd : _} {pl : Sem Bool} (T : HasM X.prog X.w X.K X.mg X.base "take" j ["self", "terms"] (spTake X.K)) (hr : Room k X.A) (hj : j ≤ k) (hgd : X.A.guards = some []) (tk : Takes X z.W) (hs : PE X (.Name "self" p1) (tVar 0)) (hs2 : PE X (.Name "self" p5) (tVar 0)) (ha : DE z X fr arg f) (i : StI X.K)
    (hg : Gl X "len") (hm : X.mg "len" = none)
    (hst : starEach [arg] X.env = (false, eval arg X.env) :: starEach [] X.env := by rfl)
    (hst2 : starEach [Expr.Attribute (.Name "self" p5) "now" p6] X.env = (false, eval (.Attribute (.Name "self" p5) "now" p6) X.env) :: starEach [] X.env := by rfl)
    (hsw : swapsWith (.Call (.Attribute (.Name "self" p1) "take" p2) [arg] [] p3) none p4.line X.env = pure false := by rfl)
    (ht : eval (.Call (.Attribute (.Name "self" p1) "take" p2) [arg] [] p3) X.env = (do
      let ov ← eval (.Name "self" p1) X.env
      standAt p2.atName
      let (f, first) ← holding [ov] (getMethod ov "take" pl)
      callWith p3 f first (backTo p3 (starEach [arg] X.env)) (backToKw p3 (keywordEach [] X.env))) := by rfl) :
    DSW z X (some fun k => .int (k - 1)) [.Expr (.Call (.Attribute (.Name "self" p1) "take" p2) [arg] [] p3) p4, .Return (some (.BinOp (.Call (.Name "len" p7) [.Attribute (.Name "self" p5) "now" p6] [] p8) .Sub (.Constant (.int 1) kd p9) p10)) p11] (wTake f) := by
  obtain ⟨fa, fd, hmt, hb, G, _⟩ := T
  refine pss_weak (pss_cons (ps_expr (pe_methG (pl := pl) hs i.cl hmt (G.mono hj) hr hgd hb (fun σ => passAt tk σ) (pa_cons ha pa_nil hst) hst rfl ht) hsw)
    (pss_one (ps_ret (pe_op op_sub (pe_callB call_len_seq hg hm (by decide +kernel) (pa_cons (pe_fld hs2 rfl) pa_nil hst2) (by decide) (by decide) hst2) pe_int)))) fun Dd σ H ⟨B, env, a, dx, n, p, m, xs, I, W, q⟩ => ?_
  obtain ⟨_, hσ, h1, _⟩ := W.at I
  refine ⟨_, hσ, a, dx, _, rfl, h1, st_no (by decide +kernel), B, env, I, (R.post_bind q).imp (fun r hr v H1 I1 m1 a1 _ => ?_) fun x e q => q.xp⟩
  obtain ⟨ex, _, h3, h4⟩ := W.at I1
  refine ⟨rfl, ?_⟩
  obtain ⟨d, e1⟩ := r
  cases d with
  | list ds =>
    dsimp only at hr a1
    split at hr
    · rename_i hn
      cases a1 with
      | @lst n' ys _ l r =>
        have a2 : At X.K B.O0 H1 (.ref n') (.list ds) := At.mv (Mv.less fun b w => .inl w) (.lst l r)
        have a3 := a2.plus h3 (by simpa only [noDct] using hn)
        refine ⟨a, dx, n, p, n', m, xs, rfl, W.i, h3, h4, W.hx, ?_⟩
        have hd : Mv (plus B.O0 a) (plus B.O0 a) H1 (wrH X.K H1 a dx n p m xs n') := ⟨fun b o e nb => by
            have n1 : b ≠ a := fun z => nb (.inr z)
            have n2 : b ≠ p := fun z => nb (.inl (z ▸ W.op))
            unfold wrH
            rw [upd_ne n1, upd_ne n2]; exact e, fun b w => .inl w, fun b e => by
            unfold wrH at e
            by_cases n1 : b = a
            · rw [n1, upd_same] at e; cases e
            · rw [upd_ne n1] at e
              by_cases n2 : b = p
              · rw [n2, upd_same] at e; cases e
              · rw [upd_ne n2] at e; exact e⟩
        have a4 := a3.mv hd
        cases a4 with
        | @lst _ zs _ l4 r4 =>
          have len : zs.length = ds.length := r4.length
          refine ⟨_, hσ, a, _, dx, _, .ref n', rfl, upd_same, i.cl, i.nN, st_now, n', zs, rfl, .inl l4.1, _, _, rfl, rfl, ?_⟩
          have := hr σ H1 n' ex a3
          rw [len]
          exact this
    · exact hr.elim
  | _ => exact hr.elim
end
def wrM (n : Nat) (h : En → R En (List D)) : List D → R En (List D) := fun args => h (args.map (fun d => some (.im d)) ++ List.replicate (n - args.length) none)
def B1 (O : Addr → Prop) (H : Hp) (a : Addr) : Bs := ⟨O, H, [], fun _ => none, [(0, .ref a)]⟩
section
variable {K : PySem.W.Frag} {O : Addr → Prop} {H : Hp} {σ : Sg} {env : En} {np : List Nat}
/-- a state of data alone -/
theorem sr_flat {B : Bs} (hl : σ.length = env.length) (hs : ∀ (i : Nat) (s : Sl), env[i]? = some (some s) → ∃ (d : D) (v : V), s = Sl.im d ∧ σ[i]? = some (some v) ∧ At K B.O0 H v d) (od : Od B.O0 H) (h0 : B.H0 = H) (hp : B.ps = []) (hk : ∀ a, B.kp a = none) (hf : ∀ p ∈ B.fx, σ[p.1]? = some (some p.2) ∧ p.1 ∈ np) : SR K np B σ H env := by
  have no : ∀ i a, ¬ ownedAt σ env i a := fun i a ⟨s, h1, h2, _⟩ => by
    obtain ⟨d, v, rfl, _⟩ := hs i s h1
    cases h2
  refine ⟨hl, fun i s h => ?_, fun i j a h _ => (no i a h).elim, fun a o h _ => h0 ▸ h, fun a h => h0 ▸ h, fun i a h => (no i a h).elim, fun a h => ⟨fun e => od a e h, fun p q => by rw [hp] at q; cases q⟩, (fun a o h => by rw [hk] at h; cases h), fun i a h => (no i a h).elim, fun i a h => (no i a h).elim, (fun p q => by rw [hp] at q; cases q), hf⟩
  obtain ⟨d, v, rfl, e, at_⟩ := hs i s h
  exact ⟨v, e, At.mv (Mv.less fun a w => w.elim id fun ⟨i, w⟩ => (no i a w).elim) at_⟩
end
section
variable {P : Program} {w : World} {K : PySem.W.Frag} {mg : Str → Option Value} {base : Heap} {ca : Str → Addr}
theorem StandsM.wr {m q : Str} {st : Stmt} {N ps : List Str} {k : Nat} {ret : Option (Nat → V)} {h : En → R En (List D)} {n : Nat} (S : StandsM K m q st ps) (sc : FnScope N ps (defScope st)) (hps : ps.length ≤ N.length) (hn : N.length = n)
    (hbody : ∀ (f : Addr) (cdv : Value) (A : Around) (outer : List Env) (s : Shared) (H : Hp) (E : XK), Room k (A.deeper (envOfC q (defScope st) s.heap.objs.size f cdv)) → A.guards = some [] →
      DSW ⟨ca, [0], fun c d _ H => E c d H, fun _ _ _ _ _ => True⟩ (cxOf (L2.CX P w) P w K mg base N q (defScope st) f cdv A outer s H E) ret (defBody st) h) :
    HasM P w K mg base m (k + 1) ps (spWr K ca ret (wrM n h)) := by
  refine S.hasV sc hps fun f cdv A outer s H E Q vs hr hgd hl hsp => ⟨_, hbody f cdv A outer s H E hr hgd, ?_⟩
  obtain ⟨O, a, dx, n0, p, m0, xs, us, ns, ds, args, c, rfl, i, ha, na, hp, op, hx, od, l, r, ar, post⟩ := hsp
  have a0 : At K O H (.ref a) (stiD m0 ds c) := .sti m0 c i ⟨ha, na⟩ l r (paH_of (Int.natCast_nonneg c))
  have al : AtAll K O H (.ref a :: us) (stiD m0 ds c :: args) := .cons a0 ar
  have hlen : (stiD m0 ds c :: args).length = ps.length := by rw [← hl]; exact al.length.symm
  have I : SR K [0] (B1 O H a) (start N (.ref a :: us)) H ((stiD m0 ds c :: args).map (fun d => some (Sl.im d)) ++ List.replicate (n - (stiD m0 ds c :: args).length) none) := by
    refine sr_flat ?_ (fun j s h => ?_) od rfl rfl (fun _ => rfl) fun q hq => ?_
    · unfold L2.start
      have := al.length
      simp only [List.length_append, List.length_map, List.length_replicate]
      omega
    · rw [show (stiD m0 ds c :: args).map (fun d => some (Sl.im d)) = ((stiD m0 ds c :: args).map Sl.im).map some from by rw [List.map_map]; rfl] at h
      have h' := start_get.1 h
      rw [List.getElem?_map, Option.map_eq_some_iff] at h'
      obtain ⟨d, hd, rfl⟩ := h'
      obtain ⟨v, e, av⟩ := al.get hd
      exact ⟨d, v, rfl, start_get.2 e, av⟩
    · have hq : q = (0, .ref a) := by simpa [B1] using hq
      subst hq
      exact ⟨rfl, by simp⟩
  refine ⟨B1 O H a, _, a, dx, n0, p, m0, xs, I, ⟨i, rfl, by simp [B1], ha, na, hp, op, hx⟩, R.post.imp post (fun ds' hq σ' H1 n' ex at_ => ?_) fun x e hq cls dp σ' H' I' m' hx' => ?_⟩
  · have hq := hq H1 n' ex at_
    cases ret with
    | none => exact hq
    | some r => exact hq
  · refine hq cls dp H' (fun b o e => I'.keep b o e fun p hp => by cases hp) (hx'.mv fun b hb => .inl hb)
end
end DL
namespace DL
open PySem PySem.Spec PyProof.Rows L2
def allIm (env : En) : Bool := env.all fun o => match o with
  | some s => !s.own
  | none => true
theorem allIm_get {env : En} {i : Nat} {s : Sl} (h : allIm env = true) (e : env[i]? = some (some s)) : s.own = false := by
  have := List.all_eq_true.mp h _ (List.mem_of_getElem? e)
  simpa using this
def spIn (K : PySem.W.Frag) (ca : Str → Addr) (F : List D → R En (Int × List D)) : Sp := fun vs H Q E => ∃ (O : Addr → Prop) (a dx : Addr) (us : List V) (args : List D),
  vs = .ref a :: us ∧ StI K ∧ H a = some (.ins (caK K "Stints") dx []) ∧ O a ∧ Od O H ∧ AtAll K O H us args ∧
  (F args).post (fun r => ∀ H3 n p, (∀ b o, H b = some o → b ≠ a → H3 b = some o) → (∀ b, H3 b = none → H b = none) → At K O H3 (.ref n) (.list r.2) → H3 p = none → Q .non (upd (upd H3 p (.lst [])) a (.ins (caK K "Stints") dx (stF r.1 n p))))
    (fun x _ => ∀ cls dp H', Ex H H' → ExnAt K O H' ca x cls dp → E cls dp H')
structure IOk (K : PySem.W.Frag) (B : Bs) (a dx : Addr) : Prop where
  i : StI K
  ps : B.ps = []
  fx : (0, V.ref a) ∈ B.fx
  ha : B.H0 a = some (.ins (caK K "Stints") dx [])
  oa : B.O0 a
def tIn (K : PySem.W.Frag) (z : Z) (h : En → R En (Int × List D)) : TS := fun Dd σ H => ∃ (B : Bs) (env : En) (a dx : Addr), SR K z.np B σ H env ∧ IOk K B a dx ∧
  (h env).post (fun r => ∀ σ' H3 n p, (∀ b o, B.H0 b = some o → b ≠ a → H3 b = some o) → (∀ b, H3 b = none → B.H0 b = none) → At K B.O0 H3 (.ref n) (.list r.2) → H3 p = none → Dd.nx σ' (upd (upd H3 p (.lst [])) a (.ins (caK K "Stints") dx (stF r.1 n p)))) (XS K z B σ H env)
abbrev DSI (z : Z) (X : Cx) (sts : List Stmt) (h : En → R En (Int × List D)) : Prop := PSs X sts (tIn X.K z h)
def iCons (g : SF) (h : En → R En (Int × List D)) : En → R En (Int × List D) := fun env => (g env).bind fun o => match o with
  | .nx e => h e
  | _ => .stuck
def iEnd (f : EF) : En → R En (Int × List D) := fun env => match env[1]? with
  | some (some (Sl.im (PyData.int m))) => if allIm env = true then (match f env with
    | .ok (.list ds, _) => .ok (m, ds)
    | _ => .stuck) else .stuck
  | _ => .stuck
section
variable {K : PySem.W.Frag} {np : List Nat} {B : Bs} {σ : Sg} {H : Hp} {env : En} {a : Addr} {o : HO}
/-- behind a change of what nobody's data leans on: a new start -/
theorem SR.restart (I : SR K np B σ H env) (hp : B.ps = []) (ha : B.O0 a) (he : allIm env = true) : SR K np ⟨B.O0, upd H a o, [], fun _ => none, B.fx⟩ σ (upd H a o) env := by
  have no : ∀ i b, ¬ ownedAt σ env i b := fun i b ⟨s, h1, h2, _⟩ => by
    rw [allIm_get he h1] at h2; cases h2
  refine sr_flat I.len (fun i s h => ?_) (fun b e w => ?_) rfl rfl (fun _ => rfl) I.fix
  · obtain ⟨v, e, q⟩ := I.slot i s h
    have hs := allIm_get he h
    cases s with
    | im d =>
      refine ⟨d, v, rfl, e, At.mv ⟨fun b u eb nb => ?_, fun b w => .inl (.inl w), fun b eb => ?_⟩ q⟩
      · rw [upd_ne fun z : b = a => nb (.inl (z ▸ ha))]; exact eb
      · by_cases z : b = a
        · rw [z, upd_same] at eb; cases eb
        · rw [upd_ne z] at eb; exact eb
    | _ => cases hs
  · by_cases z : b = a
    · have e : upd H a o b = none := e
      rw [z, upd_same] at e; cases e
    · have e : upd H a o b = none := e
      rw [upd_ne z] at e
      exact (I.o0 b w).1 e
end
section
variable {X : Cx} {z : Z} {st : Stmt} {sts : List Stmt}
theorem dsi_cons {g : SF} {h : En → R En (Int × List D)} {fr : Bool} (h1 : DS z X fr st g) (h2 : DSI z X sts h) : DSI z X (st :: sts) (iCons g h) := pss_weak (pss_cons h1 h2) fun Dd σ H ⟨B, env, a, dx, I, W, q⟩ =>
  ⟨B, env, I, (R.post_bind q).imp (fun o ho => by
    cases o with
    | nx e => exact fun σ' H' I' m' => ⟨B, e, a, dx, I', W, ho.imp (fun _ q => q) fun x e q => q.step m'⟩
    | bk e => exact ho.elim
    | ct e => exact ho.elim
    | rt d e => exact ho.elim) fun x e q => q⟩
theorem putF_many {v : V} : putF "many" v [] = ([("many", v)] : List (Str × V)) := by rfl
theorem putF_now1 {v w : V} : putF "now" w ([("many", v)] : List (Str × V)) = ([("many", v), ("now", w)] : List (Str × V)) := by rfl
theorem putF_past2 {u v w : V} : putF "past" u ([("many", v), ("now", w)] : List (Str × V)) = ([("many", v), ("now", w), ("past", u)] : List (Str × V)) := by rfl
/-- self.many = many; self.now = ..; self.past = [] -/
theorem dsi_end {f : EF} {e : Expr} {fr : Bool} {p1 p2 p3 p4 p5 p6 p7 p8 p9 p10 p11 : Pos} (hs1 : PE X (.Name "self" p1) (tVar 0)) (hs2 : PE X (.Name "many" p3) (tVar 1)) (hs3 : PE X (.Name "self" p5) (tVar 0)) (hs4 : PE X (.Name "self" p8) (tVar 0)) (he : DE z X fr e f)
    (w1 : swapsWith (.Name "many" p3) (some (.Attribute (.Name "self" p1) "many" p2)) p4.line X.env = pure false := by rfl)
    (w2 : swapsWith e (some (.Attribute (.Name "self" p5) "now" p6)) p7.line X.env = pure false := by rfl)
    (w3 : swapsWith (.List [] p10) (some (.Attribute (.Name "self" p8) "past" p9)) p11.line X.env = pure false := by rfl) :
    DSI z X [.Assign [.Attribute (.Name "self" p1) "many" p2] (.Name "many" p3) p4, .Assign [.Attribute (.Name "self" p5) "now" p6] e p7, .Assign [.Attribute (.Name "self" p8) "past" p9] (.List [] p10) p11] (iEnd f) := by
  refine pss_weak (pss_cons (ps_fld hs1 hs2 w1) (pss_cons (ps_fld hs3 he w2) (pss_one (ps_fld hs4 (pe_lst pa_nil) w3)))) fun Dd σ H ⟨B, env, a, dx, I, W, q⟩ => ?_
  unfold iEnd at q
  split at q
  · rename_i m em
    split at q
    · rename_i hall
      have hσ : σ[0]? = some (some (.ref a)) := (I.fix _ W.fx).1
      have hHa : H a = some (.ins (caK X.K "Stints") dx []) := I.keep a _ W.ha fun p hp => by rw [W.ps] at hp; cases hp
      obtain ⟨v, hv, av⟩ := I.im em
      cases av
      refine ⟨_, hv, _, hσ, a, _, dx, _, rfl, hHa, W.i.cl, W.i.nM, (by show 0 < 1000; decide), ?_⟩
      rw [putF_many]
      have I2 := I.restart (o := .ins (caK X.K "Stints") dx [("many", .int m)]) W.ps W.oa hall
      refine ⟨_, env, I2, ?_⟩
      cases hf : f env with
      | stuck => rw [hf] at q; exact q.elim
      | err x e' => rw [hf] at q; exact q.elim
      | ok r =>
        rw [hf] at q
        obtain ⟨d, e'⟩ := r
        cases d with
        | list ds =>
          intro v H3 I3 m3 a3 _
          have ex3 : Ex (upd H a (.ins (caK X.K "Stints") dx [("many", .int m)])) H3 := fun b o eb => I3.keep b o eb fun p hp => by cases hp
          have h3a := ex3 a _ upd_same
          have h3σ : σ[0]? = some (some (.ref a)) := (I3.fix _ W.fx).1
          have a3 := At.mv (Mv.less fun b w => .inl w) a3
          cases a3 with
          | @lst n ys _ l r =>
            refine ⟨_, h3σ, a, _, dx, _, rfl, h3a, W.i.cl, W.i.nN, (by show 1 < 1000; decide), ?_⟩
            rw [putF_now1]
            refine ⟨Nat.zero_le _, fun p hp => ?_⟩
            have npa : p ≠ a := fun e => by rw [e, upd_same] at hp; cases hp
            refine ⟨_, h3σ, a, _, dx, _, rfl, by rw [upd_ne (Ne.symm npa)]; exact upd_same, W.i.cl, W.i.nP, (by show 2 < 1000; decide), ?_⟩
            rw [putF_past2]
            have hp3 : H3 p = none := by rw [upd_ne npa] at hp; exact hp
            have eH : upd (upd (upd H3 a (.ins (caK X.K "Stints") dx [("many", .int m), ("now", .ref n)])) p (.lst [])) a (.ins (caK X.K "Stints") dx [("many", .int m), ("now", .ref n), ("past", .ref p)]) = upd (upd H3 p (.lst [])) a (.ins (caK X.K "Stints") dx (stF m n p)) := by
              funext b
              by_cases h1 : b = a
              · rw [h1, upd_same, upd_same]
              · rw [upd_ne h1, upd_ne h1]
                by_cases h2 : b = p
                · rw [h2, upd_same, upd_same]
                · rw [upd_ne h2, upd_ne h2, upd_ne h1]
            rw [eH]
            exact q σ H3 n p (fun b o eb nb => ex3 b o (by rw [upd_ne nb]; exact I.keep b o eb fun p hp => by rw [W.ps] at hp; cases hp)) (fun b eb => I.dom b (by
              have := Ex.dom ex3 b eb
              by_cases h1 : b = a
              · rw [h1, upd_same] at this; cases this
              · rw [upd_ne h1] at this; exact this)) (.lst l r) hp3
        | _ => exact q.elim
    · exact q.elim
  · exact q.elim
end
end DL
namespace DL
open PySem PySem.Spec PyProof.Rows L2
/-- the class, its __init__ as it stands in the text (with a default for terms) -/
structure StandsI (K : PySem.W.Frag) (mg : Str → Option Value) (q : Str) (params : Arguments) (body : List Stmt) (scope : Scope) (f : Addr) (fd : FuncData) : Prop where
  g : mg "Stints" = some (.ref (caK K "Stints"))
  M : Mk K (caK K "Stints") f
  fn : ∃ (oc : Value) (od : Option Addr) (dV kV doc pm : Value) (an : Option Addr) (cdv ct : Value) (osl : Array (Option Value)),
    fd = PySem.W.fnOf "__init__" q params body scope dV kV doc pm an cdv ct ∧ K.lookup f = some ⟨oc, od, .func fd, osl⟩ ∧ PySem.W.codeIn K cdv q = true
  b : L2.Binds K fd ["self", "many", "terms"] []
def HasI (P : Program) (w : World) (K : PySem.W.Frag) (mg : Str → Option Value) (base : Heap) (ca : Str → Addr) (k : Nat) (F : List D → R En (Int × List D)) : Prop :=
  ∃ (f : Addr) (fd : FuncData), mg "Stints" = some (.ref (caK K "Stints")) ∧ Mk K (caK K "Stints") f ∧ L2.Binds K fd ["self", "many", "terms"] [] ∧ FnG P w K mg base k f fd ["self", "many", "terms"] (spIn K ca F)
section
variable {P : Program} {w : World} {K : PySem.W.Frag} {mg : Str → Option Value} {base : Heap} {ca : Str → Addr}
theorem fun_okX {sp : Sp} {x q : Str} {params : Arguments} {body : List Stmt} {scope : Scope} {f : Addr} {fd : FuncData} {N ps : List Str} {k : Nat}
    (F : ∃ (oc : Value) (od : Option Addr) (dV kV doc pm : Value) (an : Option Addr) (cdv ct : Value) (osl : Array (Option Value)), fd = PySem.W.fnOf x q params body scope dV kV doc pm an cdv ct ∧ K.lookup f = some ⟨oc, od, .func fd, osl⟩ ∧ PySem.W.codeIn K cdv q = true)
    (S : FnScope N ps scope) (hps : ps.length ≤ N.length)
    (hbody : ∀ (cdv : Value) (A : Around) (outer : List Env) (s : Shared) (H : Hp) (E : XK) (Q : VK) (vs : List V), Room k (A.deeper (envOfC q scope s.heap.objs.size f cdv)) → A.guards = some [] → vs.length = ps.length → sp vs H Q E →
      ∃ t, PSs (cxOf (L2.CX P w) P w K mg base N q scope f cdv A outer s H E) body t ∧ t { nx := fun _ H' => Q .non H', rt := Q } (start N vs) H) :
    FnG P w K mg base (k + 1) f fd ps sp := by
  obtain ⟨oc, od, dV, kV, doc, pm, an, cdv, ct, osl, rfl, lk, hcd⟩ := F
  refine ⟨fun A outer s H args us vs Q E hr hgd e0 hb r hl hsp => ?_⟩
  have KX : K.In s.heap := e0.mod.kin.keeps fun b o e => (e0.bs b o e).1
  have lim : s.heap.NoLimit := e0.mod.nolimit.keeps fun b o e => (e0.bs b o e).1
  have hkind : ∀ y ∈ ps.zip us, scope.names.lookup y.1 = some .local ∨ (scope.names.lookup y.1 = some .cell ∧ ((cellsFrom (s.heap.objs.size + 1) scope.names []).lookup y.1).isSome = true) := fun ⟨n, v⟩ hy => by
    rcases S.par n (List.of_mem_zip hy).1 with q | q
    · exact .inl q
    · exact .inr ⟨q, PySem.W.cellsFrom_some _ _ _ (.inl q)⟩
  refine codeAny_call_function hr.depth (KX _ _ lk) rfl S.co S.gen rfl (PySem.W.codeRec_of KX hcd) (hb _ _ _ _ ?_)
  refine wpAny_newFunctionEnv_cells S.kind hkind fun env he s1 x => ?_
  subst he
  refine ⟨lim.keeps x.toInCall.keep, codeAny_func ?_⟩
  obtain ⟨t, ht, hq⟩ := hbody cdv A outer s H E Q vs (hr.deeper _) hgd hl hsp
  have I : Inv (cxOf (L2.CX P w) P w K mg base N q scope f cdv A outer s H E) [] (start N vs) H s1 := inv_start S hr.hd e0 hl r x
  refine wpAny_mono (ht.run [] s1 (start N vs) H _ I hq) (fun fl s' hs => ?_) fun e s' hs => hs
  have fin : ∀ {σ' : Sg} {H' : Hp} {v : V} {u : Value}, Inv (cxOf (L2.CX P w) P w K mg base N q scope f cdv A outer s H E) [] σ' H' s' → RelV v u → Q v H' → CE outer P w H s Q u s' :=
    fun {σ' H' v u} J rv q => ⟨v, H', J.os, J.bare, J.base, J.hok, rv, q⟩
  cases fl with
  | ret u =>
    obtain ⟨v, σ', H', J, rv, q⟩ := hs
    exact fin J rv q
  | next =>
    obtain ⟨σ', H', J, q⟩ := hs
    exact fin (v := V.non) (u := Value.none) J rfl q
  | brk =>
    obtain ⟨_, _, _, q⟩ := hs
    exact False.elim q
  | cont =>
    obtain ⟨_, _, _, q⟩ := hs
    exact False.elim q
def inM (n : Nat) (h : En → R En (Int × List D)) : List D → R En (Int × List D) := fun args => h (none :: (args.map (fun d => some (.im d)) ++ List.replicate (n - (args.length + 1)) none))
theorem StandsI.has {q : Str} {params : Arguments} {body : List Stmt} {scope : Scope} {f : Addr} {fd : FuncData} {N : List Str} {k n : Nat} {h : En → R En (Int × List D)} (S : StandsI K mg q params body scope f fd) (sc : FnScope N ["self", "many", "terms"] scope) (hps : 3 ≤ N.length) (hn : N.length = n)
    (hbody : ∀ (cdv : Value) (A : Around) (outer : List Env) (s : Shared) (H : Hp) (E : XK), Room k (A.deeper (envOfC q scope s.heap.objs.size f cdv)) → A.guards = some [] →
      DSI ⟨ca, [0], fun c d _ H => E c d H, fun _ _ _ _ _ => True⟩ (cxOf (L2.CX P w) P w K mg base N q scope f cdv A outer s H E) body h) :
    HasI P w K mg base ca (k + 1) (inM n h) := by
  refine ⟨f, fd, S.g, S.M, S.b, fun_okX S.fn sc hps fun cdv A outer s H E Q vs hr hgd hl hsp => ⟨_, hbody cdv A outer s H E hr hgd, ?_⟩⟩
  obtain ⟨O, a, dx, us, args, rfl, i, ha, oa, od, ar, post⟩ := hsp
  have hlen : args.length = 2 := by
    have := ar.length
    have h2 : (V.ref a :: us).length = 3 := hl
    simp only [List.length_cons] at h2
    omega
  have I : SR K [0] (B1 O H a) (start N (.ref a :: us)) H (none :: (args.map (fun d => some (Sl.im d)) ++ List.replicate (n - (args.length + 1)) none)) := by
    refine sr_flat ?_ (fun j s h => ?_) od rfl rfl (fun _ => rfl) fun q hq => ?_
    · unfold L2.start
      have := ar.length
      simp only [List.length_append, List.length_map, List.length_replicate, List.length_cons]
      omega
    · cases j with
      | zero => simp at h
      | succ j =>
        rw [List.getElem?_cons_succ, show args.map (fun d => some (Sl.im d)) = (args.map Sl.im).map some from by rw [List.map_map]; rfl] at h
        have h' := start_get.1 h
        rw [List.getElem?_map, Option.map_eq_some_iff] at h'
        obtain ⟨d, hd, rfl⟩ := h'
        obtain ⟨v, e, av⟩ := ar.get hd
        refine ⟨d, v, rfl, ?_, av⟩
        have e' : (V.ref a :: us)[j + 1]? = some v := by rw [List.getElem?_cons_succ]; exact e
        exact start_get.2 e'
    · have hq : q = (0, .ref a) := by simpa [B1] using hq
      subst hq
      exact ⟨rfl, by simp⟩
  refine ⟨B1 O H a, _, a, dx, I, ⟨i, rfl, by simp [B1], ha, oa⟩, R.post.imp post (fun r hq σ' H3 n p k1 k2 a3 h3 => hq H3 n p k1 k2 a3 h3) fun x e hq cls dp σ' H' I' m' hx' => ?_⟩
  exact hq cls dp H' (fun b o e => I'.keep b o e fun p hp => by cases hp) (hx'.mv fun b hb => .inl hb)
end
/-- C(e, ..) -/
def tMakeG (C : Addr) (n : Nat) (sp : Sp) (E : Sg → XK) (t : TA) : TE := fun σ H Q => t σ H fun vs H1 => vs.length + 1 = n ∧ ∀ x dx, H1 x = none → H1 dx = none → dx ≠ x →
  sp (.ref x :: vs) (upd (upd H1 dx (.own x)) x (.ins C dx [])) (fun v H2 => v = .non ∧ Q (.ref x) H2) (E σ)
section
variable {X : Cx} {k : Nat} {C f : Addr} {fd : FuncData} {ps : List Str} {sp : Sp} {E : Sg → XK} {x : Str} {p pos : Pos} {e : Expr} {es : List Expr} {t : TA}
theorem make_guards {A : Around} {C : Addr} {us : List Value} {kw : List (Str × Value)} (h : A.guards = some []) : (A.under (.builtin "type.__call__" ⟨.ref C :: us, kw⟩)).guards = some [] := by
  first | exact h | simpa [Around.under, Code.isGuard, guardIds] using h
theorem pe_makeG (M : Mk X.K C f) (F : FnG X.prog X.w X.K X.mg X.base k f fd ps sp) (hr : Room (k + 1) X.A) (hgd : X.A.guards = some []) (hg : Gl X x) (hm : X.mg x = some (.ref C)) (hb : L2.Binds X.K fd ps []) (hx : ∀ σ, PassesAt (L2.CX X.prog X.w) X σ (E σ))
    (ha : PA X (e :: es) t) (hdb : (x == ("__debug__" : Str)) = false := by decide) (he : starEach (e :: es) X.env = (false, eval e X.env) :: starEach es X.env := by rfl) (hpl : (backTo pos (starEach es X.env)).any (·.1) = false := by rfl) :
    PE X (.Call (.Name x p) (e :: es) [] pos) (tMakeG C ps.length sp E t) := by
  refine ⟨fun pins s σ H Q I h => ?_⟩
  refine wpAny_Call_Name_kw (ld_glob I hg hm ?_ hdb)
  refine PySem.W.callWith_K (h₀ := X.base) I.ok.mod.kin M.kp (thn (ha.run pos pins s σ H _ I h) fun us s1 ⟨vs, H1, I1, r, hl, q⟩ => ⟨I1.kIn, ?_⟩) he hpl
  have hq := q (s1.heap.objs.size + 1) s1.heap.objs.size (I1.hok.fresh (Nat.le_succ _)) (I1.hok.fresh (Nat.le_refl _)) (Nat.ne_of_lt (Nat.lt_succ_self _))
  have I2 := Inv.made (C := C) I1
  have r2 : Vals (V.ref (s1.heap.objs.size + 1) :: vs) (Value.ref (s1.heap.objs.size + 1) :: us) := .cons rfl r
  have hl2 : (V.ref (s1.heap.objs.size + 1) :: vs).length = ps.length := hl
  have hb2 := hb _ (Value.ref (s1.heap.objs.size + 1) :: us) I2.kIn (by rw [List.append_nil, ← r2.length]; exact hl2)
  rw [List.append_nil] at hb2
  refine wpAny_call (make_map (f := f) I1.kIn M.makes M.init (beq_iff_eq.mp M.fn) (codeAny_mono (F.run _ X.stack _ _ ⟨Value.ref (s1.heap.objs.size + 1) :: us, []⟩ (Value.ref (s1.heap.objs.size + 1) :: us) _ _ (E σ) (hr.make C us [])
    (make_guards hgd) (I2.env0.make C us []) hb2 r2 hl2 hq) fun r s' hq' => ?_))
  cases r with
  | error e => exact hx σ pins _ _ e s' I2 hq'
  | ok fl =>
    cases fl with
    | ret u =>
      obtain ⟨v, H', I3, rv, ev, q3⟩ := I2.after hq'
      subst ev
      exact ⟨rv, ⟨V.ref (s1.heap.objs.size + 1), H', I3, rfl, q3⟩⟩
    | next => exact False.elim hq'
    | brk => exact False.elim hq'
    | cont => exact False.elim hq'
end
end DL
namespace DL
open PySem PySem.Spec PyProof.Rows L2
/-- .. where what stands at a stays as it is -/
def Bs.keepAt (B : Bs) (a : Addr) (o : HO) : Bs := ⟨B.O0, B.H0, B.ps, fun b => if b = a then some o else B.kp b, B.fx⟩
section
variable {K : PySem.W.Frag} {np : List Nat} {B : Bs} {σ : Sg} {H : Hp} {env : En} {a : Addr} {o : HO}
theorem SR.keepAt_out (I : SR K np (B.keepAt a o) σ H env) (hk : B.kp a = none) : SR K np B σ H env :=
  ⟨I.len, I.slot, I.dist, I.keep, I.dom, I.new, I.o0, fun b u h => I.kept b u (by
    show (if b = a then some o else B.kp b) = some u
    rw [if_neg fun e : b = a => by rw [e, hk] at h; cases h]
    exact h), fun i b h => by
    have q : (if b = a then some o else B.kp b) = none := I.kpo i b h
    split at q
    · cases q
    · exact q, I.own0, I.par, I.fix⟩
end
def Bo (K : PySem.W.Frag) (B : Bs) (i : Nat) (a dx n p : Addr) (m : Int) (xs : List V) : Bs := ((B.hold p (.lst xs)).keepAt a (.ins (caK K "Stints") dx (stF m n p))).fixv i (.ref a)
/-- how often it was changed -/
def cntOf (env : En) (i : Nat) : Option Int := match env[i]? with
  | some (some (Sl.im (.dict [(.str _, .int _), (.str _, .list _), (.str _, .int c)]))) => some c
  | _ => none
structure OOk (K : PySem.W.Frag) (z : Z) (B : Bs) (i : Nat) (a dx n p : Addr) (m : Int) (xs : List V) (σ0 : Sg) (H0 : Hp) (env0 : En) (σ : Sg) (H : Hp) (env : En) : Prop where
  sr : SR K (i :: z.np) (Bo K B i a dx n p m xs) σ H env
  st : StI K
  cn : cntOf env i = some xs.length
  a0 : B.H0 a = none
  p0 : B.H0 p = none
  ak : B.kp a = none
  pk : B.kp p = none
  aO : ¬ B.O0 a
  pO : ¬ B.O0 p
  ap : a ≠ p
  a1 : H0 a = none
  p1 : H0 p = none
  mv : Mv (B.O σ0 env0) (B.O σ env) H0 H
  ps : ∀ q ∈ B.ps, q.1 ∈ z.np
  fx : ∀ q ∈ B.fx, q.1 ∈ z.np
section
variable {K : PySem.W.Frag} {z : Z} {B : Bs} {i : Nat} {a dx n p : Addr} {m : Int} {xs : List V} {σ0 σ σ' : Sg} {H0 H H' : Hp} {env0 env env' : En}
theorem unfixkeep (hp : ∀ q ∈ B.ps, q.1 ∈ z.np) (hf : ∀ q ∈ B.fx, q.1 ∈ z.np) (ap : a ≠ p) (ak : B.kp a = none) (I : SR K (i :: z.np) (Bo K B i a dx n p m xs) σ H env) : SR K z.np (B.hold p (.lst xs)) σ H env :=
  (SR.unfixv (B := (B.hold p (.lst xs)).keepAt a (.ins (caK K "Stints") dx (stF m n p))) hp hf I).keepAt_out (by
    show (if a = p then some (HO.lst xs) else B.kp a) = none
    rw [if_neg ap]; exact ak)
theorem OOk.out (h : OOk K z B i a dx n p m xs σ0 H0 env0 σ H env) (I' : SR K (i :: z.np) (Bo K B i a dx n p m xs) σ' H' env') : SR K z.np B σ' H' env' := (unfixkeep h.ps h.fx h.ap h.ak I').hold_out h.pk
theorem OOk.mv2 (h : OOk K z B i a dx n p m xs σ0 H0 env0 σ H env) (I' : SR K (i :: z.np) (Bo K B i a dx n p m xs) σ' H' env') (mm : Mv ((Bo K B i a dx n p m xs).O σ env) ((Bo K B i a dx n p m xs).O σ' env') H H') : Mv (B.O σ env) (B.O σ' env') H H' :=
  Mv.unhold (unfixkeep h.ps h.fx h.ap h.ak h.sr) (unfixkeep h.ps h.fx h.ap h.ak I') h.pO mm
theorem OOk.step (h : OOk K z B i a dx n p m xs σ0 H0 env0 σ H env) (hc : cntOf env' i = cntOf env i) (I' : SR K (i :: z.np) (Bo K B i a dx n p m xs) σ' H' env') (mm : Mv ((Bo K B i a dx n p m xs).O σ env) ((Bo K B i a dx n p m xs).O σ' env') H H') : OOk K z B i a dx n p m xs σ0 H0 env0 σ' H' env' :=
  ⟨I', h.st, hc.trans h.cn, h.a0, h.p0, h.ak, h.pk, h.aO, h.pO, h.ap, h.a1, h.p1, h.mv.trans (h.mv2 I' mm), h.ps, h.fx⟩
theorem OOk.rt {fr : Bool} {Dd : Ends} {d : D} {e : En} (hz : RtAny z) (hd : isLd d = false) (h : OOk K z B i a dx n p m xs σ0 H0 env0 σ H env) (q : SOk K z fr B σ0 H0 env0 Dd (.rt d e)) : SOk K (z.at i) fr (Bo K B i a dx n p m xs) σ H env Dd (.rt d e) := by
  intro v σ' H' I' mm r t
  have less : Mv (Bo K B i a dx n p m xs).Op B.Op H' H' := Mv.less fun a w => w.elim (fun w => .inl (.inl w)) .inr
  exact q v σ' H' (h.out I') (h.mv.trans (h.mv2 I' mm)) ⟨r.1.mv less, fun _ ds e => by rw [e] at hd; cases hd⟩ (hz _ _ _ _ _)
end
section
variable {X : Cx} {z : Z} {fr : Bool} {st : Stmt} {sts : List Stmt} {i j k : Nat}
def okSl : Option Sl → Bool
  | none => true
  | some (.im d) => noDct d
  | some (.ow ds) => noDctAll ds
  | _ => false
def okOb (env : En) (i : Nat) : Bool := (env.set i none).all okSl
theorem okOb_get {env : En} {j : Nat} {s : Sl} (h : okOb env i = true) (e : env[j]? = some (some s)) (n : j ≠ i) : okSl (some s) = true :=
  List.all_eq_true.mp h _ (List.mem_of_getElem? (by rw [List.getElem?_set_ne (Ne.symm n)]; exact e))
theorem wr_mv {K : PySem.W.Frag} {O : Addr → Prop} {H : Hp} {a dx n p n' : Addr} {m : Int} {xs : List V} (op : O p) : Mv (plus O a) O H (wrH K H a dx n p m xs n') := ⟨fun b o e nb => by
    have n1 : b ≠ a := fun z => nb (.inr z)
    have n2 : b ≠ p := fun z => nb (.inl (z ▸ op))
    unfold wrH
    rw [upd_ne n1, upd_ne n2]; exact e, fun b w => .inl (.inl w), fun b e => by
    unfold wrH at e
    by_cases n1 : b = a
    · rw [n1, upd_same] at e; cases e
    · rw [upd_ne n1] at e
      by_cases n2 : b = p
      · rw [n2, upd_same] at e; cases e
      · rw [upd_ne n2] at e; exact e⟩
theorem OOk.wr {K : PySem.W.Frag} {B : Bs} {a dx n p n' : Addr} {m : Int} {xs : List V} {σ0 σ : Sg} {H0 H H1 : Hp} {env0 env : En} {ds : List D} (M : OOk K z B i a dx n p m xs σ0 H0 env0 σ H env) (ok : okOb env i = true) (ex : Ex H H1) (at_ : At K (plus ((Bo K B i a dx n p m xs).O σ env) a) H1 (.ref n') (.list ds)) (ho : ∀ b, ¬ ownedAt σ env i b) (hn : ∃ s, env[i]? = some s) :
    OOk K z B i a dx n' p m (xs ++ [.ref n]) σ0 H0 env0 σ (wrH K H1 a dx n p m xs n') (env.set i (some (.im (stiD m ds (xs.length + 1))))) := by
  have I := M.sr
  have hb : ∀ b o, H1 b = some o → b ≠ a → b ≠ p → wrH K H1 a dx n p m xs n' b = some o := fun b o e n1 n2 => by
    unfold wrH
    rw [upd_ne n1, upd_ne n2]; exact e
  have hba : wrH K H1 a dx n p m xs n' a = some (.ins (caK K "Stints") dx (stF m n' p)) := upd_same
  have hbp : wrH K H1 a dx n p m xs n' p = some (.lst (xs ++ [.ref n])) := by unfold wrH; rw [upd_ne M.ap.symm, upd_same]
  have hdom : ∀ b, wrH K H1 a dx n p m xs n' b = none → H1 b = none := fun b e => by
    unfold wrH at e
    by_cases n1 : b = a
    · rw [n1, upd_same] at e; cases e
    · rw [upd_ne n1] at e
      by_cases n2 : b = p
      · rw [n2, upd_same] at e; cases e
      · rw [upd_ne n2] at e; exact e
  have ka : H1 a = some (.ins (caK K "Stints") dx (stF m n p)) := ex _ _ (I.kept a _ (by show (if a = a then _ else _) = _; rw [if_pos rfl]))
  have hσ : σ[i]? = some (some (.ref a)) := (I.fix (i, .ref a) (List.mem_cons_self ..)).1
  have ow : ∀ j b, ownedAt σ (env.set i (some (.im (stiD m ds (xs.length + 1))))) j b ↔ ownedAt σ env j b := fun j b => by
    by_cases hj : j = i
    · subst hj
      constructor
      · rintro ⟨s, h1, h2, _⟩
        rcases getElem?_set_some h1 with ⟨_, e⟩ | ⟨e, _⟩
        · cases e; cases h2
        · exact absurd rfl e
      · exact fun h => (ho b h).elim
    · constructor
      · rintro ⟨s, h1, h2, h3⟩
        exact ⟨s, by rw [List.getElem?_set_ne (Ne.symm hj)] at h1; exact h1, h2, h3⟩
      · rintro ⟨s, h1, h2, h3⟩
        exact ⟨s, by rw [List.getElem?_set_ne (Ne.symm hj)]; exact h1, h2, h3⟩
  have opO : (Bo K B i a dx n p m xs).O σ env p := .inl (.inr rfl)
  have nOa : ¬ (Bo K B i a dx n p m xs).O σ env a := fun w => by
    rcases w with (w | w) | ⟨j, w⟩
    · exact M.aO w
    · exact M.ap w
    · have : (if a = a then some (HO.ins (caK K "Stints") dx (stF m n p)) else _) = none := I.kpo j a w
      rw [if_pos rfl] at this
      cases this
  have m0 : Mv ((Bo K B i a dx n p m xs).O σ env) ((Bo K B i a dx n p m xs).O σ env) H H1 := Mv.ex ex
  have m1 : Mv (plus ((Bo K B i a dx n p m xs).O σ env) a) ((Bo K B i a dx n p m xs).O σ env) H1 (wrH K H1 a dx n p m xs n') := wr_mv opO
  have eO : ∀ b, (Bo K B i a dx n' p m (xs ++ [.ref n])).O σ (env.set i (some (.im (stiD m ds (xs.length + 1))))) b ↔ (Bo K B i a dx n p m xs).O σ env b := fun b =>
    ⟨fun w => w.elim .inl fun ⟨j, w⟩ => .inr ⟨j, (ow j b).1 w⟩, fun w => w.elim .inl fun ⟨j, w⟩ => .inr ⟨j, (ow j b).2 w⟩⟩
  have less : Mv ((Bo K B i a dx n p m xs).O σ env) ((Bo K B i a dx n' p m (xs ++ [.ref n])).O σ (env.set i (some (.im (stiD m ds (xs.length + 1)))))) (wrH K H1 a dx n p m xs n') (wrH K H1 a dx n p m xs n') := Mv.less fun b w => (eO b).1 w
  have np : ∀ j b, ownedAt σ env j b → b ≠ a ∧ b ≠ p := fun j b w => ⟨fun e => nOa (.inr ⟨j, e ▸ w⟩), fun e => I.own0 j b w (e ▸ .inr rfl)⟩
  refine ⟨⟨by rw [List.length_set]; exact I.len, fun j s h => ?_, fun j l b h1 h2 => I.dist j l b ((ow j b).1 h1) ((ow l b).1 h2), fun b o e nb => ?_, fun b e => I.dom b (Ex.dom ex b (hdom b e)), fun j b h => I.new j b ((ow j b).1 h), fun b w => ⟨fun e => (I.o0 b w).1 (Ex.dom ex b (hdom b e)), (I.o0 b w).2⟩, fun b o h => ?_, fun j b h => ?_, fun j b h => I.own0 j b ((ow j b).1 h), fun q hq => ?_, I.fix⟩, M.st, ?_, M.a0, M.p0, M.ak, M.pk, M.aO, M.pO, M.ap, M.a1, M.p1, ?_, M.ps, M.fx⟩
  · rcases getElem?_set_some h with ⟨rfl, e⟩ | ⟨hj, h⟩
    · cases e
      refine ⟨_, hσ, ?_⟩
      have a2 := (at_.mv m1).mv less
      cases a2 with
      | lst l r => exact .sti m _ M.st ⟨hba, fun w => nOa ((eO a).1 w)⟩ l r (paH_of (by omega))
    · obtain ⟨v, e, q⟩ := I.slot j s h
      have okj := okOb_get ok h hj
      refine ⟨v, e, ?_⟩
      have q1 : SlotR K ((Bo K B i a dx n p m xs).O σ env) H1 v s := q.mv m0 (fun b eb hs => .inr ⟨j, s, h, hs, eb ▸ e⟩) fun b o _ _ z => ex b o z
      cases s with
      | im d => exact ((At.plus ka q1 okj).mv m1).mv less
      | ow es =>
        obtain ⟨b, ys, rfl, hO, hb1, r⟩ := q1
        have hne := np j b ⟨_, h, rfl, e⟩
        exact ⟨b, ys, rfl, (eO b).2 hO, hb b _ hb1 hne.1 hne.2, ((AtAll.plus ka r okj).mv m1).mv less⟩
      | dk kvs => cases okj
      | db kvs => cases okj
  · have e : B.H0 b = some o := e
    have n1 : b ≠ a := fun z => by rw [z, M.a0] at e; cases e
    have n2 : b ≠ p := fun z => by rw [z, M.p0] at e; cases e
    exact hb b o (ex b o (I.keep b o e nb)) n1 n2
  · have h : (if b = a then some (HO.ins (caK K "Stints") dx (stF m n' p)) else if b = p then some (HO.lst (xs ++ [.ref n])) else B.kp b) = some o := h
    by_cases e1 : b = a
    · rw [if_pos e1] at h; rw [e1, hba]; exact h
    · rw [if_neg e1] at h
      by_cases e2 : b = p
      · rw [if_pos e2] at h; rw [e2, hbp]; exact h
      · rw [if_neg e2] at h
        exact hb b o (ex b o (I.kept b o (by
          show (if b = a then _ else if b = p then _ else B.kp b) = some o
          rw [if_neg e1, if_neg e2]; exact h))) e1 e2
  · obtain ⟨n1, n2⟩ := np j b ((ow j b).1 h)
    show (if b = a then _ else if b = p then _ else B.kp b) = none
    rw [if_neg n1, if_neg n2]
    have : (if b = a then some (HO.ins (caK K "Stints") dx (stF m n p)) else if b = p then some (HO.lst xs) else B.kp b) = none := I.kpo j b ((ow j b).1 h)
    rw [if_neg n1, if_neg n2] at this
    exact this
  · obtain ⟨h1, h2, h3⟩ := I.par q hq
    exact ⟨(ow _ _).2 h1, h2, h3⟩
  · obtain ⟨s, hs⟩ := hn
    have hi : i < env.length := (List.getElem?_eq_some_iff.mp hs).1
    unfold cntOf
    rw [List.getElem?_set_self hi]
    simp only [List.length_append, List.length_singleton]
    push_cast
    rfl
  · refine ⟨fun b o e nb => ?_, fun b w => ?_, fun b e => M.mv.dom b (Ex.dom ex b (hdom b e))⟩
    · have n1 : b ≠ a := fun z => by rw [z, M.a1] at e; cases e
      have n2 : b ≠ p := fun z => by rw [z, M.p1] at e; cases e
      exact hb b o (ex b o (M.mv.keep b o e nb)) n1 n2
    · exact M.mv.own b (w.elim .inl fun ⟨j, w⟩ => .inr ⟨j, (ow j b).1 w⟩)
end
end DL
namespace DL
open PySem PySem.Spec PyProof.Rows L2
def isTy2 (S T : String) (d : D) : Option D := match d with
  | .dict _ => none
  | _ => match kitB (tyN d) S with
    | some true => some (.bool true)
    | some false => (kitB (tyN d) T).map .bool
    | none => none
theorem isTy2_inv {K : PySem.W.Frag} {S T : String} {d w : D} (h : isTy2 S T d = some w) : ∃ b, w = .bool b ∧ (∀ kvs, d ≠ .dict kvs) ∧ PySem.W.kitAny K (.type (tyN d)) [.type S, .type T] = some b := by
  have nd : ∀ kvs, d ≠ .dict kvs := fun kvs e => by rw [e] at h; cases h
  have h2 : (match kitB (tyN d) S with
    | some true => some (.bool true)
    | some false => (kitB (tyN d) T).map .bool
    | none => none) = some w := by
    cases d with
    | dict kvs => exact absurd rfl (nd kvs)
    | _ => exact h
  cases hS : kitB (tyN d) S with
  | none => rw [hS] at h2; cases h2
  | some b =>
    rw [hS] at h2
    cases b with
    | true =>
      cases h2
      refine ⟨true, rfl, nd, ?_⟩
      unfold PySem.W.kitAny
      rw [kit_ty hS]
    | false =>
      obtain ⟨c, hT, rfl⟩ := Option.map_eq_some_iff.mp h2
      refine ⟨c, rfl, nd, ?_⟩
      unfold PySem.W.kitAny
      rw [kit_ty hS]
      dsimp only
      unfold PySem.W.kitAny
      rw [kit_ty hT]
      cases c <;> rfl
section
variable {X : Cx} {z : Z} {e : Expr}
theorem de_isi2 {S T : String} {x y : Str} {p p2 p3 pt pos : Pos} {ld : _} {fr : Bool} {f : EF} (he : DE z X fr e f) (hg : Gl X "isinstance") (hm : X.mg "isinstance" = none) (hgS : Gl X x) (hmS : X.mg x = none) (hvS : bootBuiltins x = some (.type S)) (hgT : Gl X y) (hmT : X.mg y = none) (hvT : bootBuiltins y = some (.type T))
    (hn : x ≠ "__name__" := by decide) (hd : (x == ("__debug__" : Str)) = false := by decide) (hn2 : y ≠ "__name__" := by decide) (hd2 : (y == ("__debug__" : Str)) = false := by decide)
    (he1 : starEach [e, .Tuple [.Name x p2, .Name y p3] ld pt] X.env = (false, eval e X.env) :: starEach [.Tuple [.Name x p2, .Name y p3] ld pt] X.env := by rfl) (he2 : starEach [.Tuple [.Name x p2, .Name y p3] ld pt] X.env = (false, eval (.Tuple [.Name x p2, .Name y p3] ld pt) X.env) :: starEach [] X.env := by rfl)
    (hpl : (backTo pos (starEach [.Tuple [.Name x p2, .Name y p3] ld pt] X.env)).any (·.1) = false := by rfl) :
    DE z X true (.Call (.Name "isinstance" p) [e, .Tuple [.Name x p2, .Name y p3] ld pt] [] pos) (fUn (isTy2 S T) f) := by
  refine de_imp (pe_callB call_isiT hg hm (by decide +kernel) (pa_cons he (pa_cons (pe_tup (pa_cons (pe_bltn (v := .ty S) hgS hmS hvS rfl hn hd) (pa_cons (pe_bltn (v := .ty T) hgT hmT hvT rfl hn2 hd2) pa_nil))) pa_nil he2) he1) (by decide) (by decide) he1 hpl) fun B env σ H Q I hp => ?_
  refine ⟨B, env, I, (R.post_bind hp).imp (fun p hp v H1 I1 m1 a1 _ => ?_) fun _ _ q => q⟩
  obtain ⟨w, ew, hw⟩ := ofO_post (R.post_bind hp)
  obtain ⟨b, rfl, nd, hb⟩ := isTy2_inv (K := X.K) ew
  refine ⟨by rw [sizeLine_eq]; show 2 ≤ 16777216; decide, fun q hq => ?_⟩
  have ex : Ex H1 (upd H1 q (.tup [.ty S, .ty T])) := Ex.new hq
  have a2 := a1.mv (Mv.ex ex)
  rcases a2.ty with ⟨_, ty⟩ | ⟨_, _, _, _, ⟨kvs, ed⟩, _⟩ | ⟨⟨kvs, ed⟩, _⟩
  · exact ⟨v, q, _, _, _, b, rfl, upd_same, .cons (.ty S) (.cons (.ty T) .nil), ty, hb, EP1.give hw (I1.ex ex) (m1.trans (Mv.ex ex)) (.flat (.bl _) fun _ q => nomatch q)⟩
  · exact absurd ed (nd kvs)
  · exact absurd ed (nd kvs)
end
theorem len_nil : ∀ (env : En) (p : List D × En), (fun env => (R.ok ([], env) : R En (List D × En))) env = .ok p → p.1.length = 0 := fun env p h => by cases h; rfl
theorem len_cons {f : EF} {g : En → R En (List D × En)} {n : Nat} (h : ∀ env p, g env = .ok p → p.1.length = n) : ∀ env p, fCons f g env = .ok p → p.1.length = n + 1 := fun env p e => by
  unfold fCons at e
  cases hf : f env with
  | stuck => rw [hf] at e; cases e
  | err x s => rw [hf] at e; cases e
  | ok a =>
    rw [hf] at e
    have e : ((g a.2).bind fun q => R.ok (a.1 :: q.1, q.2)) = .ok p := e
    cases hg : g a.2 with
    | stuck => rw [hg] at e; cases e
    | err x s => rw [hg] at e; cases e
    | ok q =>
      rw [hg] at e
      cases e
      show q.1.length + 1 = n + 1
      rw [h _ _ hg]
end DL
namespace DL
open PySem PySem.Spec PyProof.Rows L2
def lenSD : List D → Option D
  | [.dict [(.str _, .int _), (.str _, .list ds), (.str _, .int _)]] => if ds.length < 1000000 then some (.int ds.length) else none
  | _ => none
theorem sti_shape {K : PySem.W.Frag} {O : Addr → Prop} {H : Hp} {v : V} {d w : D} (a : At K O H v d) (e : lenSD [d] = some w) : ∃ (x dx n p : Addr) (m c : Int) (ds : List D), v = .ref x ∧ d = stiD m ds c ∧ H x = some (.ins (caK K "Stints") dx (stF m n p)) ∧ w = .int ds.length ∧ ds.length < 1000000 ∧ StI K := by
  cases a with
  | sti m c i h l r _ =>
    rename_i ds _
    have e : (if ds.length < 1000000 then some (PyData.int ds.length) else none) = some w := e
    split at e
    · cases e
      exact ⟨_, _, _, _, m, c, ds, rfl, rfl, h.1, rfl, by assumption, i⟩
    · cases e
  | _ => cases e
theorem cd_lenS {X : Cx} {ca : Str → Addr} {k j : Nat} {fr : Bool} {F : FD} (T : HasM X.prog X.w X.K X.mg X.base "__len__" j ["self"] (spD X.K ca [] fr F)) (hr : Room k X.A) (hj : j + 1 ≤ k) (hgd : X.A.guards = some []) (hF : ∀ m ds c, ∃ t, F [.im (stiD m ds c)] = .ok (.int ds.length, t)) : CallD X (.builtin "len") true lenSD := by
  obtain ⟨f, fd, hm, hb, G, _⟩ := T
  have C : CallR X (.builtin "len") (fun vs H Q => ∃ (O : Addr → Prop) (x dx n p : Addr) (m c : Int) (ds : List D), vs = [.ref x] ∧ Od O H ∧ At X.K O H (.ref x) (stiD m ds c) ∧ H x = some (.ins (caK X.K "Stints") dx (stF m n p)) ∧ ds.length < 1000000 ∧ ∀ H', Ex H H' → Q (.int ds.length) H') := by
    intro pins s σ H xs us Q I r h
    obtain ⟨O, x, dx, n, p, m, c, ds, rfl, od, at_, hx, hl, q⟩ := h
    obtain ⟨u, rfl, rx⟩ := vals1 r
    cases rx
    obtain ⟨mA, J, _⟩ := ins_get I.hok hx
    obtain ⟨od1, J, _⟩ := J.look
    obtain ⟨m1, hFr⟩ := I.fr
    refine PySem.W.len_K hFr I.ok.mod.kin J hm.at_ hm.fn ?_
    obtain ⟨t, et⟩ := hF m ds c
    have rm : Room j X.A.in1 := (hr.mono hj).in1
    have sp : spD X.K ca [] fr F [.ref x] H (fun v H' => v = .int ds.length ∧ Ex H H') (fun _ _ _ => False) := by
      refine ⟨[stiD m ds c].map Sl.im, O, args_im od (.cons at_ .nil), ?_⟩
      show R.post _ _ (F [Sl.im (stiD m ds c)])
      rw [et]
      intro v H' hc
      have ex := ex_im hc.1
      have a := hc.2.1
      cases a
      exact ⟨rfl, ex⟩
    have e0 : Env0 X.prog X.w X.K X.mg X.base X.A.in1 X.stack s H := by
      have e := I.env0
      exact ⟨e.frames, e.mod, e.bs, e.bsz, e.funs, e.frf, e.hok, e.bare⟩
    have r2 : Vals [V.ref x] [Value.ref x] := .cons rfl .nil
    refine wpAny_call (codeAny_mono (G.run X.A.in1 X.stack s H ⟨[.ref x], []⟩ [.ref x] [.ref x] _ _ rm hgd e0 (by
      have := hb s [.ref x] I.kIn (by simp)
      simpa using this) r2 rfl sp) fun r s' hq => ?_)
    cases r with
    | error e =>
      obtain ⟨a, B, H', cls, d, _, _, _, _, _, _, _, hE⟩ := hq
      exact hE.elim
    | ok fl =>
      cases fl with
      | ret w =>
        obtain ⟨v, H', I', rv, ev, ex⟩ := I.after hq
        subst ev
        obtain ⟨tt, rfl⟩ := rv
        exact ⟨⟨by omega, by omega⟩, .int ds.length, H', I'.tok _, ⟨_, rfl⟩, q H' ex⟩
      | next => exact False.elim hq
      | brk => exact False.elim hq
      | cont => exact False.elim hq
  refine ⟨_, C, fun O H vs ds w Q od ha hw q => ?_⟩
  match ds, hw with
  | [d], hw =>
    obtain ⟨v, rfl, a⟩ := ha.one
    obtain ⟨x, dx, n, p, m, c, ds, rfl, rfl, hx, rfl, hl, i⟩ := sti_shape a hw
    exact ⟨O, x, dx, n, p, m, c, ds, rfl, od, a, hx, hl, fun H' ex => q _ _ ⟨ex, .int _, fun _ _ e => nomatch e⟩⟩
  | [], hw => exact nomatch hw
  | a :: b :: r, hw => simp [lenSD] at hw
def HasMK (P : Program) (w : World) (K : PySem.W.Frag) (mg : Str → Option Value) (base : Heap) (m q : Str) (st : Stmt) (kws : List (Str × V)) (k : Nat) (ps : List Str) (sp : Sp) : Prop :=
  ∃ (f : Addr) (fd : FuncData), Meth K (caK K "Stints") m f ∧ FunD K m q (defArgs st) (defBody st) (defScope st) [] kws f fd ∧ FnG P w K mg base k f fd ps sp
def StandsK (K : PySem.W.Frag) (m q : Str) (st : Stmt) (kws : List (Str × V)) : Prop :=
  ∃ (f : Addr) (fd : FuncData), Meth K (caK K "Stints") m f ∧ FunD K m q (defArgs st) (defBody st) (defScope st) [] kws f fd
def tMethN (C : Addr) (m : Str) (n l : Nat) (sp : Sp) (gV : List V → List V → List V) (E : Sg → XK) (ta : TE) (t tk : TA) : TE := fun σ H Q => ta σ H fun x H1 => ∃ a dx fs, x = .ref a ∧ H1 a = some (.ins C dx fs) ∧ fs.lookup m = none ∧
  t σ H1 fun vs H2 => tk σ H2 fun zs H3 => vs.length = n ∧ zs.length = l ∧ (gV (x :: vs) zs).length = (gV (x :: vs) zs).length ∧ sp (gV (x :: vs) zs) H3 Q (E σ)
section
variable {X : Cx} {k n : Nat} {C f : Addr} {fd : FuncData} {ps ks : List Str} {sp : Sp} {E : Sg → XK} {m : Str} {pos apos : Pos} {e o : Expr} {es : List Expr} {kws : List Keyword} {ta : TE} {t tk : TA} {g : List Value → List Value → List Value} {gV : List V → List V → List V}
theorem run_fnGN {pins : List (Addr × Obj)} {σ : Sg} {H : Hp} {s : Shared} {Q : VK} {us ws : List Value} {vs zs : List V} (F : FnG X.prog X.w X.K X.mg X.base k f fd ps sp) (hr : Room k X.A) (hg : X.A.guards = some []) (hb : KBn X.K fd ps n ks g gV) (hx : PassesAt (L2.CX X.prog X.w) X σ (E σ))
    (I : Inv X pins σ H s) (r : Vals vs us) (rz : Vals zs ws) (l1 : vs.length = n) (l2 : zs.length = ks.length) (hl : (gV vs zs).length = ps.length) (h : sp (gV vs zs) H Q (E σ)) : wpAny (model X.prog X.w) X.A (call (.ref f) us (ks.zip ws)) (EP X pins σ Q) X.xe s := by
  have r2 := hb.rel r rz
  refine wpAny_call (codeAny_mono (F.run X.A X.stack s H ⟨us, ks.zip ws⟩ (g us ws) (gV vs zs) Q (E σ) hr hg I.env0 (hb.to s us ws I.kIn (r.length.symm.trans l1) (rz.length.symm.trans l2)) r2 hl h) fun r s' hq => ?_)
  cases r with
  | error e => exact hx pins H s e s' I hq
  | ok fl =>
    cases fl with
    | ret u => exact I.after hq
    | next => exact False.elim hq
    | brk => exact False.elim hq
    | cont => exact False.elim hq
theorem pe_methN {pl : Sem Bool} (he : PE X o ta) (c : Cls X.K C) (hm : Meth X.K C m f) (F : FnG X.prog X.w X.K X.mg X.base k f fd ps sp) (hr : Room k X.A) (hgd : X.A.guards = some []) (hb : KBn X.K fd ps (n + 1) ks g gV) (hx : ∀ σ, PassesAt (L2.CX X.prog X.w) X σ (E σ)) (ha : PA X (e :: es) t) (hkw : PK X kws tk)
    (hgl : ∀ vs zs : List V, vs.length = n + 1 → zs.length = ks.length → (gV vs zs).length = ps.length)
    (hall : (backToKw pos (keywordEach kws X.env)).all (·.1.isSome) = true := by rfl) (hks : (backToKw pos (keywordEach kws X.env)).filterMap (·.1) = ks := by rfl)
    (hst : starEach (e :: es) X.env = (false, eval e X.env) :: starEach es X.env := by rfl)
    (hpl : ((backTo pos (starEach (e :: es) X.env)).any (·.1) || (backToKw pos (keywordEach kws X.env)).any (·.1.isNone)) = false := by rfl)
    (ht : eval (.Call (.Attribute o m apos) (e :: es) kws pos) X.env = (do
      let ov ← eval o X.env
      standAt apos.atName
      let (f, first) ← holding [ov] (getMethod ov m pl)
      callWith pos f first (backTo pos (starEach (e :: es) X.env)) (backToKw pos (keywordEach kws X.env))) := by rfl) :
    PE X (.Call (.Attribute o m apos) (e :: es) kws pos) (tMethN C m n ks.length sp gV E ta t tk) := by
  refine ⟨fun pins s σ H Q I h => ?_⟩
  refine PySem.W.methodCall_KW (pl := pl) (thn (he.run pins s σ H _ I h) fun u s1 ⟨x, H1, I1, rx, a, dx, fs, ex, ea, l, q⟩ => ?_) ht
  subst ex
  obtain rfl : u = Value.ref a := rx
  refine getmeth_ok I1 ea c hm l ?_
  refine PySem.W.callWith_KW (first := [.ref a]) (h₀ := X.base) I.ok.mod.kin hm.kp hall (thn (ha.run pos pins s1 σ H1 _ I1 q) fun us s2 ⟨vs, H2, I2, r, q2⟩ => ?_) hpl hst
  refine thn (hkw.run pos pins s2 σ H2 _ I2 q2) fun ws s3 ⟨zs, H3, I3, rz, l1, l2, _, q3⟩ => ⟨I3.kIn, ?_⟩
  rw [hks]
  exact run_fnGN (us := .ref a :: us) (vs := .ref a :: vs) F hr hgd hb (hx σ) I3 (.cons rfl r) rz (by rw [List.length_cons, l1]) l2 (hgl _ _ (by rw [List.length_cons, l1]) l2) q3
end
/-- the arguments of a call with keywords, in the parameters' order (self left out); md: the defaults of those that lack -/
def gKw (gt : List D → List D → List D → List D) (md : List D) (g gk : En → R En (List D × En)) : En → R En (List D × En) := fun env => (g env).bind fun p => (gk p.2).bind fun q => .ok (gt p.1 md q.1, q.2)
/-- how the values of a call are put in order: the positional ones, the defaults, the keywords' -/
structure Ord (gt : {α : Type} → List α → List α → List α → List α) : Prop where
  v : ∀ {vs mz zs : List V} {us mv ws : List Value}, Vals vs us → Vals mz mv → Vals zs ws → Vals (gt vs mz zs) (gt us mv ws)
  d : ∀ {K : PySem.W.Frag} {O : Addr → Prop} {H : Hp} {vs mz zs : List V} {as bs cs : List D}, AtAll K O H vs as → AtAll K O H mz bs → AtAll K O H zs cs → AtAll K O H (gt vs mz zs) (gt as bs cs)
def consT (gt : {α : Type} → List α → List α → List α → List α) {α : Type} : List α → List α → List α → List α
  | [], _, _ => []
  | x :: r, mv, ws => x :: gt r mv ws
theorem vals_app {a b : List V} {c d : List Value} (h : Vals a c) (h' : Vals b d) : Vals (a ++ b) (c ++ d) := by
  induction h with
  | nil => exact h'
  | cons x r ih => exact .cons x ih
theorem at_app {K : PySem.W.Frag} {O : Addr → Prop} {H : Hp} {a b : List V} {c d : List D} (h : AtAll K O H a c) (h' : AtAll K O H b d) : AtAll K O H (a ++ b) (c ++ d) := by
  match h with
  | .nil => exact h'
  | .cons x r => exact .cons x (at_app r h')
section
variable {P : Program} {w : World} {K : PySem.W.Frag} {mg : Str → Option Value} {base : Heap} {ca : Str → Addr}
theorem StandsK.wr {m q : Str} {st : Stmt} {kws : List (Str × V)} {N ps : List Str} {k : Nat} {ret : Option (Nat → V)} {h : En → R En (List D)} {n : Nat} (S : StandsK K m q st kws) (sc : FnScope N ps (defScope st)) (hps : ps.length ≤ N.length) (hn : N.length = n)
    (hbody : ∀ (f : Addr) (cdv : Value) (A : Around) (outer : List Env) (s : Shared) (H : Hp) (E : XK), Room k (A.deeper (envOfC q (defScope st) s.heap.objs.size f cdv)) → A.guards = some [] →
      DSW ⟨ca, [0], fun c d _ H => E c d H, fun _ _ _ _ _ => True⟩ (cxOf (L2.CX P w) P w K mg base N q (defScope st) f cdv A outer s H E) ret (defBody st) h) :
    HasMK P w K mg base m q st kws (k + 1) ps (spWr K ca ret (wrM n h)) := by
  obtain ⟨f, fd, hm, FD⟩ := S
  have fx := FD.ex
  refine ⟨f, fd, hm, FD, fun_okX (by obtain ⟨oc, od, dV, kV, doc, pm, an, cdv, ct, osl, e1, e2, e3, _⟩ := fx; exact ⟨oc, od, dV, kV, doc, pm, an, cdv, ct, osl, e1, e2, e3⟩) sc hps fun cdv A outer s H E Q vs hr hgd hl hsp => ⟨_, hbody f cdv A outer s H E hr hgd, ?_⟩⟩
  obtain ⟨O, a, dx, n0, p, m0, xs, us, ns, ds, args, c, rfl, i, ha, na, hp, op, hx, od, l, r, ar, post⟩ := hsp
  have a0 : At K O H (.ref a) (stiD m0 ds c) := .sti m0 c i ⟨ha, na⟩ l r (paH_of (Int.natCast_nonneg c))
  have al : AtAll K O H (.ref a :: us) (stiD m0 ds c :: args) := .cons a0 ar
  have hlen : (stiD m0 ds c :: args).length = ps.length := by rw [← hl]; exact al.length.symm
  have I : SR K [0] (B1 O H a) (start N (.ref a :: us)) H ((stiD m0 ds c :: args).map (fun d => some (Sl.im d)) ++ List.replicate (n - (stiD m0 ds c :: args).length) none) := by
    refine sr_flat ?_ (fun j s h => ?_) od rfl rfl (fun _ => rfl) fun q hq => ?_
    · unfold L2.start
      have := al.length
      simp only [List.length_append, List.length_map, List.length_replicate]
      omega
    · rw [show (stiD m0 ds c :: args).map (fun d => some (Sl.im d)) = ((stiD m0 ds c :: args).map Sl.im).map some from by rw [List.map_map]; rfl] at h
      have h' := start_get.1 h
      rw [List.getElem?_map, Option.map_eq_some_iff] at h'
      obtain ⟨d, hd, rfl⟩ := h'
      obtain ⟨v, e, av⟩ := al.get hd
      exact ⟨d, v, rfl, start_get.2 e, av⟩
    · have hq : q = (0, .ref a) := by simpa [B1] using hq
      subst hq
      exact ⟨rfl, by simp⟩
  refine ⟨B1 O H a, _, a, dx, n0, p, m0, xs, I, ⟨i, rfl, by simp [B1], ha, na, hp, op, hx⟩, R.post.imp post (fun ds' hq σ' H1 n' ex at_ => ?_) fun x e hq cls dp σ' H' I' m' hx' => ?_⟩
  · have hq := hq H1 n' ex at_
    cases ret with
    | none => exact hq
    | some r => exact hq
  · refine hq cls dp H' (fun b o e => I'.keep b o e fun p hp => by cases hp) (hx'.mv fun b hb => .inl hb)
end
section
variable {X : Cx} {z : Z} {fr : Bool} {e : Expr} {f : EF} {g : En → R En (List D × En)} {kws : List Keyword} {nm : Option Str} {kpos : Pos}
theorem pk_weak {t t' : TA} (h : PK X kws t) (i : ∀ σ H Q, t' σ H Q → t σ H Q) : PK X kws t' := ⟨fun pos pins s σ H Q I q => h.run pos pins s σ H Q I (i σ H Q q)⟩
theorem dk_cons (ha : DE z X fr e f) (hr : PK X kws (tA X.K z g)) : PK X (⟨nm, e, kpos⟩ :: kws) (tA X.K z (fCons f g)) :=
  pk_weak (pk_cons ha hr) fun σ H Q ⟨B, env, I, hp⟩ => ⟨B, env, I, (R.post_bind hp).imp (fun p hp v H1 I1 m1 a1 _ =>
    ⟨B, p.2, I1, (R.post_bind hp).imp (fun q hq vs H2 I2 m2 a2 => hq (v :: vs) H2 I2 (m1.trans m2) (.cons (At.mv m2 a1) a2)) fun _ _ q => q.step m1⟩) fun _ _ q => q⟩
theorem dk_nil : PK X [] (tA X.K z (fun env => .ok ([], env))) := pk_weak pk_nil fun σ H Q ⟨B, env, I, hp⟩ => hp [] H I .refl .nil
theorem dk_one (ha : DE z X fr e f) : PK X [⟨nm, e, kpos⟩] (tA X.K z (fCons f (fun env => .ok ([], env)))) := dk_cons ha dk_nil
end
end DL
namespace DL
open PySem PySem.Spec PyProof.Rows L2
def fMkZ (F : List D → R En (Int × List D)) (g : En → R En (List D × En)) : EF := fun env => (g env).bind fun q => match F q.1 with
  | .ok r => .ok (stiD r.1 r.2 (-1), q.2)
  | .err x _ => .err x q.2
  | .stuck => .stuck
section
variable {X : Cx} {z : Z} {k j : Nat}
/-- what the making of one is promised -/
theorem mk_core {F : List D → R En (Int × List D)} {B : Bs} {env : En} {σ : Sg} {H H1 : Hp} {Q : VK} {q : List D × En} {vs : List V} {x dx : Addr} (s0 : StI X.K) (I1 : SR X.K z.np B σ H1 q.2) (m1 : Mv (B.O σ env) (B.O σ q.2) H H1) (a1 : AtAll X.K (B.O σ q.2) H1 vs q.1)
    (hp : R.post (EP1 X.K z false B σ H env Q) (XP X.K z B σ H env) (match F q.1 with
      | .ok r => .ok (stiD r.1 r.2 (-1), q.2)
      | .err x _ => .err x q.2
      | .stuck => .stuck)) (hx : H1 x = none) (hd : H1 dx = none) (nd : dx ≠ x) :
    spIn X.K z.ca F (.ref x :: vs) (upd (upd H1 dx (.own x)) x (.ins (caK X.K "Stints") dx [])) (fun v H2 => v = .non ∧ Q (.ref x) H2) (fun c d H' => z.W c d σ H') := by
  have ne : ∀ {b : Addr} {o : HO}, H1 b = some o → b ≠ x ∧ b ≠ dx := fun {b o} e => ⟨(fun w => by rw [w, hx] at e; cases e), (fun w => by rw [w, hd] at e; cases e)⟩
  have up : ∀ {b : Addr} {o : HO}, H1 b = some o → upd (upd H1 dx (.own x)) x (.ins (caK X.K "Stints") dx []) b = some o := fun {b o} e => by
    obtain ⟨n1, n2⟩ := ne e
    rw [upd_ne n1, upd_ne n2]; exact e
  have dn : ∀ {b : Addr}, upd (upd H1 dx (.own x)) x (.ins (caK X.K "Stints") dx []) b = none → H1 b = none := fun {b} e => by
    by_cases n1 : b = x
    · rw [n1, upd_same] at e; cases e
    · rw [upd_ne n1] at e
      by_cases n2 : b = dx
      · rw [n2, upd_same] at e; cases e
      · rw [upd_ne n2] at e; exact e
  have mv : Mv (B.O σ q.2) (plus (B.O σ q.2) x) H1 (upd (upd H1 dx (.own x)) x (.ins (caK X.K "Stints") dx [])) := ⟨fun b o e _ => up e, fun b w => w.elim .inl fun w => .inr (w ▸ hx), fun b e => dn e⟩
  refine ⟨plus (B.O σ q.2) x, x, dx, vs, q.1, rfl, s0, upd_same, .inr rfl, fun b e w => ?_, AtAll.mv mv a1, ?_⟩
  · rcases w with w | w
    · exact I1.od b (dn e) w
    · rw [w, upd_same] at e; cases e
  · cases hF : F q.1 with
    | stuck => rw [hF] at hp; exact hp.elim
    | err y es' =>
      rw [hF] at hp
      intro cls dp H' ex hxn
      have ex2 : Ex H1 H' := fun b o e => ex b o (up e)
      exact hp cls dp H' (I1.ex ex2) (m1.trans (Mv.ex ex2)) (hxn.mv fun b w => .inl w)
    | ok r =>
      rw [hF] at hp
      intro H3 n p k1 k2 a3 h3
      have e3 : ∀ {b : Addr} {o : HO}, H1 b = some o → H3 b = some o := fun {b o} e => k1 b o (up e) (ne e).1
      have np : ∀ {b : Addr} {o : HO}, H3 b = some o → b ≠ p := fun {b o} e w => by rw [w, h3] at e; cases e
      have xp : x ≠ p := fun w => by
        have := k2 p h3
        rw [← w, upd_same] at this; cases this
      have p1 : H1 p = none := dn (k2 p h3)
      have ex : Ex H1 (upd (upd H3 p (.lst [])) x (.ins (caK X.K "Stints") dx (stF r.1 n p))) := fun b o e => by
        rw [upd_ne (ne e).1, upd_ne (np (e3 e))]; exact e3 e
      have m2 : Mv (plus (B.O σ q.2) x) (B.O σ q.2) H3 (upd (upd H3 p (.lst [])) x (.ins (caK X.K "Stints") dx (stF r.1 n p))) := ⟨fun b o e nb => by
        rw [upd_ne fun w : b = x => nb (.inr w), upd_ne (np e)]; exact e, fun b w => .inl (.inl w), fun b e => by
        by_cases n1 : b = x
        · rw [n1, upd_same] at e; cases e
        · rw [upd_ne n1] at e
          by_cases n2 : b = p
          · rw [n2, upd_same] at e; cases e
          · rw [upd_ne n2] at e; exact e⟩
      have a4 := a3.mv m2
      cases a4 with
      | lst l rr =>
        refine ⟨rfl, EP1.give hp I1 m1 ⟨ex, .sti r.1 (-1) s0 ⟨upd_same, fun w => I1.od x hx w⟩ l rr fun _ => ⟨by rw [upd_ne (Ne.symm xp)]; exact upd_same, fun w => I1.od p p1 w⟩, fun w => nomatch w⟩⟩
theorem de_makeZ {F : List D → R En (Int × List D)} {g : En → R En (List D × En)} {e : Expr} {es : List Expr} {p pos : Pos} (T : HasI X.prog X.w X.K X.mg X.base z.ca j F) (hr : Room (k + 1) X.A) (hj : j ≤ k) (hgd : X.A.guards = some []) (tk : Takes X z.W) (hg : Gl X "Stints") (s0 : StI X.K) (ha : DA z X (e :: es) g) (hl : ∀ env p, g env = .ok p → p.1.length = 2)
    (he : starEach (e :: es) X.env = (false, eval e X.env) :: starEach es X.env := by rfl) (hpl : (backTo pos (starEach es X.env)).any (·.1) = false := by rfl) :
    DE z X false (.Call (.Name "Stints" p) (e :: es) [] pos) (fMkZ F g) := by
  obtain ⟨fa, fd, hm, hM, hb, G⟩ := T
  refine de_imp (pe_makeG hM (G.mono hj) hr hgd hg hm hb (fun σ => passAt tk σ) ha (by decide) he hpl) fun B env σ H Q I hp => ?_
  unfold fMkZ at hp
  cases hgv : g env with
  | stuck => rw [hgv] at hp; exact hp.elim
  | err y e' =>
    rw [hgv] at hp
    refine ⟨B, env, I, ?_⟩
    rw [hgv]; exact hp
  | ok q =>
    rw [hgv] at hp
    refine ⟨B, env, I, ?_⟩
    rw [hgv]
    intro vs H1 I1 m1 a1
    refine ⟨by rw [a1.length, hl _ _ hgv]; rfl, fun x dx hx hd nd => ?_⟩
    exact mk_core s0 I1 m1 a1 hp hx hd nd
end
def HasI1 (P : Program) (w : World) (K : PySem.W.Frag) (mg : Str → Option Value) (base : Heap) (ca : Str → Addr) (k : Nat) (F : List D → R En (Int × List D)) : Prop :=
  ∃ (f e : Addr) (fd : FuncData), mg "Stints" = some (.ref (caK K "Stints")) ∧ Mk K (caK K "Stints") f ∧ L2.Binds K fd ["self", "many", "terms"] [.ref e] ∧ (∀ H, SqT K H e []) ∧ FnG P w K mg base k f fd ["self", "many", "terms"] (spIn K ca F)
def tMakeD (C : Addr) (n : Nat) (dvs : List V) (sp : Sp) (E : Sg → XK) (t : TA) : TE := fun σ H Q => t σ H fun vs H1 => (vs ++ dvs).length + 1 = n ∧ ∀ x dx, H1 x = none → H1 dx = none → dx ≠ x →
  sp (.ref x :: (vs ++ dvs)) (upd (upd H1 dx (.own x)) x (.ins C dx [])) (fun v H2 => v = .non ∧ Q (.ref x) H2) (E σ)
section
variable {X : Cx} {k : Nat} {C f : Addr} {fd : FuncData} {ps : List Str} {sp : Sp} {E : Sg → XK} {x : Str} {p pos : Pos} {e : Expr} {es : List Expr} {t : TA} {ds : List Value} {dvs : List V}
theorem pe_makeD (M : Mk X.K C f) (F : FnG X.prog X.w X.K X.mg X.base k f fd ps sp) (hr : Room (k + 1) X.A) (hgd : X.A.guards = some []) (hg : Gl X x) (hm : X.mg x = some (.ref C)) (hb : L2.Binds X.K fd ps ds) (hv : Vals dvs ds) (hx : ∀ σ, PassesAt (L2.CX X.prog X.w) X σ (E σ))
    (ha : PA X (e :: es) t) (hdb : (x == ("__debug__" : Str)) = false := by decide) (he : starEach (e :: es) X.env = (false, eval e X.env) :: starEach es X.env := by rfl) (hpl : (backTo pos (starEach es X.env)).any (·.1) = false := by rfl) :
    PE X (.Call (.Name x p) (e :: es) [] pos) (tMakeD C ps.length dvs sp E t) := by
  refine ⟨fun pins s σ H Q I h => ?_⟩
  refine wpAny_Call_Name_kw (ld_glob I hg hm ?_ hdb)
  refine PySem.W.callWith_K (h₀ := X.base) I.ok.mod.kin M.kp (thn (ha.run pos pins s σ H _ I h) fun us s1 ⟨vs, H1, I1, r, hl, q⟩ => ⟨I1.kIn, ?_⟩) he hpl
  have hq := q (s1.heap.objs.size + 1) s1.heap.objs.size (I1.hok.fresh (Nat.le_succ _)) (I1.hok.fresh (Nat.le_refl _)) (Nat.ne_of_lt (Nat.lt_succ_self _))
  have I2 := Inv.made (C := C) I1
  have r2 : Vals (V.ref (s1.heap.objs.size + 1) :: (vs ++ dvs)) (Value.ref (s1.heap.objs.size + 1) :: us ++ ds) := .cons rfl (vals_app r hv)
  have hl2 : (V.ref (s1.heap.objs.size + 1) :: (vs ++ dvs)).length = ps.length := hl
  have hb2 := hb _ (Value.ref (s1.heap.objs.size + 1) :: us) I2.kIn (by rw [← r2.length]; exact hl2)
  refine wpAny_call (make_map (f := f) I1.kIn M.makes M.init (beq_iff_eq.mp M.fn) (codeAny_mono (F.run _ X.stack _ _ ⟨Value.ref (s1.heap.objs.size + 1) :: us, []⟩ (Value.ref (s1.heap.objs.size + 1) :: us ++ ds) _ _ (E σ) (hr.make C us [])
    (make_guards hgd) (I2.env0.make C us []) hb2 r2 hl2 hq) fun r s' hq' => ?_))
  cases r with
  | error e => exact hx σ pins _ _ e s' I2 hq'
  | ok fl =>
    cases fl with
    | ret u =>
      obtain ⟨v, H', I3, rv, ev, q3⟩ := I2.after hq'
      subst ev
      exact ⟨rv, ⟨V.ref (s1.heap.objs.size + 1), H', I3, rfl, q3⟩⟩
    | next => exact False.elim hq'
    | brk => exact False.elim hq'
    | cont => exact False.elim hq'
end
def gDfl (g : En → R En (List D × En)) : En → R En (List D × En) := fun env => (g env).bind fun q => .ok (q.1 ++ [.tuple []], q.2)
end DL
namespace DL
open PySem PySem.Spec PyProof.Rows L2
def tySix : List String := ["NoneType", "bool", "int", "str", "list", "tuple"]
/-- more of the class Stints -/
structure StJ (K : PySem.W.Frag) (mg : Str → Option Value) : Prop where
  g : mg "Stints" = some (.ref (caK K "Stints"))
  o : ∀ T : String, T ∈ tySix → PySem.W.kitOne K (.type T) (.ref (caK K "Stints")) = some false
  s : PySem.W.kitOne K (.ref (caK K "Stints")) (.ref (caK K "Stints")) = some true
  gi : ∃ f : Addr, PySem.W.findIn K (.ref (caK K "Stints")) "__getitem__" = some (some (.ref f)) ∧ PySem.W.fnIn K f = true
  sf : PySem.W.selfFirst K (caK K "Stints") = true
section
variable {X : Cx} {z : Z} {k j : Nat} {e o : Expr} {F : FD} {f g : EF} {fo fi fr : Bool}
def isStD (d : D) : Option D := match d with
  | .dict _ => if stiB d = true then some (.bool true) else none
  | _ => some (.bool false)
theorem de_isS {p p2 pos : Pos} (S : StJ X.K X.mg) (he : DE z X fo e f) (hg : Gl X "isinstance") (hm : X.mg "isinstance" = none) (hgm : Gl X "Stints")
    (he1 : starEach [e, .Name "Stints" p2] X.env = (false, eval e X.env) :: starEach [.Name "Stints" p2] X.env := by rfl) (he2 : starEach [.Name "Stints" p2] X.env = (false, eval (.Name "Stints" p2) X.env) :: starEach [] X.env := by rfl) (hpl : (backTo pos (starEach [.Name "Stints" p2] X.env)).any (·.1) = false := by rfl) :
    DE z X true (.Call (.Name "isinstance" p) [e, .Name "Stints" p2] [] pos) (fUn isStD f) := by
  refine de_imp (pe_callB call_isi hg hm (by decide +kernel) (pa_cons he (pa_cons (pe_glob (v := .ref (caK X.K "Stints")) hgm S.g rfl (by decide)) pa_nil he2) he1) (by decide) (by decide) he1 hpl) fun B env σ H Q I hp => ?_
  refine ⟨B, env, I, (R.post_bind hp).imp (fun p hp v H1 I1 m1 a1 _ => ?_) fun _ _ q => q⟩
  obtain ⟨w, ew, hw⟩ := ofO_post (R.post_bind hp)
  obtain ⟨d, e2⟩ := p
  dsimp only at ew hw a1 I1 m1
  have six : (∀ kvs, d ≠ .dict kvs) → tyN d ∈ tySix := fun h => by
    cases d with
    | dict kvs => exact absurd rfl (h kvs)
    | _ => simp [tyN, tySix]
  rcases a1.ty with ⟨nd, ty⟩ | ⟨a, n, od, rfl, ⟨kvs, rfl⟩, hH, hE⟩ | ⟨⟨kvs, rfl⟩, sb, ty, _⟩
  · have ew : some (PyData.bool false) = some w := by
      rw [← ew]
      cases d with
      | dict kvs => exact absurd rfl (nd kvs)
      | _ => rfl
    cases ew
    exact ⟨v, .ref (caK X.K "Stints"), _, _, false, rfl, .own _, ty, S.o _ (six nd), EP1.give hw I1 m1 (.flat (.bl _) fun _ q => nomatch q)⟩
  · have nb : stiB (.dict kvs) = false := by
      cases a1 with
      | exc n h i => rfl
      | excP n f h i a => rfl
      | sti m c i h l r q =>
        have := h.1
        rw [hH.1] at this
        cases this
    have ew : (if stiB (.dict kvs) = true then some (PyData.bool true) else none) = some w := ew
    rw [nb] at ew
    cases ew
  · have ew : (if stiB (.dict kvs) = true then some (PyData.bool true) else none) = some w := ew
    rw [if_pos sb] at ew
    cases ew
    exact ⟨v, .ref (caK X.K "Stints"), _, _, true, rfl, .own _, ty, S.s, EP1.give hw I1 m1 (.flat (.bl _) fun _ q => nomatch q)⟩
end
section
variable {P : Program} {w : World} {K : PySem.W.Frag} {mg : Str → Option Value} {base : Heap} {ca : Str → Addr}
theorem StandsK.has {m q : Str} {st : Stmt} {kws : List (Str × V)} {N ps : List Str} {k : Nat} {fr : Bool} {g : SF} {n : Nat} (S : StandsK K m q st kws) (sc : FnScope N ps (defScope st)) (hps : ps.length ≤ N.length) (hn : N.length = n)
    (hbody : ∀ (f : Addr) (cdv : Value) (A : Around) (outer : List Env) (s : Shared) (H : Hp) (E : XK), Room k (A.deeper (envOfC q (defScope st) s.heap.objs.size f cdv)) → A.guards = some [] →
      DSs ⟨ca, [], fun c d _ H => E c d H, fun _ _ _ _ _ => True⟩ (cxOf (L2.CX P w) P w K mg base N q (defScope st) f cdv A outer s H E) fr (defBody st) g) :
    HasMK P w K mg base m q st kws (k + 1) ps (spD K ca [] fr (runD n g)) := by
  obtain ⟨f, fd, h1, FD⟩ := S
  subst hn
  have FD0 := FD
  obtain ⟨oc, od, dV, kV, doc, pm, an, cdv, ct, osl, rfl, lk, hcd, hD, _⟩ := FD.ex
  refine ⟨f, _, h1, FD0, ?_⟩
  rcases hD with ⟨_, rfl⟩ | ⟨e, _⟩
  · exact fun_okG (fun_mk lk hcd FD0.kp) sc hps fun cdv A outer s H E => hbody f cdv A outer s H E
  · exact absurd rfl e
end
section
variable {P : Program} {w : World} {K : PySem.W.Frag} {mg : Str → Option Value} {base : Heap} {ca : Str → Addr}
theorem StandsI.hasG {q : Str} {params : Arguments} {body : List Stmt} {scope : Scope} {f : Addr} {fd : FuncData} {N : List Str} {k n : Nat} {h : En → R En (Int × List D)} (S : StandsI K mg q params body scope f fd) (sc : FnScope N ["self", "many", "terms"] scope) (hps : 3 ≤ N.length) (hn : N.length = n)
    (hbody : ∀ (cdv : Value) (A : Around) (outer : List Env) (s : Shared) (H : Hp) (E : XK), Room k (A.deeper (envOfC q scope s.heap.objs.size f cdv)) → A.guards = some [] →
      DSI ⟨ca, [0], fun c d _ H => E c d H, fun _ _ _ _ _ => True⟩ (cxOf (L2.CX P w) P w K mg base N q scope f cdv A outer s H E) body h) :
    FnG P w K mg base (k + 1) f fd ["self", "many", "terms"] (spIn K ca (inM n h)) := by
  refine fun_okX S.fn sc hps fun cdv A outer s H E Q vs hr hgd hl hsp => ⟨_, hbody cdv A outer s H E hr hgd, ?_⟩
  obtain ⟨O, a, dx, us, args, rfl, i, ha, oa, od, ar, post⟩ := hsp
  have hlen : args.length = 2 := by
    have := ar.length
    have h2 : (V.ref a :: us).length = 3 := hl
    simp only [List.length_cons] at h2
    omega
  have I : SR K [0] (B1 O H a) (start N (.ref a :: us)) H (none :: (args.map (fun d => some (Sl.im d)) ++ List.replicate (n - (args.length + 1)) none)) := by
    refine sr_flat ?_ (fun j s h => ?_) od rfl rfl (fun _ => rfl) fun q hq => ?_
    · unfold L2.start
      have := ar.length
      simp only [List.length_append, List.length_map, List.length_replicate, List.length_cons]
      omega
    · cases j with
      | zero => simp at h
      | succ j =>
        rw [List.getElem?_cons_succ, show args.map (fun d => some (Sl.im d)) = (args.map Sl.im).map some from by rw [List.map_map]; rfl] at h
        have h' := start_get.1 h
        rw [List.getElem?_map, Option.map_eq_some_iff] at h'
        obtain ⟨d, hd, rfl⟩ := h'
        obtain ⟨v, e, av⟩ := ar.get hd
        refine ⟨d, v, rfl, ?_, av⟩
        have e' : (V.ref a :: us)[j + 1]? = some v := by rw [List.getElem?_cons_succ]; exact e
        exact start_get.2 e'
    · have hq : q = (0, .ref a) := by simpa [B1] using hq
      subst hq
      exact ⟨rfl, by simp⟩
  refine ⟨B1 O H a, _, a, dx, I, ⟨i, rfl, by simp [B1], ha, oa⟩, R.post.imp post (fun r hq σ' H3 n p k1 k2 a3 h3 => hq H3 n p k1 k2 a3 h3) fun x e hq cls dp σ' H' I' m' hx' => ?_⟩
  exact hq cls dp H' (fun b o e => I'.keep b o e fun p hp => by cases hp) (hx'.mv fun b hb => .inl hb)
/-- its default for the terms -/
def DflI (K : PySem.W.Frag) (fd : FuncData) : Prop := ∃ e : Addr, L2.Binds K fd ["self", "many", "terms"] [.ref e] ∧ ∀ H, SqT K H e []
theorem HasI1.mk {q : Str} {params : Arguments} {body : List Stmt} {scope : Scope} {f : Addr} {fd : FuncData} {k : Nat} {F : List D → R En (Int × List D)} (S : StandsI K mg q params body scope f fd) (d : DflI K fd) (G : FnG P w K mg base k f fd ["self", "many", "terms"] (spIn K ca F)) : HasI1 P w K mg base ca k F := by
  obtain ⟨e, b, hs⟩ := d
  exact ⟨f, e, fd, S.g, S.M, b, hs, G⟩
theorem HasI.mk {q : Str} {params : Arguments} {body : List Stmt} {scope : Scope} {f : Addr} {fd : FuncData} {k : Nat} {F : List D → R En (Int × List D)} (S : StandsI K mg q params body scope f fd) (G : FnG P w K mg base k f fd ["self", "many", "terms"] (spIn K ca F)) : HasI P w K mg base ca k F :=
  ⟨f, fd, S.g, S.M, S.b, G⟩
end
end DL
namespace DL
open PySem PySem.Spec PyProof.Rows L2
section
variable {X : Cx} {pins : List (Addr × Obj)} {σ : Sg} {H : Hp} {s : Shared} {k j : Nat} {ca : Str → Addr}
/-- a plain promise, run somewhere below the body -/
theorem run_plain {f : Addr} {fd : FuncData} {ps : List Str} {fr : Bool} {F : FD} {A : Around} {ds : List D} {d : D} {t : List Sl} {vs : List V} {us : List Value} {O : Addr → Prop} {R E : Value → Shared → Prop} (hb : L2.Binds X.K fd ps []) (G : FnG X.prog X.w X.K X.mg X.base j f fd ps (spD X.K ca [] fr F)) (rm : Room j A) (hgd : A.guards = some []) (hfr : A.frames = X.A.frames) (I : Inv X pins σ H s) (hd : A.handled = X.A.handled)
    (r : Vals vs us) (hl : vs.length = ps.length) (od : Od O H) (a : AtAll X.K O H vs ds) (hF : F (ds.map Sl.im) = .ok (d, t)) (q : ∀ u v H' s', Inv X pins σ H' s' → Ex H H' → RelV v u → At X.K O H' v d → R u s') : wpAny (model X.prog X.w) A (call (.ref f) us) R E s := by
  have sp : spD X.K ca [] fr F vs H (fun v H' => Ex H H' ∧ At X.K O H' v d) (fun _ _ _ => False) := by
    refine ⟨ds.map Sl.im, O, args_im od a, ?_⟩
    rw [hF]
    intro v H' hc
    exact ⟨ex_im hc.1, hc.2.1⟩
  have e0 : Env0 X.prog X.w X.K X.mg X.base A X.stack s H := by
    have e := I.env0
    exact ⟨by rw [hfr]; exact e.frames, e.mod, e.bs, e.bsz, e.funs, e.frf, e.hok, e.bare⟩
  refine wpAny_call (codeAny_mono (G.run A X.stack s H ⟨us, []⟩ us vs _ _ rm hgd e0 (by
    have := hb s us I.kIn (by rw [List.append_nil, ← r.length]; exact hl)
    rwa [List.append_nil] at this) r hl sp) fun r s' hq => ?_)
  cases r with
  | error e =>
    obtain ⟨a, B, H', cls, d, _, _, _, _, _, _, _, hE⟩ := hq
    exact hE.elim
  | ok fl =>
    cases fl with
    | ret w =>
      obtain ⟨v, H', I', rv, ex, av⟩ := I.after hq
      exact q w v H' s' I' ex rv av
    | next => exact False.elim hq
    | brk => exact False.elim hq
    | cont => exact False.elim hq
def spIter (K : PySem.W.Frag) : Sp := fun vs H Q _ => ∃ (a dx n p : Addr) (m : Int) (xs : List V), vs = [.ref a] ∧ StI K ∧ H a = some (.ins (caK K "Stints") dx (stF m n p)) ∧ SqL K H n xs ∧ ∀ it, H it = none → Q (.ref it) (upd H it (ItO n it 0))
end
section
variable {P : Program} {w : World} {K : PySem.W.Frag} {mg : Str → Option Value} {base : Heap}
theorem iter_ok {q : Str} {st : Stmt} {p1 p2 p3 p4 p5 : Pos} (S : StandsM K "__iter__" q st ["self"]) (sc : FnScope ["self"] ["self"] (defScope st)) (hm : mg "iter" = none)
    (hb : defBody st = [.Return (some (.Call (.Name "iter" p1) [.Attribute (.Name "self" p2) "now" p3] [] p4)) p5]) (hv1 : Vis (defScope st) "self") (hg : ∀ f cdv A outer s H E, Gl (cxOf (L2.CX P w) P w K mg base ["self"] q (defScope st) f cdv A outer s H E) "iter") : HasM P w K mg base "__iter__" 1 ["self"] (spIter K) := by
  refine S.hasV sc (Nat.le_refl _) fun f cdv A outer s H E Q vs hr hgd hl h => ?_
  obtain ⟨a, dx, n, p, m, xs, rfl, i, ha, hn, q⟩ := h
  rw [hb]
  refine ⟨_, pss_one (ps_ret (pe_callB call_iterL (hg f cdv A outer s H E) hm (by decide +kernel) (pa_cons (pe_fld (pv 0 rfl hv1) rfl) pa_nil rfl) (by decide) (by decide) rfl)), ?_⟩
  exact ⟨_, rfl, a, _, dx, _, .ref n, rfl, ha, i.cl, i.nN, st_now, n, xs, rfl, hn, q⟩
end
section
variable {X : Cx} {pins : List (Addr × Obj)} {σ : Sg} {k j : Nat} {ca : Str → Addr} {prog : Program} {w : World}
/-- the iterator hands out an item -/
theorem its_item {A : Around} {E : Value → Shared → Prop} {s : Shared} {it l : Addr} {i : Nat} {items : Array Value} {x : Value} {Q : Option Value → Shared → Prop} (ho : s.heap.get? it = some (GNX.itObj l i)) (hl : s.heap.IsList l items) (hx : items[i]? = some x)
    (hQ : ∀ h', h'.get? it = some (GNX.itObj l (i + 1)) → Heap.SameBut it s.heap h' → Q (some x) { s with heap := h' }) : wpAny (model prog w) A (pyNext (.ref it)) Q E s := by
  have hT : s.TypeIs (.ref it) "list_iterator" := ⟨_, ho, rfl⟩
  unfold pyNext
  refine wpAny_bind (wpAny_attempt (wpAny_callSpecial?_slot (name := Str.ofString "__next__") hT slot_listiter_next (wpAny_call_entry slot_listiter_next hT entry_listiter_next ?_ (args_listiter_next _))))
  exact GNX.next_item ho hl hx fun h' e sb => wpAny_pure (hQ h' e sb)
theorem its_end {A : Around} {E : Value → Shared → Prop} {s : Shared} {it l : Addr} {i : Nat} {items : Array Value} {Q : Option Value → Shared → Prop} (hh : A.handled = none) (ho : s.heap.get? it = some (GNX.itObj l i)) (hl : s.heap.IsList l items) (hx : items[i]? = none)
    (hQ : ∀ h1 h', h1.get? it = some (GNX.itEnd i) → Heap.SameBut it s.heap h1 → (∀ b o, h1.get? b = some o → h'.get? b = some o) → Q none { s with heap := h' }) : wpAny (model prog w) A (pyNext (.ref it)) Q E s := by
  have hT : s.TypeIs (.ref it) "list_iterator" := ⟨_, ho, rfl⟩
  unfold pyNext
  refine wpAny_bind (wpAny_attempt (wpAny_callSpecial?_slot (name := Str.ofString "__next__") hT slot_listiter_next (wpAny_call_entry slot_listiter_next hT entry_listiter_next ?_ (args_listiter_next _))))
  refine GNX.next_end (Q := fun v s' => wpAny _ _ _ _ _ s') hh ho hl hx fun h1 h' e vs e1 sb k ne he' hv => ?_
  refine wpAny_bind (wpAny_isInstance (T := "StopIteration") (b := true) ⟨_, he', rfl⟩ isSubtype_stop ?_)
  exact wpAny_pure (hQ h1 h' e1 sb k)
/-- the walk that fills the list at q -/
theorem its_loop {A1 : Around} {H0 : Hp} {n it q : Addr} {xs : List V} {Rs : Result → Shared → Prop} (hh : A1.in1.handled = none) (hn : SqL X.K H0 n xs) (hq0 : H0 q = none) (hi0 : H0 it = none) (hiq : it ≠ q) (hz : xs.length ≤ sizeLine)
    (hdone : ∀ H s, Inv X pins σ H s → Ex H0 H → H q = some (.lst xs) → Rs (.ok (.ret .none)) s) (herr : ∀ e s, X.xe e s → Rs (.error e) s) :
    ∀ (r i : Nat) (H : Hp) (s : Shared), xs.length - i = r → i ≤ xs.length → Inv X pins σ H s → Ex H0 H → H it = some (ItO n it i) → H q = some (.lst (xs.take i)) → codeAny (model X.prog X.w) A1 (.builtin "list.extend.loop" ⟨[.ref q, .ref it, .none], []⟩) Rs s := by
  intro r
  induction r with
  | zero =>
    intro i H s hr hi I ex hit hq
    have ei : i = xs.length := by omega
    subst ei
    refine codeAny_builtin PySem.F.entry_extend_loop ?_
    rw [Around.under_plainId PySem.F.plain_extend_loop _]
    show wpAny _ A1.in1 (pyNext (.ref it) >>= _) _ _ s
    obtain ⟨its, rv, pl, hz'⟩ := I.list (hn.ext ex)
    refine wpAny_bind (its_end hh (itO_get I hit) pl.isList (by rw [List.getElem?_toArray]; exact rv.none_of (List.getElem?_eq_none (Nat.le_refl _))) fun h1 h' e1 sb k => ?_)
    have mu : Mut (H it) := by rw [hit]; exact True.intro
    have I2 : Inv X pins σ (upd H it (ItE it xs.length)) { s with heap := h1 } := I.write (x := it) (e := it) (t' := s.toks) mu (.inl rfl) (fun b o nb z => (sb.2 b nb).trans z) ⟨_, e1⟩ (itE_ok e1)
    refine wpAny_pure (hdone _ { s with heap := h' } (I2.kept (t' := s.toks) k) (fun b o e => ?_) ?_)
    · have n2 : b ≠ it := fun w => by rw [w, hi0] at e; cases e
      rw [upd_ne n2]
      exact ex b o e
    · rw [upd_ne hiq.symm, hq, List.take_length]
  | succ r ih =>
    intro i H s hr hi I ex hit hq
    have hlt : i < xs.length := by omega
    refine codeAny_builtin PySem.F.entry_extend_loop ?_
    rw [Around.under_plainId PySem.F.plain_extend_loop _]
    show wpAny _ A1.in1 (pyNext (.ref it) >>= _) _ _ s
    obtain ⟨its, rv, pl, hz'⟩ := I.list (hn.ext ex)
    obtain ⟨u, hu, ru⟩ := rv.get (List.getElem?_eq_getElem hlt)
    refine wpAny_bind (its_item (itO_get I hit) pl.isList (by rw [List.getElem?_toArray]; exact hu) fun h' e' sb => ?_)
    have mu : Mut (H it) := by rw [hit]; exact True.intro
    have I2 : Inv X pins σ (upd H it (ItO n it (i + 1))) { s with heap := h' } := I.write (x := it) (e := it) (t' := s.toks) mu (.inl rfl) (fun b o nb z => (sb.2 b nb).trans z) ⟨_, e'⟩ (itO_ok e')
    show wpAny _ A1.in1 (updateSeq q (·.push u) >>= _) _ _ _
    have hq2 : (upd H it (ItO n it (i + 1))) q = some (.lst (xs.take i)) := by rw [upd_ne hiq.symm]; exact hq
    obtain ⟨z, its2, c, r2, hl, e⟩ := I2.lstM hq2
    have lt : (xs.take i).length = i := by rw [List.length_take]; omega
    refine wpAny_bind (wpAny_updateSeq e rfl (wpAny_pure ⟨plainId_quiet PySem.F.plain_extend_loop _, ?_⟩) (by rw [List.size_toArray]; omega) (by show (its2.toArray.push u).size ≤ sizeLine + 1; rw [Array.size_push, List.size_toArray]; omega))
    refine ih (i + 1) _ _ (by omega) hlt (I2.lset (its' := its2 ++ [u]) (ys := xs.take i ++ [xs[i]]) (t' := s.toks) hq2 e (by simp) (r2.append (.cons ru .nil)) (by rw [List.length_append, List.length_singleton]; omega)) (fun b o e => ?_) ?_ ?_
    · have n1 : b ≠ q := fun w => by rw [w, hq0] at e; cases e
      have n2 : b ≠ it := fun w => by rw [w, hi0] at e; cases e
      rw [upd_ne n1, upd_ne n2]
      exact ex b o e
    · rw [upd_ne hiq, upd_same]
    · rw [upd_same, List.take_succ, List.getElem?_eq_getElem hlt]; rfl
/-- the length that is asked ahead -/
theorem own_hintL {A : Around} {H : Hp} {s : Shared} {O : Addr → Prop} {a : Addr} {m c : Int} {ds : List D} {fr : Bool} {F : FD} {Q : Bool → Shared → Prop} {E : Value → Shared → Prop} (T : HasM X.prog X.w X.K X.mg X.base "__len__" j ["self"] (spD X.K ca [] fr F)) (hr : Room j A.in1) (hgd : A.in1.guards = some []) (hfr : A.in1.frames = X.A.frames) (hd : A.in1.handled = X.A.handled)
    (I : Inv X pins σ H s) (od : Od O H) (at_ : At X.K O H (.ref a) (stiD m ds c)) {dx : Addr} {fs : List (Str × V)} (ha : H a = some (.ins (caK X.K "Stints") dx fs)) (hl : ds.length < 1000000) (hF : ∃ t, F [.im (stiD m ds c)] = .ok (.int ds.length, t)) (q : ∀ b H' s', Inv X pins σ H' s' → Ex H H' → Q b s') :
    wpAny (model X.prog X.w) A (Builtin.List.listLengthHint (.ref a)) Q E s := by
  obtain ⟨f, fd, hm, hb, G, _⟩ := T
  obtain ⟨t, hF⟩ := hF
  obtain ⟨mA, J, _⟩ := ins_get I.hok ha
  obtain ⟨od1, J, _⟩ := J.look
  obtain ⟨m1, hFr⟩ := I.fr
  unfold Builtin.List.listLengthHint
  refine wpAny_bind (wpAny_bind (J.type.here ((PySem.W.looks_findIn I.kIn hm.at_).here ?_)))
  refine PySem.W.KFB.if_not rfl ?_
  refine PySem.W.KFB.if_so rfl ?_
  refine wpAny_bind (wpAny_rule (wpAny_bind (wpAny_attempt ?_)))
  refine PySem.W.len_K hFr I.ok.mod.kin J hm.at_ hm.fn ?_
  refine run_plain (vs := [.ref a]) hb G hr hgd hfr I hd (.cons rfl .nil) rfl od (.cons at_ .nil) hF fun w v H' s' I' ex rv av => ?_
  cases av
  obtain ⟨tt, rfl⟩ := rv
  refine ⟨⟨by omega, by omega⟩, ?_⟩
  refine wpAny_bind (wpAny_of_eq (a := some (ds.length : Int)) (by rfl) ?_)
  show wpAny _ _ (if Builtin.List.listTooLong ((ds.length : Int).toNat) = true then _ else _) _ _ _
  rw [if_neg (by unfold Builtin.List.listTooLong; rw [sizeLine_eq]; simp; omega)]
  exact wpAny_pure (q _ H' _ (I'.tok _) ex)
theorem env_in2 {H : Hp} {s : Shared} (I : Inv X pins σ H s) : Env0 X.prog X.w X.K X.mg X.base X.A.in1.in1 X.stack s H := by
  have e := I.env0
  exact ⟨e.frames, e.mod, e.bs, e.bsz, e.funs, e.frf, e.hok, e.bare⟩
/-- list(x) of a Stints: what is made -/
def rLS (K : PySem.W.Frag) : List V → Hp → VK → Prop := fun xs H Q => ∃ (O : Addr → Prop) (a dx n p : Addr) (m c : Int) (ds : List D) (ys : List V), xs = [.ref a] ∧ StI K ∧ Od O H ∧ At K O H (.ref a) (stiD m ds c) ∧ H a = some (.ins (caK K "Stints") dx (stF m n p)) ∧ SqL K H n ys ∧ ys.length = ds.length ∧ ds.length < 1000000 ∧
  ∀ q H', H q = none → Ex H H' → H' q = some (.lst ys) → Q (.ref q) H'
theorem call_listS {fr : Bool} {F : FD} {j1 j2 : Nat} (hc : X.calm = true) (TI : HasM X.prog X.w X.K X.mg X.base "__iter__" j1 ["self"] (spIter X.K)) (TL : HasM X.prog X.w X.K X.mg X.base "__len__" j2 ["self"] (spD X.K ca [] fr F)) (hr : Room k X.A) (hj1 : j1 + 2 ≤ k) (hj2 : j2 + 3 ≤ k) (hgd : X.A.guards = some [])
    (hF : ∀ m ds c, ∃ t, F [.im (stiD m ds c)] = .ok (.int ds.length, t)) : CallR X (.type "list") (rLS X.K) := by
  intro pins s σ H xs us Q I rv h
  obtain ⟨O, a, dx, n, p, m, c, ds, ys, rfl, s0, od, at_, ha, hn, hlen, hl, hq⟩ := h
  obtain ⟨u, rfl, ru⟩ := rv.one
  cases ru
  refine callType_codes (Q₁ := fun obj s₁ => obj = .ref s.heap.objs.size ∧ s₁ = { s with heap := s.heap.push { cls := .type "list", data := .seq #[] } }) PySem.F.called_list (PySem.F.typeCall_list_1 _) PySem.F.entry_list_init
    (code_list_new _ ⟨rfl, rfl⟩) fun obj s₁ h₁ => ?_
  obtain ⟨rfl, rfl⟩ := h₁
  have hS : (s.heap.push { cls := .type "list", data := .seq #[] }).get? s.heap.objs.size = some { cls := .type "list", data := .seq #[] } := Heap.get?_push_size _ rfl
  refine ⟨⟨_, hS, rfl⟩, PySem.F.args_list_init_2 _ _, ?_⟩
  have fr0 : H s.heap.objs.size = none := I.hok.fresh (Nat.le_refl _)
  generalize hqq : s.heap.objs.size = q at *
  have I1 : Inv X pins σ (upd H q (.lst [])) { s with heap := s.heap.push { cls := .type "list", data := .seq #[] } } := by
    rw [← hqq]; exact I.lnew (its := []) (t' := s.toks) .nil (Nat.zero_le _)
  show wpAny _ _ (do let old ← Builtin.List.listItems (.ref q); Builtin.List.listUpdate (.ref q) (fun _ => #[]); letGo old.toList.reverse; Builtin.List.listExtendWith (.ref q) (.ref a) .none) _ _ _
  refine wpAny_bind ?_
  unfold Builtin.List.listItems
  refine wpAny_bind (wpAny_seqItems hS rfl (wpAny_pure ?_))
  show wpAny _ _ (updateSeq q (fun _ => #[]) >>= fun _ => letGo (#[] : Array Value).toList.reverse >>= fun _ => Builtin.List.listExtendWith (.ref q) (.ref a) .none) _ _ _
  refine wpAny_bind (wpAny_updateSeq hS rfl ?_)
  have I2 := I1.lset (f := fun _ => #[]) (its := []) (its' := []) (ys := []) (t' := s.toks) upd_same hS rfl .nil (Nat.zero_le _)
  rw [upd_upd] at I2
  refine wpAny_bind (wpAny_letGo ?_)
  have hne : q ≠ a := fun w => by rw [w, ha] at fr0; cases fr0
  have ha2 : upd H q (.lst []) a = some (.ins (caK X.K "Stints") dx (stF m n p)) := by rw [upd_ne hne.symm]; exact ha
  have ex2 : Ex H (upd H q (.lst [])) := Ex.new fr0
  obtain ⟨mA, J, _⟩ := ins_get I2.hok ha2
  obtain ⟨oda, J, _⟩ := J.look
  obtain ⟨m0, hFr⟩ := I2.fr
  unfold Builtin.List.listExtendWith
  refine wpAny_bind (J.type.here ?_)
  have h1 : Builtin.List.listSameRef (.ref q) (.ref a) = false := by simp [Builtin.List.listSameRef, hne]
  have h2 : (Value.ref (caK X.K "Stints") == Value.type "list") = false := rfl
  have h3 : (Value.ref (caK X.K "Stints") == Value.type "tuple") = false := rfl
  simp only [h1, h2, h3, Bool.or_false, Bool.false_eq_true, if_false]
  obtain ⟨fI, fdI, hmI, hbI, GI, _⟩ := TI
  refine wpAny_bind (PySem.W.owit_iter hFr I2.ok.mod.kin J hmI.at_ hmI.fn ?_)
  have e0 := env_in2 I2
  have hspI : spIter X.K [.ref a] (upd H q (.lst [])) (fun v H' => ∃ it, v = .ref it ∧ upd H q (.lst []) it = none ∧ H' = upd (upd H q (.lst [])) it (ItO n it 0)) (fun _ _ _ => False) :=
    ⟨a, dx, n, p, m, ys, rfl, s0, ha2, hn.ext ex2, fun it hi => ⟨it, rfl, hi, rfl⟩⟩
  have r2 : Vals [V.ref a] [Value.ref a] := .cons rfl .nil
  have rmI : Room j1 X.A.in1.in1 := (hr.mono hj1).in1.in1
  refine wpAny_call (codeAny_mono (GI.run X.A.in1.in1 X.stack _ _ ⟨[.ref a], []⟩ [.ref a] [.ref a] _ _ rmI hgd e0 (by
    have := hbI _ [.ref a] I2.kIn rfl
    simpa using this) r2 rfl hspI) fun r s' hq' => ?_)
  cases r with
  | error e =>
    obtain ⟨a, B, H', cls, d, _, _, _, _, _, _, _, hE⟩ := hq'
    exact hE.elim
  | ok fl =>
    cases fl with
    | next => exact False.elim hq'
    | brk => exact False.elim hq'
    | cont => exact False.elim hq'
    | ret u =>
      obtain ⟨v, H', I3, rv', it, ev, hit0, eH⟩ := I2.after hq'
      subst ev
      subst eH
      cases rv'
      have hitq : it ≠ q := fun w => by rw [w, upd_same] at hit0; cases hit0
      have hi0 : H it = none := Ex.dom ex2 it hit0
      have hit : upd (upd H q (.lst [])) it (ItO n it 0) it = some (ItO n it 0) := upd_same
      have ex3 : Ex H (upd (upd H q (.lst [])) it (ItO n it 0)) := fun b o e => Ex.new hit0 b o (ex2 b o e)
      have hT : s'.TypeIs (.ref it) "list_iterator" := ⟨_, itO_get I3 hit, rfl⟩
      unfold PySem.W.OwitIt
      refine wpAny_specialOf hT slot_listiter_next.lookup ?_
      have mv3 : Mv O O H (upd (upd H q (.lst [])) it (ItO n it 0)) := Mv.ex ex3
      refine wpAny_bind (wpAny_holding (own_hintL (ca := ca) (O := O) TL ((hr.mono hj2).in1.in1.in1) hgd rfl rfl I3 (fun b e => od b (Ex.dom ex3 b e)) (At.mv mv3 at_) (ex3 _ _ ha) hl (hF m ds c) fun b H4 s4 I4 ex4 => ?_))
      have ex5 : Ex H H4 := fun b o e => ex4 b o (ex3 b o e)
      have hit4 : H4 it = some (ItO n it 0) := ex4 _ _ hit
      have hq4 : H4 q = some (.lst []) := ex4 _ _ (by rw [upd_ne hitq.symm]; exact upd_same)
      have hh : X.A.in1.in1.handled = none := I.ok.hd hc
      have fin : ∀ s5, Inv X pins σ H4 s5 → codeAny (model X.prog X.w) X.A.in1 (.builtin "list.extend.loop" ⟨[.ref q, .ref it, .none], []⟩) (wants (fun r s₂ => r = .none ∧ EP X pins σ Q (.ref q) s₂) X.xe) s5 := fun s5 I5 =>
        its_loop (A1 := X.A.in1) (Rs := wants (fun r s₂ => r = .none ∧ EP X pins σ Q (.ref q) s₂) X.xe) hh hn fr0 hi0 hitq (by rw [hlen, sizeLine_eq]; omega) (fun H6 s6 I6 ex6 hq6 => ⟨rfl, .ref q, H6, I6, rfl, hq q H6 fr0 ex6 hq6⟩) (fun e s' he => he) (ys.length - 0) 0 H4 s5 rfl (Nat.zero_le _) I5 ex5 hit4 hq4
      obtain ⟨z, its, kk, r3, hl3, e3⟩ := I4.lstM hq4
      cases r3
      refine wpAny_ite_split (fun _ => ?_) (fun _ => wpAny_pure ⟨plainId_quiet PySem.F.plain_extend_loop _, fin s4 I4⟩)
      refine wpAny_bind (wpAny_rule ?_)
      refine wpAny_bind ?_
      show wpAny _ _ (updateSeq q (·.push .none) >>= fun _ => updateSeq q (·.pop)) _ _ _
      refine wpAny_bind (wpAny_updateSeq e3 rfl ?_)
      have I6 := I4.lset (f := (·.push Value.none)) (its' := [Value.none]) (ys := [.non]) (t' := s4.toks) hq4 e3 (by simp) (.cons rfl .nil) (by rw [List.length_singleton, sizeLine_eq]; decide)
      obtain ⟨z4, its4, k4, r4, hl4, e4⟩ := I6.lstM upd_same
      obtain ⟨u4, rfl, ru4⟩ := r4.one
      refine wpAny_updateSeq e4 rfl ?_ (by show 1 ≤ sizeLine; rw [sizeLine_eq]; decide) (by show 0 ≤ sizeLine + 1; exact Nat.zero_le _)
      refine wpAny_pure ⟨plainId_quiet PySem.F.plain_extend_loop _, fin _ ?_⟩
      have I7 := I6.lset (f := (·.pop)) (its := [u4]) (its' := []) (ys := []) (t' := s4.toks) upd_same e4 (by rfl) .nil (Nat.zero_le _)
      rw [upd_upd] at I7
      have hH : upd H4 q (.lst []) = H4 := by
        funext b
        by_cases hb : b = q
        · rw [hb, upd_same, hq4]
        · rw [upd_ne hb]
      rw [hH] at I7
      exact I7
def listSD : List D → Option D
  | [.dict [(.str _, .int _), (.str _, .list ds), (.str _, .int _)]] => if ds.length < 1000000 then some (.list ds) else none
  | _ => none
theorem cd_listS {fr : Bool} {F : FD} {j1 j2 : Nat} (hc : X.calm = true) (TI : HasM X.prog X.w X.K X.mg X.base "__iter__" j1 ["self"] (spIter X.K)) (TL : HasM X.prog X.w X.K X.mg X.base "__len__" j2 ["self"] (spD X.K ca [] fr F)) (hr : Room k X.A) (hj1 : j1 + 2 ≤ k) (hj2 : j2 + 3 ≤ k) (hgd : X.A.guards = some [])
    (hF : ∀ m ds c, ∃ t, F [.im (stiD m ds c)] = .ok (.int ds.length, t)) : CallD X (.type "list") true listSD := by
  refine ⟨_, call_listS hc TI TL hr hj1 hj2 hgd hF, fun O H vs ds w Q od ha hw q => ?_⟩
  match ds, hw with
  | [d], hw =>
    obtain ⟨v, rfl, a⟩ := ha.one
    cases a with
    | @sti a dx n p xs ds m c i h l r pp =>
      have hw : (if ds.length < 1000000 then some (PyData.list ds) else none) = some w := hw
      split at hw
      · rename_i hl
        cases hw
        refine ⟨O, a, dx, n, p, m, c, ds, xs, rfl, i, od, .sti m c i h l r pp, h.1, l.1, r.length, hl, fun q' H' hq ex hl' => q _ H' ?_⟩
        have r' : AtAll X.K (plus O q') H' xs ds := AtAll.mv ⟨fun b o e _ => ex b o e, fun b w => w.elim .inl fun w => .inr (by rw [show b = q' from w]; exact hq), Ex.dom ex⟩ r
        refine ⟨ex, ?_, fun _ ds' e => ?_⟩
        · exact .lst ⟨SqL.of hl', fun w => (od q' hq w).elim⟩ (AtAll.mv (Mv.ex ex) r)
        · cases e
          exact ⟨q', xs, rfl, hq, hl', r'⟩
      · cases hw
    | _ => cases hw
  | [], hw => exact nomatch hw
  | a :: b :: r, hw => simp [listSD] at hw
end
end DL
namespace DL
open PySem PySem.Spec PyProof.Rows L2
/-- a Stints as data: its places, its terms, what was before (the last one last) -/
structure Ost where
  m : Int
  now : List D
  past : List (List D)
def Ost.d (o : Ost) : D := stiD o.m o.now o.past.length
/-- .. where it stands -/
structure Ob where
  a : Addr
  dx : Addr
  n : Addr
  p : Addr
  m : Int
  xs : List V
/-- the names' data, the objects, which name stands for which object -/
structure Wo where
  env : En
  os : List Ost
  al : List (Nat × Nat)
def vwF (f : Nat → Option Sl → Option Sl) : Nat → En → En
  | _, [] => []
  | i, s :: r => f i s :: vwF f (i + 1) r
theorem vwF_get {f : Nat → Option Sl → Option Sl} : ∀ {e : En} {i j : Nat}, (vwF f i e)[j]? = (e[j]?).map (f (i + j))
  | [], i, j => by simp [vwF]
  | s :: r, i, 0 => by simp [vwF]
  | s :: r, i, j + 1 => by
    unfold vwF
    rw [List.getElem?_cons_succ, List.getElem?_cons_succ, vwF_get (e := r), show i + 1 + j = i + (j + 1) by omega]
theorem vwF_length {f : Nat → Option Sl → Option Sl} : ∀ {e : En} {i : Nat}, (vwF f i e).length = e.length
  | [], i => by simp [vwF]
  | s :: r, i => by
    unfold vwF
    rw [List.length_cons, List.length_cons, vwF_length (e := r)]
def seeF (os : List Ost) (al : List (Nat × Nat)) (i : Nat) (s : Option Sl) : Option Sl := match al.lookup i with
  | some k => match os[k]? with
    | some o => some (.im o.d)
    | none => none
  | none => s
def hideF (al : List (Nat × Nat)) (i : Nat) (s : Option Sl) : Option Sl := match al.lookup i with
  | some _ => none
  | none => s
/-- the objects seen as data -/
def Wo.v (w : Wo) : En := vwF (seeF w.os w.al) 0 w.env
def Wo.put (w : Wo) (e : En) : Wo := ⟨vwF (hideF w.al) 0 e, w.os, w.al⟩
theorem lookup_mem {i k : Nat} : ∀ {al : List (Nat × Nat)}, al.lookup i = some k → (i, k) ∈ al
  | [], h => by simp [List.lookup] at h
  | (j, l) :: r, h => by
    unfold List.lookup at h
    split at h
    · rename_i e
      have e : i = j := beq_iff_eq.mp e
      cases h
      subst e
      exact List.mem_cons_self ..
    · exact List.mem_cons_of_mem _ (lookup_mem h)
theorem mem_lookup {i k : Nat} : ∀ {al : List (Nat × Nat)}, (i, k) ∈ al → ∃ l, al.lookup i = some l
  | [], h => by cases h
  | (j, l) :: r, h => by
    unfold List.lookup
    split
    · exact ⟨l, rfl⟩
    · rename_i e
      rcases List.mem_cons.mp h with h | h
      · cases h
        simp at e
      · exact mem_lookup h
def cells : List Ob → List Addr
  | [] => []
  | u :: r => u.a :: u.p :: cells r
theorem mem_cells {x : Addr} : ∀ {us : List Ob}, x ∈ cells us ↔ ∃ u ∈ us, x = u.a ∨ x = u.p
  | [] => by simp [cells]
  | u :: r => by
    unfold cells
    rw [List.mem_cons, List.mem_cons, mem_cells (us := r)]
    constructor
    · rintro (h | h | ⟨v, h1, h2⟩)
      · exact ⟨u, List.mem_cons_self .., .inl h⟩
      · exact ⟨u, List.mem_cons_self .., .inr h⟩
      · exact ⟨v, List.mem_cons_of_mem _ h1, h2⟩
    · rintro ⟨v, h1, h2⟩
      rcases List.mem_cons.mp h1 with rfl | h1
      · rcases h2 with h2 | h2
        · exact .inl h2
        · exact .inr (.inl h2)
      · exact .inr (.inr ⟨v, h1, h2⟩)
theorem cells_set {u u' : Ob} (ha : u'.a = u.a) (hp : u'.p = u.p) : ∀ {us : List Ob} {k : Nat}, us[k]? = some u → cells (us.set k u') = cells us
  | [], k, h => by simp at h
  | v :: r, 0, h => by
    have e : v = u := by simpa using h
    subst e
    simp only [List.set_cons_zero, cells, ha, hp]
  | v :: r, k + 1, h => by
    simp only [List.set_cons_succ, cells, cells_set ha hp (us := r) (k := k) (by simpa using h)]
theorem cells_append : ∀ {us vs : List Ob}, cells (us ++ vs) = cells us ++ cells vs
  | [], vs => by simp [cells]
  | u :: r, vs => by simp [cells, cells_append (us := r)]
section
variable (K : PySem.W.Frag)
def insO (u : Ob) : HO := .ins (caK K "Stints") u.dx (stF u.m u.n u.p)
def kpN : List Ob → Addr → Option HO
  | [], _ => none
  | u :: r, b => if b = u.a then some (insO K u) else if b = u.p then some (.lst u.xs) else kpN r b
end
section
variable {K : PySem.W.Frag}
theorem kpN_none {x : Addr} : ∀ {us : List Ob}, x ∉ cells us → kpN K us x = none
  | [], _ => rfl
  | u :: r, h => by
    unfold cells at h
    simp only [List.mem_cons, not_or] at h
    unfold kpN
    rw [if_neg h.1, if_neg h.2.1]
    exact kpN_none h.2.2
theorem kpN_of {u : Ob} : ∀ {us : List Ob}, (cells us).Nodup → u ∈ us → kpN K us u.a = some (insO K u) ∧ kpN K us u.p = some (.lst u.xs)
  | [], _, h => by cases h
  | v :: r, nd, h => by
    unfold cells at nd
    simp only [List.nodup_cons, List.mem_cons, not_or] at nd
    obtain ⟨⟨n1, n2⟩, n3, n4⟩ := nd
    unfold kpN
    rcases List.mem_cons.mp h with rfl | h
    · rw [if_pos rfl, if_neg (Ne.symm n1), if_pos rfl]
      exact ⟨rfl, rfl⟩
    · have i1 : u.a ∈ cells r := mem_cells.2 ⟨u, h, .inl rfl⟩
      have i2 : u.p ∈ cells r := mem_cells.2 ⟨u, h, .inr rfl⟩
      rw [if_neg fun e : u.a = v.a => n2 (e ▸ i1), if_neg fun e : u.a = v.p => n3 (e ▸ i1), if_neg fun e : u.p = v.a => n2 (e ▸ i2), if_neg fun e : u.p = v.p => n3 (e ▸ i2)]
      exact kpN_of n4 h
theorem kpN_inv {x : Addr} {o : HO} : ∀ {us : List Ob}, kpN K us x = some o → ∃ u ∈ us, (x = u.a ∧ o = insO K u) ∨ (x = u.p ∧ o = .lst u.xs)
  | [], h => by cases h
  | u :: r, h => by
    unfold kpN at h
    split at h
    · rename_i e
      cases h
      exact ⟨u, List.mem_cons_self .., .inl ⟨e, rfl⟩⟩
    · split at h
      · rename_i e
        cases h
        exact ⟨u, List.mem_cons_self .., .inr ⟨e, rfl⟩⟩
      · obtain ⟨v, h1, h2⟩ := kpN_inv h
        exact ⟨v, List.mem_cons_of_mem _ h1, h2⟩
end
theorem nd_ap : ∀ {us : List Ob} {u v : Ob}, (cells us).Nodup → u ∈ us → v ∈ us → u.a ≠ v.p
  | [], _, _, _, h, _ => by cases h
  | w :: r, u, v, nd, hu, hv => by
    unfold cells at nd
    simp only [List.nodup_cons, List.mem_cons, not_or] at nd
    obtain ⟨⟨n1, n2⟩, n3, n4⟩ := nd
    intro e
    rcases List.mem_cons.mp hu with hu | hu
    · rcases List.mem_cons.mp hv with hv | hv
      · exact n1 (by rw [hu, hv] at e; exact e)
      · have i2 : v.p ∈ cells r := mem_cells.2 ⟨v, hv, .inr rfl⟩
        exact n2 (by rw [hu] at e; rw [e]; exact i2)
    · rcases List.mem_cons.mp hv with hv | hv
      · have i1 : u.a ∈ cells r := mem_cells.2 ⟨u, hu, .inl rfl⟩
        exact n3 (by rw [hv] at e; rw [← e]; exact i1)
      · exact nd_ap n4 hu hv e
/-- what is fixed in a def's run: what others may change, the heap at the entry, the own lists and the objects that were handed over -/
structure Bn where
  O0 : Addr → Prop
  H0 : Hp
  ps : List (Nat × Addr)
  qs : List (Addr × Addr × Addr)
def fxN (us : List Ob) (al : List (Nat × Nat)) : List (Nat × V) := al.filterMap fun q => (us[q.2]?).map fun u => (q.1, V.ref u.a)
def Bn.B (b : Bn) (K : PySem.W.Frag) (us : List Ob) (al : List (Nat × Nat)) : Bs := ⟨fun x => b.O0 x ∨ ∃ u ∈ us, x = u.p, b.H0, b.ps, kpN K us, fxN us al⟩
structure ObAt (K : PySem.W.Frag) (O : Addr → Prop) (H : Hp) (u : Ob) (o : Ost) : Prop where
  m : u.m = o.m
  now : At K O H (.ref u.n) (.list o.now)
  past : AtAll K O H u.xs (o.past.map PyData.list)
  okn : noDctAll o.now = true
  okp : ∀ l ∈ o.past, noDctAll l = true
structure ON (K : PySem.W.Frag) (z : Z) (oi : List Nat) (b : Bn) (us : List Ob) (w : Wo) (σ : Sg) (H : Hp) : Prop where
  sr : SR K (oi ++ z.np) (b.B K us w.al) σ H w.env
  st : StI K
  len : us.length = w.os.length
  ob : ∀ (k : Nat) (u : Ob) (o : Ost), us[k]? = some u → w.os[k]? = some o → ObAt K ((b.B K us w.al).O σ w.env) H u o
  al : ∀ q ∈ w.al, q.1 ∈ oi ∧ q.2 < us.length
  em : ∀ q ∈ w.al, ∀ s : Sl, w.env[q.1]? ≠ some (some s)
  nd : (cells us).Nodup
  fr : ∀ u ∈ us, b.H0 u.a = none ∧ b.H0 u.p = none ∧ ¬ b.O0 u.a ∧ ¬ b.O0 u.p
  qs : ∀ (k : Nat) (q : Addr × Addr × Addr), b.qs[k]? = some q → ∃ u, us[k]? = some u ∧ q = (u.a, u.dx, u.p)
  pz : ∀ p ∈ b.ps, p.1 ∈ z.np ∧ p.1 ∉ oi
section
variable {K : PySem.W.Frag} {np np' : List Nat} {B B' : Bs} {σ : Sg} {H H' : Hp} {env e e2 : En}
theorem SR.to (I : SR K np B σ H env) (eH : B'.H0 = B.H0) (ep : B'.ps = B.ps)
    (hs : ∀ (i : Nat) (s : Sl) (v : V), env[i]? = some (some s) → σ[i]? = some (some v) → SlotR K (B.O σ env) H v s → SlotR K (B'.O σ env) H' v s)
    (keep : ∀ a o, B.H0 a = some o → (∀ p ∈ B.ps, p.2 ≠ a) → H a = some o → H' a = some o) (dom : ∀ a, H' a = none → H a = none)
    (o0 : ∀ a, B'.O0 a → H' a ≠ none ∧ ∀ p ∈ B.ps, p.2 ≠ a) (kept : ∀ a o, B'.kp a = some o → H' a = some o)
    (kpo : ∀ i a, ownedAt σ env i a → B'.kp a = none) (own0 : ∀ i a, ownedAt σ env i a → ¬ B'.O0 a)
    (hnp : ∀ p ∈ B.ps, p.1 ∈ np') (fx : ∀ p ∈ B'.fx, σ[p.1]? = some (some p.2) ∧ p.1 ∈ np') : SR K np' B' σ H' env where
  len := I.len
  slot := fun i s h => by
    obtain ⟨v, ev, q⟩ := I.slot i s h
    exact ⟨v, ev, hs i s v h ev q⟩
  dist := I.dist
  keep := fun a o h n => by
    rw [eH] at h
    rw [ep] at n
    exact keep a o h n (I.keep a o h n)
  dom := fun a h => by
    rw [eH]
    exact I.dom a (dom a h)
  new := fun i a h => by
    rw [eH, ep]
    exact I.new i a h
  o0 := fun a h => by
    rw [ep]
    exact o0 a h
  kept := kept
  kpo := kpo
  own0 := own0
  par := fun p hp => by
    rw [ep] at hp
    rw [eH]
    obtain ⟨h1, h2, _⟩ := I.par p hp
    exact ⟨h1, h2, hnp p hp⟩
  fix := fx
/-- data is told of names, or forgotten, that own nothing -/
theorem SR.pt (I : SR K np B σ H e) (hl : e2.length = e.length)
    (h : ∀ j : Nat, e2[j]? = e[j]? ∨ ((∀ s, e[j]? = some (some s) → s.own = false) ∧ ∀ s, e2[j]? = some (some s) → ∃ (d : D) (v : V), s = Sl.im d ∧ σ[j]? = some (some v) ∧ At K (B.O σ e) H v d)) :
    SR K np B σ H e2 ∧ (∀ j a, ownedAt σ e2 j a ↔ ownedAt σ e j a) ∧ ∀ a, B.O σ e2 a ↔ B.O σ e a := by
  have ow : ∀ j a, ownedAt σ e2 j a ↔ ownedAt σ e j a := fun j a => by
    rcases h j with h | ⟨h1, h2⟩
    · unfold ownedAt
      rw [h]
    · constructor
      · rintro ⟨s, q1, q2, _⟩
        obtain ⟨d, v, rfl, _⟩ := h2 s q1
        cases q2
      · rintro ⟨s, q1, q2, _⟩
        rw [h1 s q1] at q2; cases q2
  have eO : ∀ a, B.O σ e2 a ↔ B.O σ e a := fun a => ⟨fun w => w.elim .inl fun ⟨j, w⟩ => .inr ⟨j, (ow j a).1 w⟩, fun w => w.elim .inl fun ⟨j, w⟩ => .inr ⟨j, (ow j a).2 w⟩⟩
  refine ⟨⟨by rw [hl]; exact I.len, fun i s hs => ?_, fun i j a h1 h2 => I.dist i j a ((ow i a).1 h1) ((ow j a).1 h2), I.keep, I.dom, fun i a h => I.new i a ((ow i a).1 h), I.o0, I.kept, fun i a h => I.kpo i a ((ow i a).1 h), fun i a h => I.own0 i a ((ow i a).1 h), fun p hp => ?_, I.fix⟩, ow, eO⟩
  · have less : Mv (B.O σ e) (B.O σ e2) H H := Mv.less fun a => (eO a).1
    rcases h i with h | ⟨_, h2⟩
    · rw [h] at hs
      obtain ⟨v, ev, q⟩ := I.slot i s hs
      exact ⟨v, ev, q.mv less (fun a ea ho => (eO a).2 (.inr ⟨i, s, hs, ho, ea ▸ ev⟩)) fun _ _ _ _ z => z⟩
    · obtain ⟨d, v, rfl, ev, q⟩ := h2 s hs
      exact ⟨v, ev, At.mv less q⟩
  · obtain ⟨h1, h2, h3⟩ := I.par p hp
    exact ⟨(ow _ _).2 h1, h2, h3⟩
end
def Z.atN (z : Z) (oi : List Nat) : Z := ⟨z.ca, oi ++ z.np, z.W, z.rt⟩
section
variable {K : PySem.W.Frag} {z : Z} {oi : List Nat} {b : Bn} {us us' : List Ob} {w : Wo} {σ σ' : Sg} {H H' : Hp} {e e' : En}
theorem mem_fxN {i k : Nat} {u : Ob} {al : List (Nat × Nat)} (h : (i, k) ∈ al) (hu : us[k]? = some u) : (i, V.ref u.a) ∈ fxN us al := by
  unfold fxN
  rw [List.mem_filterMap]
  exact ⟨(i, k), h, by rw [hu]; rfl⟩
theorem fxN_mem {p : Nat × V} {al : List (Nat × Nat)} (h : p ∈ fxN us al) : ∃ k u, (p.1, k) ∈ al ∧ us[k]? = some u ∧ p.2 = .ref u.a := by
  unfold fxN at h
  rw [List.mem_filterMap] at h
  obtain ⟨q, h1, h2⟩ := h
  rw [Option.map_eq_some_iff] at h2
  obtain ⟨u, h2, rfl⟩ := h2
  exact ⟨q.2, u, h1, h2, rfl⟩
theorem ON.kept (M : ON K z oi b us w σ H) {u : Ob} (h : u ∈ us) : H u.a = some (insO K u) ∧ H u.p = some (.lst u.xs) :=
  ⟨M.sr.kept _ _ (kpN_of M.nd h).1, M.sr.kept _ _ (kpN_of M.nd h).2⟩
theorem ON.nO (M : ON K z oi b us w σ H) {u : Ob} (h : u ∈ us) : ¬ (b.B K us w.al).O σ w.env u.a := fun q => by
  rcases q with (q | ⟨v, hv, q⟩) | ⟨i, q⟩
  · exact (M.fr u h).2.2.1 q
  · exact nd_ap M.nd h hv q
  · have := M.sr.kpo i _ q
    rw [show (b.B K us w.al).kp u.a = kpN K us u.a from rfl, (kpN_of M.nd h).1] at this
    cases this
theorem ON.name (M : ON K z oi b us w σ H) {i k : Nat} {u : Ob} (h : w.al.lookup i = some k) (hu : us[k]? = some u) : σ[i]? = some (some (.ref u.a)) := (M.sr.fix _ (mem_fxN (lookup_mem h) hu)).1
theorem ObAt.at {O : Addr → Prop} {u : Ob} {o : Ost} (h : ObAt K O H u o) (i : StI K) (ha : H u.a = some (insO K u)) (nO : ¬ O u.a) : At K O H (.ref u.a) o.d := by
  have n := h.now
  have hm := h.m
  cases n with
  | lst l r => exact .sti o.m _ i ⟨by rw [ha, insO, hm], nO⟩ l r (paH_of (Int.natCast_nonneg _))
theorem ObAt.mv {O O' : Addr → Prop} {u : Ob} {o : Ost} (m : Mv O O' H H') (h : ObAt K O H u o) : ObAt K O' H' u o := ⟨h.m, h.now.mv m, h.past.mv m, h.okn, h.okp⟩
theorem ON.obj (M : ON K z oi b us w σ H) {k : Nat} {o : Ost} (h : w.os[k]? = some o) : ∃ u, us[k]? = some u ∧ u ∈ us ∧ ObAt K ((b.B K us w.al).O σ w.env) H u o := by
  have hk : k < us.length := by
    rw [M.len]
    exact (List.getElem?_eq_some_iff.mp h).1
  have e : us[k]? = some us[k] := List.getElem?_eq_getElem hk
  exact ⟨us[k], e, List.mem_of_getElem? e, M.ob _ _ _ e h⟩
/-- the objects seen as data -/
theorem ON.see (M : ON K z oi b us w σ H) : SR K (oi ++ z.np) (b.B K us w.al) σ H w.v ∧ ∀ a, (b.B K us w.al).O σ w.v a ↔ (b.B K us w.al).O σ w.env a := by
  have key := M.sr.pt (e2 := w.v) vwF_length fun j => by
    unfold Wo.v
    rw [vwF_get, Nat.zero_add]
    cases hl : w.al.lookup j with
    | none =>
      refine .inl ?_
      have : seeF w.os w.al j = id := by
        funext s
        unfold seeF
        rw [hl]; rfl
      rw [this, Option.map_id]; rfl
    | some k =>
      refine .inr ⟨fun s hs => absurd hs (M.em _ (lookup_mem hl) s), fun s hs => ?_⟩
      rw [Option.map_eq_some_iff] at hs
      obtain ⟨t, _, hs⟩ := hs
      unfold seeF at hs
      rw [hl] at hs
      dsimp only at hs
      split at hs
      · rename_i o ho
        cases hs
        obtain ⟨u, hu, mu, q⟩ := M.obj ho
        exact ⟨_, _, rfl, M.name hl hu, q.at M.st (M.kept mu).1 (M.nO mu)⟩
      · cases hs
  exact ⟨key.1, key.2.2⟩
theorem ON.put_sr (M : ON K z oi b us w σ H) (I' : SR K (oi ++ z.np) (b.B K us w.al) σ' H' e') : SR K (oi ++ z.np) (b.B K us w.al) σ' H' (w.put e').env ∧ ∀ a, (b.B K us w.al).O σ' (w.put e').env a ↔ (b.B K us w.al).O σ' e' a := by
  have key := I'.pt (e2 := (w.put e').env) vwF_length fun j => by
    unfold Wo.put
    dsimp only
    rw [vwF_get, Nat.zero_add]
    cases hl : w.al.lookup j with
    | none =>
      refine .inl ?_
      have : hideF w.al j = id := by
        funext s
        unfold hideF
        rw [hl]; rfl
      rw [this, Option.map_id]; rfl
    | some k =>
      refine .inr ⟨fun s hs => ?_, fun s hs => ?_⟩
      · cases ho : s.own with
        | false => rfl
        | true =>
          obtain ⟨v, ev, q⟩ := I'.slot j s hs
          obtain ⟨a, o, rfl, _, _⟩ := q.ref ho
          have hk : k < us.length := (M.al _ (lookup_mem hl)).2
          have hu : us[k]? = some us[k] := List.getElem?_eq_getElem hk
          have hf := (I'.fix _ (mem_fxN (lookup_mem hl) hu)).1
          rw [ev] at hf
          cases hf
          have := I'.kpo j _ ⟨s, hs, ho, ev⟩
          rw [show (b.B K us w.al).kp us[k].a = kpN K us us[k].a from rfl, (kpN_of M.nd (List.getElem_mem hk)).1] at this
          cases this
      · rw [Option.map_eq_some_iff] at hs
        obtain ⟨t, _, hs⟩ := hs
        unfold hideF at hs
        rw [hl] at hs
        cases hs
  exact ⟨key.1, key.2.2⟩
/-- a plain step -/
theorem ON.plain (M : ON K z oi b us w σ H) (I' : SR K (oi ++ z.np) (b.B K us w.al) σ' H' e') (m : Mv ((b.B K us w.al).O σ w.v) ((b.B K us w.al).O σ' e') H H') : ON K z oi b us (w.put e') σ' H' where
  sr := (M.put_sr I').1
  st := M.st
  len := M.len
  ob := fun k u o hu ho => (M.ob k u o hu ho).mv (((Mv.less fun a => (M.see.2 a).1).trans m).trans (Mv.less fun a => ((M.put_sr I').2 a).1))
  al := M.al
  em := fun q hq s hs => by
    unfold Wo.put at hs
    dsimp only at hs
    rw [vwF_get, Nat.zero_add, Option.map_eq_some_iff] at hs
    obtain ⟨t, _, hs⟩ := hs
    obtain ⟨l, hl⟩ := mem_lookup (show (q.1, q.2) ∈ w.al from hq)
    unfold hideF at hs
    rw [hl] at hs
    cases hs
  nd := M.nd
  fr := M.fr
  qs := M.qs
  pz := M.pz
theorem ON.mvs (M : ON K z oi b us w σ H) : Mv ((b.B K us w.al).O σ w.v) ((b.B K us w.al).O σ w.env) H H := Mv.less fun a => (M.see.2 a).2
theorem ON.mvp (M : ON K z oi b us w σ H) (I' : SR K (oi ++ z.np) (b.B K us w.al) σ' H' e') : Mv ((b.B K us w.al).O σ' e') ((b.B K us w.al).O σ' (w.put e').env) H' H' := Mv.less fun a => ((M.put_sr I').2 a).1
/-- nothing but new things -/
theorem ON.ex (M : ON K z oi b us w σ H) (ex : Ex H H') : ON K z oi b us w σ H' where
  sr := M.sr.ex ex
  st := M.st
  len := M.len
  ob := fun k u o hu ho => (M.ob k u o hu ho).mv (Mv.ex ex)
  al := M.al
  em := M.em
  nd := M.nd
  fr := M.fr
  qs := M.qs
  pz := M.pz
end
end DL
namespace DL
open PySem PySem.Spec PyProof.Rows L2
inductive OutN where
  | nx (w : Wo)
  | rt (d : D) (w : Wo)
  /-- an object is handed back -/
  | ro (k : Nat) (w : Wo)
abbrev NF := Wo → R Wo OutN
/-- what may be changed: the objects, too -/
def Bn.P (b : Bn) (K : PySem.W.Frag) (us : List Ob) (w : Wo) (σ : Sg) : Addr → Prop := fun x => (b.B K us w.al).O σ w.env x ∨ ∃ u ∈ us, x = u.a
section
variable (K : PySem.W.Frag) (z : Z) (oi : List Nat) (b : Bn) (us : List Ob) (w : Wo) (σ : Sg) (H : Hp)
def SN (Dd : Ends) : OutN → Prop
  | .nx w' => ∀ σ' H' us', ON K z oi b us' w' σ' H' → Mv (b.P K us w σ) (b.P K us' w' σ') H H' → Dd.nx σ' H'
  | .rt d w' => ∀ v σ' H' us', ON K z oi b us' w' σ' H' → Mv (b.P K us w σ) (b.P K us' w' σ') H H' → At K (b.B K us' w'.al).Op H' v d → Dd.rt v H'
  | .ro k w' => ∀ σ' H' us' u, ON K z oi b us' w' σ' H' → Mv (b.P K us w σ) (b.P K us' w' σ') H H' → us'[k]? = some u → Dd.rt (.ref u.a) H'
def XN (x : Exn) (w' : Wo) : Prop := ∀ (cls : Value) (dp : Option Addr) (σ' : Sg) (H' : Hp) us', ON K z oi b us' w' σ' H' → Mv (b.P K us w σ) (b.P K us' w' σ') H H' → ExnAt K ((b.B K us' w'.al).O σ' w'.env) H' z.ca x cls dp → z.W cls dp σ' H'
def EN (Q : VK) (p : D × Wo) : Prop := ∀ v H' us', ON K z oi b us' p.2 σ H' → Mv (b.P K us w σ) (b.P K us' p.2 σ) H H' → At K ((b.B K us' p.2.al).O σ p.2.env) H' v p.1 → Q v H'
def TN (Q : Bool → Hp → Prop) (p : Bool × Wo) : Prop := ∀ H' us', ON K z oi b us' p.2 σ H' → Mv (b.P K us w σ) (b.P K us' p.2 σ) H H' → Q p.1 H'
/-- a new object -/
def MN (Q : VK) (w' : Wo) : Prop := ∀ H' us' u, ON K z oi b us' w' σ H' → Mv (b.P K us w σ) (b.P K us' w' σ) H H' → us'.getLast? = some u → Q (.ref u.a) H'
end
section
variable (K : PySem.W.Frag) (z : Z) (oi : List Nat)
def tSN (h : NF) : TS := fun Dd σ H => ∃ b us w, ON K z oi b us w σ H ∧ (h w).post (SN K z oi b us w σ H Dd) (XN K z oi b us w σ H)
def tEN (f : Wo → R Wo (D × Wo)) : TE := fun σ H Q => ∃ b us w, ON K z oi b us w σ H ∧ (f w).post (EN K z oi b us w σ H Q) (XN K z oi b us w σ H)
def tTN (f : Wo → R Wo (Bool × Wo)) : TT := fun σ H Q => ∃ b us w, ON K z oi b us w σ H ∧ (f w).post (TN K z oi b us w σ H Q) (XN K z oi b us w σ H)
def tMN (f : Wo → R Wo Wo) : TE := fun σ H Q => ∃ b us w, ON K z oi b us w σ H ∧ (f w).post (MN K z oi b us w σ H Q) (XN K z oi b us w σ H)
end
abbrev NS (z : Z) (X : Cx) (oi : List Nat) (st : Stmt) (h : NF) : Prop := PS X st (tSN X.K z oi h)
abbrev NSs (z : Z) (X : Cx) (oi : List Nat) (sts : List Stmt) (h : NF) : Prop := PSs X sts (tSN X.K z oi h)
abbrev NE (z : Z) (X : Cx) (oi : List Nat) (e : Expr) (f : Wo → R Wo (D × Wo)) : Prop := PE X e (tEN X.K z oi f)
abbrev NT (z : Z) (X : Cx) (oi : List Nat) (e : Expr) (f : Wo → R Wo (Bool × Wo)) : Prop := PT X e (tTN X.K z oi f)
abbrev NW (z : Z) (X : Cx) (oi : List Nat) (e : Expr) (f : Wo → R Wo (Bool × Wo)) : Prop := PW X e (tTN X.K z oi f)
abbrev NM (z : Z) (X : Cx) (oi : List Nat) (e : Expr) (f : Wo → R Wo Wo) : Prop := PE X e (tMN X.K z oi f)
section
variable {K : PySem.W.Frag} {z : Z} {oi : List Nat} {b : Bn} {us us1 us' : List Ob} {w w1 : Wo} {σ σ1 σ' : Sg} {H H1 H' : Hp} {e e' : En}
/-- a plain step, as to what may be changed -/
theorem ON.mvP (M : ON K z oi b us w σ H) (I' : SR K (oi ++ z.np) (b.B K us w.al) σ' H' e') (m : Mv ((b.B K us w.al).O σ w.v) ((b.B K us w.al).O σ' e') H H') : Mv (b.P K us w σ) (b.P K us (w.put e') σ') H H' :=
  ⟨fun a o h n => m.keep a o h fun q => n (.inl ((M.see.2 a).1 q)), fun a q => q.elim (fun q => (m.own a (((M.put_sr I').2 a).1 q)).imp (fun q => .inl ((M.see.2 a).1 q)) id) fun q => .inl (.inr q), m.dom⟩
theorem SN.step {Dd : Ends} {o : OutN} (m : Mv (b.P K us w σ) (b.P K us1 w1 σ1) H H1) (h : SN K z oi b us w σ H Dd o) : SN K z oi b us1 w1 σ1 H1 Dd o := by
  cases o with
  | nx e => exact fun σ' H' us' M' m' => h σ' H' us' M' (m.trans m')
  | rt d e => exact fun v σ' H' us' M' m' => h v σ' H' us' M' (m.trans m')
  | ro k e => exact fun σ' H' us' u M' m' => h σ' H' us' u M' (m.trans m')
theorem XN.step {x : Exn} {e : Wo} (m : Mv (b.P K us w σ) (b.P K us1 w1 σ1) H H1) (h : XN K z oi b us w σ H x e) : XN K z oi b us1 w1 σ1 H1 x e := fun cls dp σ' H' us' M' m' => h cls dp σ' H' us' M' (m.trans m')
theorem EN.step {Q : VK} {p : D × Wo} (m : Mv (b.P K us w σ) (b.P K us1 w1 σ) H H1) (h : EN K z oi b us w σ H Q p) : EN K z oi b us1 w1 σ H1 Q p := fun v H' us' M' m' => h v H' us' M' (m.trans m')
theorem TN.step {Q : Bool → Hp → Prop} {p : Bool × Wo} (m : Mv (b.P K us w σ) (b.P K us1 w1 σ) H H1) (h : TN K z oi b us w σ H Q p) : TN K z oi b us1 w1 σ H1 Q p := fun H' us' M' m' => h H' us' M' (m.trans m')
theorem ON.xs (M : ON K z oi b us w σ H) {x : Exn} (q : XN K z oi b us w σ H x (w.put e)) : XS K (z.atN oi) (b.B K us w.al) σ H w.v x e := fun cls dp σ' H' I' m ha =>
  q cls dp σ' H' us (M.plain I' m) (M.mvP I' m) (ha.mv fun a => ((M.put_sr I').2 a).1)
end
/-- a plain piece -/
def R.upN {α β : Type} (w : Wo) (k : α → R Wo β) : R En α → R Wo β
  | .stuck => .stuck
  | .ok a => k a
  | .err x e => .err x (w.put e)
def nE (f : EF) : Wo → R Wo (D × Wo) := fun w => (f w.v).upN w fun p => .ok (p.1, w.put p.2)
def nT (f : En → R En (Bool × En)) : Wo → R Wo (Bool × Wo) := fun w => (f w.v).upN w fun p => .ok (p.1, w.put p.2)
def nS (g : SF) : NF := fun w => (g w.v).upN w fun o => match o with
  | .nx e => .ok (.nx (w.put e))
  | .rt d e => .ok (.rt d (w.put e))
  | _ => .stuck
def nNil : NF := fun w => .ok (.nx w)
def nSeq (g h : NF) : NF := fun w => (g w).bind fun o => match o with
  | .nx w => h w
  | o => .ok o
def nIf (t : Wo → R Wo (Bool × Wo)) (g h : NF) : NF := fun w => (t w).bind fun p => if p.1 = true then g p.2 else h p.2
def nNot (f : Wo → R Wo (Bool × Wo)) : Wo → R Wo (Bool × Wo) := fun w => (f w).bind fun p => .ok (!p.1, p.2)
def nOr (f g : Wo → R Wo (Bool × Wo)) : Wo → R Wo (Bool × Wo) := fun w => (f w).bind fun p => if p.1 = true then .ok (true, p.2) else g p.2
def nBool (f : Wo → R Wo (D × Wo)) : Wo → R Wo (Bool × Wo) := fun w => (f w).bind fun p => match p.1 with
  | .bool c => .ok (c, p.2)
  | _ => .stuck
def nAndV (f g : Wo → R Wo (D × Wo)) : Wo → R Wo (D × Wo) := fun w => (f w).bind fun p => match p.1 with
  | .bool true => g p.2
  | .bool false => .ok (.bool false, p.2)
  | _ => .stuck
def nRet (f : Wo → R Wo (D × Wo)) : NF := fun w => (f w).bind fun p => .ok (.rt p.1 p.2)
def nExpr (f : Wo → R Wo (D × Wo)) : NF := fun w => (f w).bind fun p => .ok (.nx p.2)
/-- a comparison: the value on the left stands in no object -/
def nCmp (h : D → D → Option D) (f g : Wo → R Wo (D × Wo)) : Wo → R Wo (D × Wo) := fun w => (f w).bind fun p => if flatD p.1 = true then (g p.2).bind fun q => match h p.1 q.1 with
  | some (.bool c) => .ok (.bool c, q.2)
  | _ => .stuck
  else .stuck
section
variable {X : Cx} {z : Z} {oi : List Nat} {st : Stmt} {sts : List Stmt} {e a c : Expr} {rest : List Expr} {pos : Pos}
theorem ne_plain {fr : Bool} {f : EF} (h : DE (z.atN oi) X fr e f) : NE z X oi e (nE f) := pe_weak h fun σ H Q ⟨b, us, w, M, q⟩ => ⟨b.B X.K us w.al, w.v, M.see.1, by
  unfold nE at q
  cases hf : f w.v with
  | stuck => rw [hf] at q; exact q.elim
  | err x e' => rw [hf] at q; exact (M.xs q).xp
  | ok r => rw [hf] at q; exact fun v H' I' m a _ => q v H' us (M.plain I' m) (M.mvP I' m) (a.mv (M.mvp I'))⟩
theorem nt_plain {f : En → R En (Bool × En)} (h : DT (z.atN oi) X e f) : NT z X oi e (nT f) := pt_weak h fun σ H Q ⟨b, us, w, M, q⟩ => ⟨b.B X.K us w.al, w.v, M.see.1, by
  unfold nT at q
  cases hf : f w.v with
  | stuck => rw [hf] at q; exact q.elim
  | err x e' => rw [hf] at q; exact (M.xs q).xp
  | ok r => rw [hf] at q; exact fun H' I' m => q H' us (M.plain I' m) (M.mvP I' m)⟩
theorem ns_plain {fr : Bool} {g : SF} (h : DS (z.atN oi) X fr st g) : NS z X oi st (nS g) := ps_weak h fun Dd σ H ⟨b, us, w, M, q⟩ => ⟨b.B X.K us w.al, w.v, M.see.1, by
  unfold nS at q
  cases hf : g w.v with
  | stuck => rw [hf] at q; exact q.elim
  | err x e' => rw [hf] at q; exact M.xs q
  | ok r =>
    rw [hf] at q
    cases r with
    | nx e' => exact fun σ' H' I' m => q σ' H' us (M.plain I' m) (M.mvP I' m)
    | rt d e' => exact fun v σ' H' I' m ro _ => q v σ' H' us (M.plain I' m) (M.mvP I' m) ro.1
    | bk e' => exact q.elim
    | ct e' => exact q.elim⟩
theorem nss_nil : NSs z X oi [] nNil := pss_weak pss_nil fun Dd σ H ⟨b, us, w, M, q⟩ => q σ H us M .refl
theorem nss_cons {g h : NF} (h1 : NS z X oi st g) (h2 : NSs z X oi sts h) : NSs z X oi (st :: sts) (nSeq g h) := pss_weak (pss_cons h1 h2) fun Dd σ H ⟨b, us, w, M, q⟩ =>
  ⟨b, us, w, M, (R.post_bind q).imp (fun o ho => by
    cases o with
    | nx w' => exact fun σ' H' us' M' m' => ⟨b, us', w', M', R.post.imp ho (fun o q => q.step m') fun x e q => q.step m'⟩
    | rt d w' => exact ho
    | ro k w' => exact ho) fun _ _ q => q⟩
theorem nss_one {g : NF} (h1 : NS z X oi st g) : NSs z X oi [st] g := pss_one h1
theorem ns_if {t : Wo → R Wo (Bool × Wo)} {g h : NF} {sa sb : List Stmt} (hc : NT z X oi e t) (ha : NSs z X oi sa g) (hb : NSs z X oi sb h) : NS z X oi (.If e sa sb pos) (nIf t g h) := ps_weak (ps_if hc ha hb) fun Dd σ H ⟨b, us, w, M, q⟩ =>
  ⟨b, us, w, M, (R.post_bind q).imp (fun p hp H' us' M' m' => by
    obtain ⟨c, w'⟩ := p
    cases c with
    | true => exact ⟨b, us', w', M', R.post.imp hp (fun o q => q.step m') fun x e q => q.step m'⟩
    | false => exact ⟨b, us', w', M', R.post.imp hp (fun o q => q.step m') fun x e q => q.step m'⟩) fun _ _ q => q⟩
theorem nt_not {f : Wo → R Wo (Bool × Wo)} (ha : NT z X oi a f) : NT z X oi (.UnaryOp .Not a pos) (nNot f) := pt_weak (pt_not ha) fun σ H Q ⟨b, us, w, M, q⟩ =>
  ⟨b, us, w, M, (R.post_bind q).imp (fun p hp H' us' M' m' => hp H' us' M' m') fun _ _ q => q⟩
theorem nw_one' {f : Wo → R Wo (Bool × Wo)} (ha : NT z X oi a f) : NW z X oi (.BoolOp .Or [a] pos) f := pw_or1 ha
theorem nw_or {f g : Wo → R Wo (Bool × Wo)} (ha : NT z X oi a f) (hb : NW z X oi (.BoolOp .Or (c :: rest) pos) g) : NW z X oi (.BoolOp .Or (a :: c :: rest) pos) (nOr f g) := pw_weak (pw_or ha hb) fun σ H Q ⟨b, us, w, M, q⟩ =>
  ⟨b, us, w, M, (R.post_bind q).imp (fun p hp H' us' M' m' => by
    obtain ⟨c, w'⟩ := p
    cases c with
    | true => exact hp H' us' M' m'
    | false => exact ⟨b, us', w', M', R.post.imp hp (fun o q => q.step m') fun x e q => q.step m'⟩) fun _ _ q => q⟩
theorem nt_val {f : Wo → R Wo (D × Wo)} (h : NE z X oi e f) (he : ∀ whole, isTrue e X.env whole = (do let v ← whole; standAt e.pos; holding [v] (truthy v)) := by intro _; rfl) : NT z X oi e (nBool f) := pt_weak (pt_val h he) fun σ H Q ⟨b, us, w, M, q⟩ =>
  ⟨b, us, w, M, (R.post_bind q).imp (fun p hp v H' us' M' m' a' => by
    obtain ⟨d, w'⟩ := p
    cases d with
    | bool c =>
      cases a'
      exact ⟨c, rfl, hp H' us' M' m'⟩
    | _ => exact hp.elim) fun _ _ q => q⟩
theorem ne_one {op} {f : Wo → R Wo (D × Wo)} (ha : NE z X oi a f) : NE z X oi (.BoolOp op [a] pos) f := pe_one ha
theorem ne_and {f g : Wo → R Wo (D × Wo)} (ha : NE z X oi a f) (hb : NE z X oi (.BoolOp .And (c :: rest) pos) g) : NE z X oi (.BoolOp .And (a :: c :: rest) pos) (nAndV f g) := pe_weak (pe_and ha hb) fun σ H Q ⟨b, us, w, M, q⟩ =>
  ⟨b, us, w, M, (R.post_bind q).imp (fun p hp v H' us' M' m' a' => by
    obtain ⟨d, w'⟩ := p
    cases d with
    | bool c =>
      cases a'
      refine ⟨c, rfl, ?_⟩
      cases c with
      | true => exact ⟨b, us', w', M', R.post.imp hp (fun o q => q.step m') fun x e q => q.step m'⟩
      | false => exact hp _ H' us' M' m' (.bl false)
    | _ => exact hp.elim) fun _ _ q => q⟩
theorem ns_ret {f : Wo → R Wo (D × Wo)} (h : NE z X oi e f) : NS z X oi (.Return (some e) pos) (nRet f) := ps_weak (ps_ret h) fun Dd σ H ⟨b, us, w, M, q⟩ =>
  ⟨b, us, w, M, (R.post_bind q).imp (fun p hp v H' us' M' m' a' => hp v σ H' us' M' m' (a'.mv (Mv.less M'.sr.op))) fun _ _ q => q⟩
theorem ns_expr {f : Wo → R Wo (D × Wo)} (h : NE z X oi e f) (hs : swapsWith e none pos.line X.env = pure false := by rfl) : NS z X oi (.Expr e pos) (nExpr f) := ps_weak (ps_expr h hs) fun Dd σ H ⟨b, us, w, M, q⟩ =>
  ⟨b, us, w, M, (R.post_bind q).imp (fun p hp v H' us' M' m' a' => hp σ H' us' M' m') fun _ _ q => q⟩
theorem at_flat {K : PySem.W.Frag} {O O' : Addr → Prop} {H H' : Hp} {v : V} {d : D} (h : At K O H v d) (hf : flatD d = true) : At K O' H' v d := by
  cases h with
  | non => exact .non
  | bl b => exact .bl b
  | int i => exact .int i
  | str i => exact .str i
  | _ => cases hf
theorem cmpN_sem {fr : Bool} {r : R2} {h : D → D → Option D} {f g : Wo → R Wo (D × Wo)} (sem : ∀ (O : Addr → Prop) (H : Hp) (x y : V) (d e w : D) (Q : VK), Od O H → At X.K O H x d → At X.K O H y e → h d e = some w → (∀ v H', Res X.K fr O H H' v w → Q v H') → r x y H Q)
    {σ : Sg} {H : Hp} {Q : VK} (q : tEN X.K z oi (nCmp h f g) σ H Q) : tOp r (tEN X.K z oi f) (tEN X.K z oi g) σ H Q := by
  obtain ⟨b, us, w, M, q⟩ := q
  refine ⟨b, us, w, M, (R.post_bind q).imp (fun p hp x H1 us1 M1 m1 a1 => ?_) fun _ _ q => q⟩
  split at hp
  · rename_i hfl
    refine ⟨b, us1, p.2, M1, (R.post_bind hp).imp (fun p2 hp2 y H2 us2 M2 m2 a2 => ?_) fun _ _ q => q.step m1⟩
    split at hp2
    · rename_i c' hw
      refine sem _ H2 x y _ _ _ _ M2.sr.od (at_flat a1 hfl) a2 hw fun v H' hr => ?_
      obtain ⟨ex, a, _⟩ := hr
      exact hp2 v H' us2 (M2.ex ex) ((m1.trans m2).trans (Mv.ex ex)) a
    · exact hp2.elim
  · exact hp.elim
theorem nt_cmp {op : CmpOp} {fr : Bool} {h : D → D → Option D} {f g : Wo → R Wo (D × Wo)} (ho : OpD X (compareOp op) fr h) (ha : NE z X oi a f) (hb : NE z X oi c g) (hm : behindInMarks op c = false) : NT z X oi (.Compare a [op] [c] pos) (nBool (nCmp h f g)) := by
  obtain ⟨r, hr, sem⟩ := ho
  refine pt_weak (pt_cmpR hr ha hb hm) fun σ H Q q => cmpN_sem (Q := fun x H' => ∃ k, x = .bl k ∧ Q k H') sem ?_
  obtain ⟨b, us, w, M, q⟩ := q
  refine ⟨b, us, w, M, (R.post_bind q).imp (fun p hp v H' us' M' m' a' => ?_) fun _ _ q => q⟩
  obtain ⟨d, w'⟩ := p
  cases d with
  | bool c =>
    cases a'
    exact ⟨c, rfl, hp H' us' M' m'⟩
  | _ => exact hp.elim
end
end DL
namespace DL
open PySem PySem.Spec PyProof.Rows L2
theorem okSl_get {env : En} {j : Nat} {s : Sl} (h : env.all okSl = true) (e : env[j]? = some (some s)) : okSl (some s) = true := List.all_eq_true.mp h _ (List.mem_of_getElem? e)
theorem nd_idx : ∀ {us : List Ob} {u v : Ob} {j k : Nat}, (cells us).Nodup → us[j]? = some u → us[k]? = some v → u.a = v.a ∨ u.p = v.p → j = k
  | [], _, _, _, _, _, h, _, _ => by simp at h
  | w :: r, u, v, j, k, nd, hu, hv, e => by
    unfold cells at nd
    simp only [List.nodup_cons, List.mem_cons, not_or] at nd
    obtain ⟨⟨n1, n2⟩, n3, n4⟩ := nd
    cases j with
    | zero =>
      cases k with
      | zero => rfl
      | succ k =>
        have hu : w = u := by simpa using hu
        have mv : v ∈ r := List.mem_of_getElem? (i := k) (by simpa using hv)
        have i1 : v.a ∈ cells r := mem_cells.2 ⟨v, mv, .inl rfl⟩
        have i2 : v.p ∈ cells r := mem_cells.2 ⟨v, mv, .inr rfl⟩
        rw [← hu] at e
        rcases e with e | e
        · exact absurd (e ▸ i1) n2
        · exact absurd (e ▸ i2) n3
    | succ j =>
      have mu : u ∈ r := List.mem_of_getElem? (i := j) (by simpa using hu)
      have i1 : u.a ∈ cells r := mem_cells.2 ⟨u, mu, .inl rfl⟩
      have i2 : u.p ∈ cells r := mem_cells.2 ⟨u, mu, .inr rfl⟩
      cases k with
      | zero =>
        have hv : w = v := by simpa using hv
        rw [← hv] at e
        rcases e with e | e
        · exact absurd (e ▸ i1) n2
        · exact absurd (e ▸ i2) n3
      | succ k => exact congrArg (· + 1) (nd_idx n4 (by simpa using hu) (by simpa using hv) e)
section
variable {K : PySem.W.Frag} {O : Addr → Prop} {H : Hp}
theorem at_plusN {d : D} {v : V} (hd : noDct d = true) : ∀ {us : List Ob} {O : Addr → Prop}, (∀ u ∈ us, H u.a = some (insO K u)) → At K O H v d → At K (fun x => O x ∨ ∃ u ∈ us, x = u.a) H v d
  | [], O, _, a => a.mv (Mv.less fun x w => w.elim id fun ⟨u, h, _⟩ => by cases h)
  | u :: r, O, h, a => (at_plusN hd (us := r) (O := plus O u.a) (fun v hv => h v (List.mem_cons_of_mem _ hv)) (At.plus (h u (List.mem_cons_self ..)) a hd)).mv (Mv.less fun x w => by
    rcases w with w | ⟨v, hv, e⟩
    · exact .inl (.inl w)
    · rcases List.mem_cons.mp hv with rfl | hv
      · exact .inl (.inr e)
      · exact .inr ⟨v, hv, e⟩)
theorem all_plusN {us : List Ob} (hu : ∀ u ∈ us, H u.a = some (insO K u)) : ∀ {vs : List V} {ds : List D}, AtAll K O H vs ds → noDctAll ds = true → AtAll K (fun x => O x ∨ ∃ u ∈ us, x = u.a) H vs ds
  | _, _, .nil, _ => .nil
  | _, _, .cons x r, h => by
    simp only [noDctAll, Bool.and_eq_true] at h
    exact .cons (at_plusN h.1 hu x) (all_plusN hu r h.2)
theorem past_plusN {us : List Ob} (hu : ∀ u ∈ us, H u.a = some (insO K u)) : ∀ {vs : List V} {ls : List (List D)}, AtAll K O H vs (ls.map PyData.list) → (∀ l ∈ ls, noDctAll l = true) → AtAll K (fun x => O x ∨ ∃ u ∈ us, x = u.a) H vs (ls.map PyData.list)
  | _, [], .nil, _ => .nil
  | _, l :: ls, .cons x r, h => .cons (at_plusN (by simpa only [noDct] using h l (List.mem_cons_self ..)) hu x) (past_plusN hu r fun l' hl => h l' (List.mem_cons_of_mem _ hl))
theorem ObAt.plusN {us : List Ob} {u : Ob} {o : Ost} (hu : ∀ u ∈ us, H u.a = some (insO K u)) (h : ObAt K O H u o) : ObAt K (fun x => O x ∨ ∃ u ∈ us, x = u.a) H u o :=
  ⟨h.m, at_plusN (by simpa only [noDct] using h.okn) hu h.now, past_plusN hu h.past h.okp, h.okn, h.okp⟩
end
/-- the heap behind a change -/
def wrO (K : PySem.W.Frag) (H : Hp) (u u' : Ob) : Hp := upd (upd H u.p (.lst u'.xs)) u.a (insO K u')
section
variable {K : PySem.W.Frag} {z : Z} {oi : List Nat} {b : Bn} {us us1 us' : List Ob} {w w1 : Wo} {σ σ1 σ' : Sg} {H H1 H' : Hp} {e e' : En} {u u' : Ob} {o o' : Ost} {k : Nat}
theorem ON.mem (M : ON K z oi b us w σ H) (h : us[k]? = some u) : u ∈ us := List.mem_of_getElem? h
theorem ON.insA (M : ON K z oi b us w σ H) : ∀ u ∈ us, H u.a = some (insO K u) := fun _ h => (M.kept h).1
/-- an object is changed -/
theorem ON.wr (M : ON K z oi b us w σ H) (hu : us[k]? = some u) (ho : w.os[k]? = some o) (ok : w.env.all okSl = true) (ex : Ex H H1)
    (ha : u'.a = u.a) (hp : u'.p = u.p) (hx : u'.dx = u.dx) (at_ : ObAt K (fun x => (b.B K us w.al).O σ w.env x ∨ ∃ v ∈ us, x = v.a) H1 u' o') :
    ON K z oi b (us.set k u') ⟨w.env, w.os.set k o', w.al⟩ σ (wrO K H1 u u') ∧ Mv (b.P K us w σ) (b.P K (us.set k u') ⟨w.env, w.os.set k o', w.al⟩ σ) H (wrO K H1 u u') := by
  have mu := M.mem hu
  have hk : k < us.length := (List.getElem?_eq_some_iff.mp hu).1
  have nap : u.a ≠ u.p := nd_ap M.nd mu mu
  have hcs : cells (us.set k u') = cells us := cells_set ha hp hu
  have gt : ∀ {l : Nat} {v : Ob}, (us.set k u')[l]? = some v → (l = k ∧ v = u') ∨ (l ≠ k ∧ us[l]? = some v) := fun {l v} h => by
    by_cases e : l = k
    · subst e
      rw [List.getElem?_set_self hk] at h
      cases h
      exact .inl ⟨rfl, rfl⟩
    · rw [List.getElem?_set_ne (Ne.symm e)] at h
      exact .inr ⟨e, h⟩
  have sa : ∀ {l : Nat} {v : Ob}, (us.set k u')[l]? = some v → ∃ v0, us[l]? = some v0 ∧ v.a = v0.a ∧ v.p = v0.p ∧ v.dx = v0.dx := fun {l v} h => by
    rcases gt h with ⟨rfl, rfl⟩ | ⟨_, h⟩
    · exact ⟨u, hu, ha, hp, hx⟩
    · exact ⟨v, h, rfl, rfl, rfl⟩
  have as : ∀ {l : Nat} {v : Ob}, us[l]? = some v → ∃ v1, (us.set k u')[l]? = some v1 ∧ v1.a = v.a ∧ v1.p = v.p ∧ v1.dx = v.dx := fun {l v} h => by
    by_cases e : l = k
    · subst e
      rw [hu] at h
      cases h
      exact ⟨u', List.getElem?_set_self hk, ha, hp, hx⟩
    · exact ⟨v, by rw [List.getElem?_set_ne (Ne.symm e)]; exact h, rfl, rfl, rfl⟩
  have psame : ∀ x, (∃ v ∈ us.set k u', x = v.p) ↔ ∃ v ∈ us, x = v.p := fun x => by
    constructor
    · rintro ⟨v, hv, e⟩
      obtain ⟨l, hl⟩ := List.getElem?_of_mem hv
      obtain ⟨v0, h1, _, h2, _⟩ := sa hl
      exact ⟨v0, List.mem_of_getElem? h1, e.trans h2⟩
    · rintro ⟨v, hv, e⟩
      obtain ⟨l, hl⟩ := List.getElem?_of_mem hv
      obtain ⟨v0, h1, _, h2, _⟩ := as hl
      exact ⟨v0, List.mem_of_getElem? h1, e.trans h2.symm⟩
  have asame : ∀ x, (∃ v ∈ us.set k u', x = v.a) ↔ ∃ v ∈ us, x = v.a := fun x => by
    constructor
    · rintro ⟨v, hv, e⟩
      obtain ⟨l, hl⟩ := List.getElem?_of_mem hv
      obtain ⟨v0, h1, h2, _⟩ := sa hl
      exact ⟨v0, List.mem_of_getElem? h1, e.trans h2⟩
    · rintro ⟨v, hv, e⟩
      obtain ⟨l, hl⟩ := List.getElem?_of_mem hv
      obtain ⟨v0, h1, h2, _⟩ := as hl
      exact ⟨v0, List.mem_of_getElem? h1, e.trans h2.symm⟩
  have eO : ∀ x, (b.B K (us.set k u') w.al).O σ w.env x ↔ (b.B K us w.al).O σ w.env x := fun x =>
    ⟨fun q => q.elim (fun q => .inl (q.elim .inl fun q => .inr ((psame x).1 q))) .inr, fun q => q.elim (fun q => .inl (q.elim .inl fun q => .inr ((psame x).2 q))) .inr⟩
  have hb : ∀ x, x ≠ u.a → x ≠ u.p → wrO K H1 u u' x = H1 x := fun x n1 n2 => by
    unfold wrO
    rw [upd_ne n1, upd_ne n2]
  have hA : wrO K H1 u u' u.a = some (insO K u') := upd_same
  have hP : wrO K H1 u u' u.p = some (.lst u'.xs) := by
    unfold wrO
    rw [upd_ne (Ne.symm nap), upd_same]
  have hdom : ∀ x, wrO K H1 u u' x = none → H x = none := fun x e => by
    by_cases n1 : x = u.a
    · rw [n1, hA] at e; cases e
    · by_cases n2 : x = u.p
      · rw [n2, hP] at e; cases e
      · rw [hb x n1 n2] at e
        exact Ex.dom ex x e
  have oP : (b.B K us w.al).O σ w.env u.p := .inl (.inr ⟨u, mu, rfl⟩)
  -- from the place with the objects' cells to the new heap
  have mvx : ∀ {O' : Addr → Prop}, (∀ x, O' x → (b.B K us w.al).O σ w.env x ∨ ∃ v ∈ us, x = v.a) → Mv (fun x => (b.B K us w.al).O σ w.env x ∨ ∃ v ∈ us, x = v.a) O' H1 (wrO K H1 u u') := fun {O'} hO =>
    ⟨fun x o h n => by rw [hb x (fun e => n (.inr ⟨u, mu, e⟩)) (fun e => n (.inl (e ▸ oP)))]; exact h, fun x q => .inl (hO x q), fun x e => by
      by_cases n1 : x = u.a
      · rw [n1, hA] at e; cases e
      · by_cases n2 : x = u.p
        · rw [n2, hP] at e; cases e
        · rw [hb x n1 n2] at e; exact e⟩
  have mvH : Mv (fun x => (b.B K us w.al).O σ w.env x ∨ ∃ v ∈ us, x = v.a) ((b.B K (us.set k u') w.al).O σ w.env) H (wrO K H1 u u') := (Mv.ex ex).trans (mvx fun x q => .inl ((eO x).1 q))
  have keep : ∀ x o, H x = some o → x ≠ u.a → x ≠ u.p → wrO K H1 u u' x = some o := fun x o h n1 n2 => by
    rw [hb x n1 n2]
    exact ex x o h
  have ncell : ∀ i x, ownedAt σ w.env i x → x ∉ cells us := fun i x h q => by
    have h1 : kpN K us x = none := M.sr.kpo i x h
    obtain ⟨v, hv, q⟩ := mem_cells.1 q
    rcases q with q | q
    · rw [q, (kpN_of M.nd hv).1] at h1; cases h1
    · rw [q, (kpN_of M.nd hv).2] at h1; cases h1
  have hsr : SR K (oi ++ z.np) (b.B K (us.set k u') w.al) σ (wrO K H1 u u') w.env := by
    refine M.sr.to rfl rfl (fun i s v he hv q => ?_) (fun x o h0 _ h => ?_) hdom (fun x q => ?_) (fun x o h => ?_) (fun i x h => ?_) (fun i x h q => ?_) (fun p hp => List.mem_append.2 (.inr (M.pz p hp).1)) fun p hp => ?_
    · have oks := okSl_get ok he
      cases s with
      | im d => exact (at_plusN oks M.insA q).mv mvH
      | ow ds =>
        obtain ⟨c, xs, rfl, hO, hc, r⟩ := q
        have nc := ncell i c ⟨_, he, rfl, hv⟩
        refine ⟨c, xs, rfl, (eO c).2 hO, keep c _ hc (fun e => nc (mem_cells.2 ⟨u, mu, .inl e⟩)) (fun e => nc (mem_cells.2 ⟨u, mu, .inr e⟩)), (all_plusN M.insA r oks).mv mvH⟩
      | dk kvs => cases oks
      | db kvs => cases oks
    · have h0 : b.H0 x = some o := h0
      exact keep x o h (fun e => by rw [e, (M.fr u mu).1] at h0; cases h0) (fun e => by rw [e, (M.fr u mu).2.1] at h0; cases h0)
    · have q' : (b.B K us w.al).O0 x := q.elim .inl fun q => .inr ((psame x).1 q)
      obtain ⟨h1, h2⟩ := M.sr.o0 x q'
      exact ⟨fun e => h1 (hdom x e), h2⟩
    · obtain ⟨v, hv, q⟩ := kpN_inv h
      obtain ⟨l, hl⟩ := List.getElem?_of_mem hv
      rcases gt hl with ⟨rfl, rfl⟩ | ⟨nl, hl⟩
      · rcases q with ⟨rfl, rfl⟩ | ⟨rfl, rfl⟩
        · rw [ha]; exact hA
        · rw [hp]; exact hP
      · have mv := M.mem hl
        have n1 : v.a ≠ u.a := fun e => nl (nd_idx M.nd hl hu (.inl e))
        have n2 : v.p ≠ u.p := fun e => nl (nd_idx M.nd hl hu (.inr e))
        rcases q with ⟨rfl, rfl⟩ | ⟨rfl, rfl⟩
        · exact keep _ _ (M.kept mv).1 n1 (nd_ap M.nd mv mu)
        · exact keep _ _ (M.kept mv).2 (fun e => nd_ap M.nd mu mv e.symm) n2
    · refine kpN_none ?_
      rw [hcs]
      exact ncell i x h
    · exact M.sr.own0 i x h (q.elim .inl fun q => .inr ((psame x).1 q))
    · obtain ⟨l, v, h1, h2, h3⟩ := fxN_mem hp
      obtain ⟨v0, h4, h5, _⟩ := sa h2
      have := M.sr.fix _ (mem_fxN h1 h4)
      rw [h3, h5]
      exact this
  refine ⟨⟨hsr, M.st, by rw [List.length_set, List.length_set]; exact M.len, fun l v o1 h1 h2 => ?_, fun q hq => by rw [List.length_set]; exact M.al q hq, M.em, by rw [hcs]; exact M.nd, fun v hv => ?_, fun l q hq => ?_, M.pz⟩, ?_⟩
  · rcases gt h1 with ⟨rfl, rfl⟩ | ⟨nl, h1⟩
    · have : o1 = o' := by
        have hl : l < w.os.length := by rw [← M.len]; exact hk
        have h2 : (w.os.set l o')[l]? = some o1 := h2
        rw [List.getElem?_set_self hl] at h2
        cases h2; rfl
      subst this
      exact at_.mv (mvx fun x q => .inl ((eO x).1 q))
    · have h2 : (w.os.set k o')[l]? = some o1 := h2
      rw [List.getElem?_set_ne (Ne.symm nl)] at h2
      exact ((M.ob l v o1 h1 h2).plusN M.insA).mv mvH
  · obtain ⟨l, hl⟩ := List.getElem?_of_mem hv
    obtain ⟨v0, h1, h2, h3, _⟩ := sa hl
    rw [h2, h3]
    exact M.fr v0 (M.mem h1)
  · obtain ⟨v, h1, h2⟩ := M.qs l q hq
    obtain ⟨v1, h3, h4, h5, h6⟩ := as h1
    exact ⟨v1, h3, by rw [h4, h5, h6]; exact h2⟩
  · refine ⟨fun x o h n => keep x o h (fun e => n (.inr ⟨u, mu, e⟩)) (fun e => n (.inl (e ▸ oP))), fun x q => .inl (q.elim (fun q => .inl ((eO x).1 q)) fun q => .inr ((asame x).1 q)), hdom⟩
def bindA (al : List (Nat × Nat)) (i k : Nat) : List (Nat × Nat) := (i, k) :: al.filter fun q => !(q.1 == i)
def Wo.bnd (w : Wo) (i k : Nat) : Wo := ⟨w.env.set i none, w.os, bindA w.al i k⟩
theorem mem_bindA {al : List (Nat × Nat)} {i k : Nat} {q : Nat × Nat} (h : q ∈ bindA al i k) : q = (i, k) ∨ (q ∈ al ∧ q.1 ≠ i) := by
  unfold bindA at h
  rcases List.mem_cons.mp h with h | h
  · exact .inl h
  · rw [List.mem_filter] at h
    refine .inr ⟨h.1, fun e => ?_⟩
    have h2 := h.2
    rw [e] at h2
    simp at h2
theorem ON.bnd (M : ON K z oi b us w σ H) {i : Nat} (hu : us[k]? = some u) (hi : i ∈ oi) (hz : i ∉ z.np) (hl : i < σ.length) :
    ON K z oi b us (w.bnd i k) (σ.set i (some (.ref u.a))) H ∧ Mv (b.P K us w σ) (b.P K us (w.bnd i k) (σ.set i (some (.ref u.a)))) H H := by
  have ow : ∀ j x, ownedAt (σ.set i (some (.ref u.a))) (w.env.set i none) j x → j ≠ i ∧ ownedAt σ w.env j x := fun j x ⟨s, h1, h2, h3⟩ => by
    rcases getElem?_set_some h1 with ⟨_, e⟩ | ⟨e, h1⟩
    · cases e
    · rw [List.getElem?_set_ne (Ne.symm e)] at h3
      exact ⟨e, s, h1, h2, h3⟩
  have wo : ∀ j x, j ≠ i → ownedAt σ w.env j x → ownedAt (σ.set i (some (.ref u.a))) (w.env.set i none) j x := fun j x n ⟨s, h1, h2, h3⟩ =>
    ⟨s, by rw [List.getElem?_set_ne (Ne.symm n)]; exact h1, h2, by rw [List.getElem?_set_ne (Ne.symm n)]; exact h3⟩
  have less : ∀ x, (b.B K us (bindA w.al i k)).O (σ.set i (some (.ref u.a))) (w.env.set i none) x → (b.B K us w.al).O σ w.env x := fun x q => q.elim .inl fun ⟨j, q⟩ => .inr ⟨j, (ow j x q).2⟩
  have m : Mv ((b.B K us w.al).O σ w.env) ((b.B K us (bindA w.al i k)).O (σ.set i (some (.ref u.a))) (w.env.set i none)) H H := Mv.less less
  have hal : ∀ q ∈ bindA w.al i k, ∀ v, us[q.2]? = some v → (σ.set i (some (.ref u.a)))[q.1]? = some (some (.ref v.a)) := fun q hq v hv => by
    rcases mem_bindA hq with rfl | ⟨h1, h2⟩
    · have hv : us[k]? = some v := hv
      rw [hu] at hv
      cases hv
      exact List.getElem?_set_self hl
    · rw [List.getElem?_set_ne (Ne.symm h2)]
      exact (M.sr.fix _ (mem_fxN (i := q.1) (k := q.2) h1 hv)).1
  refine ⟨⟨⟨by simp only [Wo.bnd, List.length_set]; exact M.sr.len, fun j s hs => ?_, fun j l x h1 h2 => M.sr.dist j l x (ow j x h1).2 (ow l x h2).2, M.sr.keep, M.sr.dom, fun j x h => M.sr.new j x (ow j x h).2, M.sr.o0, M.sr.kept, fun j x h => M.sr.kpo j x (ow j x h).2, fun j x h => M.sr.own0 j x (ow j x h).2, fun p hp => ?_, fun p hp => ?_⟩,
    M.st, M.len, fun l v o h1 h2 => (M.ob l v o h1 h2).mv m, fun q hq => ?_, fun q hq s hs => ?_, M.nd, M.fr, M.qs, M.pz⟩, Mv.less fun x q => q.elim (fun q => .inl (less x q)) .inr⟩
  · rcases getElem?_set_some hs with ⟨_, e⟩ | ⟨e, h1⟩
    · cases e
    · obtain ⟨v, ev, q⟩ := M.sr.slot j s h1
      exact ⟨v, by rw [List.getElem?_set_ne (Ne.symm e)]; exact ev, q.mv m (fun a ea ho => .inr ⟨j, wo j a e ⟨s, h1, ho, ea ▸ ev⟩⟩) fun _ _ _ _ z => z⟩
  · obtain ⟨h1, h2, _⟩ := M.sr.par p hp
    exact ⟨wo _ _ (fun e => hz (e ▸ (M.pz p hp).1)) h1, h2, List.mem_append.2 (.inr (M.pz p hp).1)⟩
  · obtain ⟨l, v, h1, h2, h3⟩ := fxN_mem hp
    refine ⟨by rw [h3]; exact hal _ h1 v h2, ?_⟩
    rcases mem_bindA h1 with e | ⟨h1, _⟩
    · exact List.mem_append.2 (.inl (by cases e; exact hi))
    · exact List.mem_append.2 (.inl (M.al _ h1).1)
  · rcases mem_bindA hq with rfl | ⟨h1, h2⟩
    · exact ⟨hi, (List.getElem?_eq_some_iff.mp hu).1⟩
    · exact M.al q h1
  · rcases getElem?_set_some hs with ⟨_, e⟩ | ⟨e, h1⟩
    · cases e
    · rcases mem_bindA hq with rfl | ⟨h3, h2⟩
      · exact e rfl
      · exact M.em q h3 s h1
def Wo.cut (w : Wo) (n : Nat) : Wo := ⟨w.env, w.os.take n, w.al.filter fun q => q.2 < n⟩
theorem cells_take : ∀ {us : List Ob} {n : Nat}, (cells us).Nodup → (cells (us.take n)).Nodup
  | [], n, h => by simpa [List.take_nil] using h
  | u :: r, 0, h => by simp [cells]
  | u :: r, n + 1, h => by
    have sub : ∀ x, x ∈ cells (r.take n) → x ∈ cells r := fun x q => by
      obtain ⟨v, hv, q⟩ := mem_cells.1 q
      exact mem_cells.2 ⟨v, List.mem_of_mem_take hv, q⟩
    rw [List.take_succ_cons]
    unfold cells at h ⊢
    simp only [List.nodup_cons, List.mem_cons, not_or] at h ⊢
    obtain ⟨⟨n1, n2⟩, n3, n4⟩ := h
    exact ⟨⟨n1, fun q => n2 (sub _ q)⟩, fun q => n3 (sub _ q), cells_take n4⟩
theorem ON.cut (M : ON K z oi b us w σ H) {n : Nat} (hq : ∀ (k : Nat) (q : Addr × Addr × Addr), b.qs[k]? = some q → k < n) :
    ON K z oi b (us.take n) (w.cut n) σ H ∧ Mv (b.P K us w σ) (b.P K (us.take n) (w.cut n) σ) H H := by
  have sub : ∀ v ∈ us.take n, v ∈ us := fun v hv => List.mem_of_mem_take hv
  have less : ∀ x, (b.B K (us.take n) (w.al.filter fun q => q.2 < n)).O σ w.env x → (b.B K us w.al).O σ w.env x := fun x q => q.elim (fun q => .inl (q.elim .inl fun ⟨v, hv, e⟩ => .inr ⟨v, sub v hv, e⟩)) .inr
  have m : Mv ((b.B K us w.al).O σ w.env) ((b.B K (us.take n) (w.al.filter fun q => q.2 < n)).O σ w.env) H H := Mv.less less
  have gt : ∀ {l : Nat} {v : Ob}, (us.take n)[l]? = some v → l < n ∧ us[l]? = some v := fun {l v} h => by
    rw [List.getElem?_take] at h
    split at h
    · rename_i hl
      exact ⟨hl, h⟩
    · cases h
  have hkp : ∀ x o, kpN K (us.take n) x = some o → kpN K us x = some o := fun x o h => by
    obtain ⟨v, hv, q⟩ := kpN_inv h
    rcases q with ⟨rfl, rfl⟩ | ⟨rfl, rfl⟩
    · exact (kpN_of M.nd (sub v hv)).1
    · exact (kpN_of M.nd (sub v hv)).2
  refine ⟨⟨M.sr.to rfl rfl (fun i s v he hv q => q.mv m (fun a ea ho => .inr ⟨i, s, he, ho, ea ▸ hv⟩) fun _ _ _ _ z => z) (fun _ _ _ _ h => h) (fun _ h => h) (fun x q => M.sr.o0 x (q.elim .inl fun ⟨v, hv, e⟩ => .inr ⟨v, sub v hv, e⟩)) (fun x o h => M.sr.kept x o (hkp x o h))
      (fun i x h => ?_) (fun i x h q => M.sr.own0 i x h (q.elim .inl fun ⟨v, hv, e⟩ => .inr ⟨v, sub v hv, e⟩)) (fun p hp => List.mem_append.2 (.inr (M.pz p hp).1)) (fun p hp => ?_),
    M.st, by simp only [Wo.cut, List.length_take]; rw [M.len], fun l v o h1 h2 => ?_, fun q hq => ?_, fun q hq => ?_, cells_take M.nd, fun v hv => M.fr v (sub v hv), fun l q h => ?_, M.pz⟩, Mv.less fun x q => q.elim (fun q => .inl (less x q)) fun ⟨v, hv, e⟩ => .inr ⟨v, sub v hv, e⟩⟩
  · cases q : kpN K (us.take n) x with
    | none => exact q
    | some o =>
      have h1 : kpN K us x = none := M.sr.kpo i x h
      rw [hkp x o q] at h1; cases h1
  · obtain ⟨l, v, h1, h2, h3⟩ := fxN_mem hp
    rw [h3]
    exact M.sr.fix _ (mem_fxN (List.mem_filter.mp h1).1 (gt h2).2)
  · have h2 : (w.os.take n)[l]? = some o := h2
    rw [List.getElem?_take, if_pos (gt h1).1] at h2
    exact (M.ob l v o (gt h1).2 h2).mv m
  · have hq := List.mem_filter.mp hq
    obtain ⟨h1, h2⟩ := M.al q hq.1
    refine ⟨h1, ?_⟩
    rw [List.length_take]
    have := of_decide_eq_true hq.2
    omega
  · exact M.em q (List.mem_filter.mp hq).1
  · obtain ⟨v, h1, h2⟩ := M.qs l q h
    exact ⟨v, by rw [List.getElem?_take, if_pos (hq l q h)]; exact h1, h2⟩
/-- a new object -/
theorem ON.new (M : ON K z oi b us w σ H) (ex : Ex H H') (n1 : H u.a = none) (n2 : H u.p = none) (nap : u.a ≠ u.p) (ha : H' u.a = some (insO K u)) (hp : H' u.p = some (.lst u.xs)) (at_ : ObAt K (plus ((b.B K us w.al).O σ w.env) u.p) H' u o) :
    ON K z oi b (us ++ [u]) ⟨w.env, w.os ++ [o], w.al⟩ σ H' ∧ Mv (b.P K us w σ) (b.P K (us ++ [u]) ⟨w.env, w.os ++ [o], w.al⟩ σ) H H' := by
  have nm : ∀ {x : Addr} {o : HO}, H x = some o → x ≠ u.a ∧ x ≠ u.p := fun {x o} h => ⟨(fun e => by rw [e, n1] at h; cases h), (fun e => by rw [e, n2] at h; cases h)⟩
  have nc : u.a ∉ cells us ∧ u.p ∉ cells us := by
    have key : ∀ x, H x = none → x ∉ cells us := fun x hx q => by
      obtain ⟨v, hv, q⟩ := mem_cells.1 q
      rcases q with q | q
      · rw [q, (M.kept hv).1] at hx; cases hx
      · rw [q, (M.kept hv).2] at hx; cases hx
    exact ⟨key _ n1, key _ n2⟩
  have eO : ∀ x, (b.B K (us ++ [u]) w.al).O σ w.env x ↔ plus ((b.B K us w.al).O σ w.env) u.p x := fun x => by
    constructor
    · rintro ((q | ⟨v, hv, e⟩) | q)
      · exact .inl (.inl (.inl q))
      · rcases List.mem_append.mp hv with hv | hv
        · exact .inl (.inl (.inr ⟨v, hv, e⟩))
        · rw [List.mem_singleton.mp hv] at e
          exact .inr e
      · exact .inl (.inr q)
    · rintro (((q | ⟨v, hv, e⟩) | q) | e)
      · exact .inl (.inl q)
      · exact .inl (.inr ⟨v, List.mem_append.2 (.inl hv), e⟩)
      · exact .inr q
      · exact .inl (.inr ⟨u, List.mem_append.2 (.inr (List.mem_singleton.2 rfl)), e⟩)
  have m : Mv ((b.B K us w.al).O σ w.env) ((b.B K (us ++ [u]) w.al).O σ w.env) H H' := ⟨fun x o h _ => ex x o h, fun x q => ((eO x).1 q).elim .inl fun e => .inr (by rw [show x = u.p from e]; exact n2), Ex.dom ex⟩
  have ncell : ∀ i x, ownedAt σ w.env i x → x ∉ cells us := fun i x h q => by
    have h1 : kpN K us x = none := M.sr.kpo i x h
    obtain ⟨v, hv, q⟩ := mem_cells.1 q
    rcases q with q | q
    · rw [q, (kpN_of M.nd hv).1] at h1; cases h1
    · rw [q, (kpN_of M.nd hv).2] at h1; cases h1
  have owH : ∀ i x, ownedAt σ w.env i x → ∃ o, H x = some o := fun i x h => M.sr.odom x (.inr ⟨i, h⟩)
  have hc1 : ∀ x, x ∈ cells (us ++ [u]) ↔ x ∈ cells us ∨ x = u.a ∨ x = u.p := fun x => by
    rw [cells_append, List.mem_append]
    simp [cells]
  have hnd : (cells (us ++ [u])).Nodup := by
    rw [cells_append, List.nodup_append]
    refine ⟨M.nd, by simp [cells, nap], fun x hx y hy => ?_⟩
    simp [cells] at hy
    rintro rfl
    rcases hy with rfl | rfl
    · exact nc.1 hx
    · exact nc.2 hx
  have hfx : ∀ p ∈ fxN (us ++ [u]) w.al, p ∈ fxN us w.al := fun p hp => by
    obtain ⟨l, v, h1, h2, h3⟩ := fxN_mem hp
    have hl := (M.al _ h1).2
    rw [List.getElem?_append_left hl] at h2
    have := mem_fxN h1 h2
    rw [← h3] at this
    exact this
  refine ⟨⟨M.sr.to rfl rfl (fun i s v he hv q => q.mv m (fun a ea ho => .inr ⟨i, s, he, ho, ea ▸ hv⟩) fun a o _ _ h => ex a o h) (fun x o _ _ h => ex x o h) (Ex.dom ex) (fun x q => ?_) (fun x o h => ?_)
      (fun i x h => kpN_none fun q => ?_) (fun i x h q => ?_) (fun p hp => List.mem_append.2 (.inr (M.pz p hp).1)) (fun p hp => M.sr.fix p (hfx p hp)),
    M.st, by simp only [List.length_append, M.len]; rfl, fun l v o1 h1 h2 => ?_, fun q hq => ⟨(M.al q hq).1, by rw [List.length_append]; exact Nat.lt_of_lt_of_le (M.al q hq).2 (Nat.le_add_right ..)⟩, M.em, hnd, fun v hv => ?_, fun l q h => ?_, M.pz⟩, ?_⟩
  · rcases q with q | ⟨v, hv, e⟩
    · obtain ⟨h1, h2⟩ := M.sr.o0 x (.inl q)
      exact ⟨fun e => h1 (Ex.dom ex x e), h2⟩
    · rcases List.mem_append.mp hv with hv | hv
      · obtain ⟨h1, h2⟩ := M.sr.o0 x (.inr ⟨v, hv, e⟩)
        exact ⟨fun e => h1 (Ex.dom ex x e), h2⟩
      · have e : x = u.p := by rw [e, List.mem_singleton.mp hv]
        refine ⟨by rw [e, hp]; simp, fun p hp2 e2 => ?_⟩
        obtain ⟨h1, _⟩ := M.sr.par p hp2
        obtain ⟨o, h2⟩ := owH _ _ h1
        rw [e2, e, n2] at h2; cases h2
  · obtain ⟨v, hv, q⟩ := kpN_inv h
    rcases List.mem_append.mp hv with hv | hv
    · rcases q with ⟨rfl, rfl⟩ | ⟨rfl, rfl⟩
      · exact ex _ _ (M.kept hv).1
      · exact ex _ _ (M.kept hv).2
    · rw [List.mem_singleton.mp hv] at q
      rcases q with ⟨rfl, rfl⟩ | ⟨rfl, rfl⟩
      · exact ha
      · exact hp
  · obtain ⟨o, h2⟩ := owH i x h
    rcases (hc1 x).1 q with q | q | q
    · exact ncell i x h q
    · exact (nm h2).1 q
    · exact (nm h2).2 q
  · rcases q with q | ⟨v, hv, e⟩
    · exact M.sr.own0 i x h (.inl q)
    · rcases List.mem_append.mp hv with hv | hv
      · exact M.sr.own0 i x h (.inr ⟨v, hv, e⟩)
      · obtain ⟨o, h2⟩ := owH i x h
        exact (nm h2).2 (by rw [e, List.mem_singleton.mp hv])
  · by_cases hl : l < us.length
    · have h2 : (w.os ++ [o])[l]? = some o1 := h2
      rw [List.getElem?_append_left hl] at h1
      rw [List.getElem?_append_left (by rw [← M.len]; exact hl)] at h2
      exact (M.ob l v o1 h1 h2).mv m
    · have h2 : (w.os ++ [o])[l]? = some o1 := h2
      have hle : us.length ≤ l := Nat.le_of_not_lt hl
      rw [List.getElem?_append_right hle] at h1
      rw [List.getElem?_append_right (by rw [← M.len]; exact hle)] at h2
      have e0 : l - us.length = 0 := by
        have := (List.getElem?_eq_some_iff.mp h1).1
        simpa using this
      rw [e0] at h1
      rw [← M.len, e0] at h2
      cases h1
      cases h2
      exact at_.mv (Mv.less fun x => (eO x).1)
  · rcases List.mem_append.mp hv with hv | hv
    · exact M.fr v hv
    · rw [List.mem_singleton.mp hv]
      refine ⟨M.sr.dom _ n1, M.sr.dom _ n2, fun q => (M.sr.o0 _ (.inl q)).1 n1, fun q => (M.sr.o0 _ (.inl q)).1 n2⟩
  · obtain ⟨v, h1, h2⟩ := M.qs l q h
    exact ⟨v, by rw [List.getElem?_append_left (List.getElem?_eq_some_iff.mp h1).1]; exact h1, h2⟩
  · refine ⟨fun x o h _ => ex x o h, fun x q => ?_, Ex.dom ex⟩
    rcases q with q | ⟨v, hv, e⟩
    · rcases (eO x).1 q with q | q
      · exact .inl (.inl q)
      · exact .inr (by rw [show x = u.p from q]; exact n2)
    · rcases List.mem_append.mp hv with hv | hv
      · exact .inl (.inr ⟨v, hv, e⟩)
      · exact .inr (by rw [e, List.mem_singleton.mp hv]; exact n1)
end
end DL
namespace DL
open PySem PySem.Spec PyProof.Rows L2
def retV (ret : Option (Nat → Int)) : Option (Nat → V) := ret.map fun r n => .int (r n)
def retD (ret : Option (Nat → Int)) (n : Nat) : D := match ret with
  | none => .none
  | some r => .int (r n)
/-- a method that changes the terms; q: the arguments, the state behind them -/
def wrW (i : Nat) (ret : Option (Nat → Int)) (F : List D → R En (List D)) (args : List D) (w : Wo) : R Wo (D × Wo) := match w.al.lookup i with
  | some k => match w.os[k]? with
    | some o => if w.env.all okSl = true ∧ o.past.length < 1000 then (match F (stiD o.m o.now 0 :: args) with
      | .ok ds => if noDctAll ds = true then .ok (retD ret ds.length, ⟨w.env, w.os.set k ⟨o.m, ds, o.past ++ [o.now]⟩, w.al⟩) else .stuck
      | .err x _ => .err x w
      | .stuck => .stuck) else .stuck
    | none => .stuck
  | none => .stuck
def nWr (i : Nat) (ret : Option (Nat → Int)) (F : List D → R En (List D)) (g : En → R En (List D × En)) : Wo → R Wo (D × Wo) := fun w => match w.al.lookup i with
  | some _ => (g w.v).upN w fun q => wrW i ret F q.1 (w.put q.2)
  | none => .stuck
section
variable {X : Cx} {z : Z} {oi : List Nat} {b : Bn} {us us1 us' : List Ob} {w w1 : Wo} {σ σ1 σ' : Sg} {H H1 H' : Hp} {u u' : Ob} {o o' : Ost} {i j k l : Nat}
theorem wrN_core {ret : Option (Nat → Int)} {F : List D → R En (List D)} {Q : VK} {vs : List V} {args : List D} {k : Nat} (M : ON X.K z oi b us w σ H) (hk : w.al.lookup i = some k) (hu : us[k]? = some u) (a1 : AtAll X.K ((b.B X.K us w.al).O σ w.env) H vs args)
    (q : (wrW i ret F args w).post (EN X.K z oi b us w σ H Q) (XN X.K z oi b us w σ H)) : spWr X.K z.ca (retV ret) F (.ref u.a :: vs) H Q (fun c d H' => z.W c d σ H') := by
  unfold wrW at q
  rw [hk] at q
  dsimp only at q
  split at q
  · rename_i o ho
    split at q
    · rename_i hc
      obtain ⟨hok, hlen⟩ := hc
      have ob := M.ob k u o hu ho
      have mu := M.mem hu
      have hm := ob.m
      have n := ob.now
      have hxl : u.xs.length = o.past.length := by rw [ob.past.length, List.length_map]
      cases n with
      | @lst _ ns _ ll rr =>
      refine ⟨(b.B X.K us w.al).O σ w.env, u.a, u.dx, u.n, u.p, u.m, u.xs, vs, ns, o.now, args, 0, rfl, M.st, (M.kept mu).1, M.nO mu, (M.kept mu).2, .inl (.inr ⟨u, mu, rfl⟩), by rw [sizeLine_eq]; omega, M.sr.od, ll, rr, a1, ?_⟩
      have q : R.post (EN X.K z oi b us w σ H Q) (XN X.K z oi b us w σ H) (match F (stiD u.m o.now (0 : Nat) :: args) with
        | .ok ds => if noDctAll ds = true then .ok (retD ret ds.length, ⟨w.env, w.os.set k ⟨o.m, ds, o.past ++ [o.now]⟩, w.al⟩) else .stuck
        | .err x _ => .err x w
        | .stuck => .stuck) := by rw [hm]; exact q
      cases hF : F (stiD u.m o.now (0 : Nat) :: args) with
      | stuck => rw [hF] at q; exact q.elim
      | err x e' =>
        rw [hF] at q
        exact fun cls dp H' ex hx => q cls dp σ H' us (M.ex ex) (Mv.ex ex) hx
      | ok ds =>
        rw [hF] at q
        dsimp only at q
        split at q
        · rename_i hnd
          intro H1 n' ex at2
          have insH := M.insA
          have insH1 : ∀ v ∈ us, H1 v.a = some (insO X.K v) := fun v hv => ex _ _ (insH v hv)
          have ob' : ObAt X.K (fun x => (b.B X.K us w.al).O σ w.env x ∨ ∃ v ∈ us, x = v.a) H1 ⟨u.a, u.dx, n', u.p, u.m, u.xs ++ [.ref u.n]⟩ ⟨o.m, ds, o.past ++ [o.now]⟩ := by
            have p1 := (ob.plusN insH).mv (Mv.ex ex)
            refine ⟨hm, (at_plusN (by simpa only [noDct] using hnd) insH1 at2).mv (Mv.less fun x q => ?_), ?_, hnd, fun l hl => ?_⟩
            · rcases q with q | q
              · exact .inl (.inl q)
              · exact .inr q
            · rw [List.map_append]
              exact AtAll.append p1.past (.cons p1.now .nil)
            · rcases List.mem_append.mp hl with hl | hl
              · exact ob.okp l hl
              · rw [List.mem_singleton.mp hl]; exact ob.okn
          obtain ⟨M2, m2⟩ := M.wr (u' := ⟨u.a, u.dx, n', u.p, u.m, u.xs ++ [.ref u.n]⟩) hu ho hok ex rfl rfl rfl ob'
          cases ret with
          | none => exact q _ _ _ M2 m2 .non
          | some f => exact q _ _ _ M2 m2 (.int _)
        · exact q.elim
    · exact q.elim
  · exact q.elim
/-- x.m(e, ..) -/
theorem ne_wr {m : Str} {ps : List Str} {x : Str} {ret : Option (Nat → Int)} {F : List D → R En (List D)} {g : En → R En (List D × En)} {e : Expr} {es : List Expr} {p1 p2 p3 : Pos} {pl : Sem Bool} (T : HasM X.prog X.w X.K X.mg X.base m l ps (spWr X.K z.ca (retV ret) F)) (hr : Room k X.A) (hj : l ≤ k) (hgd : X.A.guards = some [])
    (tk : Takes X z.W) (hs : PE X (.Name x p1) (tVar i)) (ha : DA (z.atN oi) X (e :: es) g) (s0 : StI X.K) (hn : ps.length = es.length + 2) (hl : ∀ env p, g env = .ok p → p.1.length = es.length + 1) (hno : noFld m = true := by decide +kernel)
    (hst : starEach (e :: es) X.env = (false, eval e X.env) :: starEach es X.env := by rfl) (hpl : (backTo p3 (starEach es X.env)).any (·.1) = false := by rfl)
    (ht : eval (.Call (.Attribute (.Name x p1) m p2) (e :: es) [] p3) X.env = (do
      let ov ← eval (.Name x p1) X.env
      standAt p2.atName
      let (f, first) ← holding [ov] (getMethod ov m pl)
      callWith p3 f first (backTo p3 (starEach (e :: es) X.env)) (backToKw p3 (keywordEach [] X.env))) := by rfl) :
    NE z X oi (.Call (.Attribute (.Name x p1) m p2) (e :: es) [] p3) (nWr i ret F g) := by
  obtain ⟨fa, fd, hm, hb, G, _⟩ := T
  refine pe_weak (pe_methG (pl := pl) hs s0.cl hm (G.mono hj) hr hgd hb (fun σ => passAt (W := z.W) tk σ) ha hst hpl ht) fun σ H Q ⟨b, us, w, M, q⟩ => ?_
  unfold nWr at q
  cases hk : w.al.lookup i with
  | none => rw [hk] at q; exact q.elim
  | some k0 =>
    rw [hk] at q
    dsimp only at q
    have hkl : k0 < us.length := (M.al _ (lookup_mem hk)).2
    have hu : us[k0]? = some us[k0] := List.getElem?_eq_getElem hkl
    have hσ := M.name hk hu
    refine ⟨_, hσ, us[k0].a, us[k0].dx, _, rfl, (M.kept (M.mem hu)).1, st_no hno, b.B X.K us w.al, w.v, M.see.1, ?_⟩
    cases hg : g w.v with
    | stuck => rw [hg] at q; exact q.elim
    | err x e' => rw [hg] at q; exact (M.xs q).xp
    | ok r =>
      rw [hg] at q
      intro vs H1 I1 m1 a1
      refine ⟨by rw [a1.length, hl _ _ hg, hn], ?_⟩
      have M1 := M.plain I1 m1
      have mp := M.mvP I1 m1
      exact wrN_core M1 hk hu (a1.mv (M.mvp I1)) (R.post.imp q (fun p hp => hp.step mp) fun x e hx => hx.step mp)
/-- x.m(.., k = v, ..); ms: the keyword-only parameters that lack -/
theorem ne_wrK {m q : Str} {st : Stmt} {ps ks : List Str} {x : Str} {kws : List (Str × V)} {ret : Option (Nat → Int)} {F : List D → R En (List D)} {g gk : En → R En (List D × En)} {e : Expr} {es : List Expr} {kwl : List Keyword} {p1 p2 p3 : Pos} {pl : Sem Bool}
    (gt : {α : Type} → List α → List α → List α → List α) (ms : List (Str × V)) (md : List D) (od : Ord gt) (hms : ∀ q ∈ ms, q ∈ kws) (hk : kws ≠ []) (hmd : ∀ (O : Addr → Prop) (H : Hp), AtAll X.K O H (ms.map (·.2)) md)
    (T : HasMK X.prog X.w X.K X.mg X.base m q st kws l ps (spWr X.K z.ca (retV ret) F)) (hr : Room k X.A) (hj : l ≤ k) (hgd : X.A.guards = some [])
    (tk : Takes X z.W) (hs : PE X (.Name x p1) (tVar i)) (ha : DA (z.atN oi) X (e :: es) g) (hkw : PK X kwl (tA X.K (z.atN oi) gk)) (s0 : StI X.K) (hl : ∀ env p, g env = .ok p → p.1.length = es.length + 1) (hlk : ∀ env p, gk env = .ok p → p.1.length = ks.length)
    (hgl : ∀ (us mv ws : List V), us.length = es.length + 1 → mv.length = ms.length → ws.length = ks.length → (gt us mv ws).length + 1 = ps.length)
    (hb : ∀ (D : Addr) (doc pm : Value) (an : Option Addr) (cdv ct : Value) (us mv ws : List Value), us.length = es.length + 1 + 1 → mv.length = ms.length → ws.length = ks.length →
      KwChain D ((ms.map (·.1)).zip mv) (bindArgs (PySem.W.fnOf m q (defArgs st) (defBody st) (defScope st) .none (.ref D) doc pm an cdv ct) ⟨us, ks.zip ws⟩) (ps.zip (consT gt us mv ws))) (hno : noFld m = true := by decide +kernel)
    (hall : (backToKw p3 (keywordEach kwl X.env)).all (·.1.isSome) = true := by rfl) (hks : (backToKw p3 (keywordEach kwl X.env)).filterMap (·.1) = ks := by rfl)
    (hst : starEach (e :: es) X.env = (false, eval e X.env) :: starEach es X.env := by rfl)
    (hpl : ((backTo p3 (starEach (e :: es) X.env)).any (·.1) || (backToKw p3 (keywordEach kwl X.env)).any (·.1.isNone)) = false := by rfl)
    (ht : eval (.Call (.Attribute (.Name x p1) m p2) (e :: es) kwl p3) X.env = (do
      let ov ← eval (.Name x p1) X.env
      standAt p2.atName
      let (f, first) ← holding [ov] (getMethod ov m pl)
      callWith p3 f first (backTo p3 (starEach (e :: es) X.env)) (backToKw p3 (keywordEach kwl X.env))) := by rfl) :
    NE z X oi (.Call (.Attribute (.Name x p1) m p2) (e :: es) kwl p3) (nWr i ret F (gKw gt md g gk)) := by
  obtain ⟨fa, fd, hm, FD, G⟩ := T
  obtain ⟨mv, KB⟩ := FD.kbinds0 (ps := ps) (es.length + 1 + 1) ks ms (fun us mv ws => consT gt us mv ws) hk hms (fun {vs mz zs us mv ws} a b c => by
    cases a with
    | nil => exact .nil
    | cons x r => exact .cons x (od.v r b c)) hb
  have hgl2 : ∀ vs zs : List V, vs.length = es.length + 1 + 1 → zs.length = ks.length → (consT gt vs (ms.map (·.2)) zs).length = ps.length := fun vs zs h1 h2 => by
    match vs with
    | x :: r =>
      show (gt r (ms.map (·.2)) zs).length + 1 = ps.length
      exact hgl r _ zs (by simpa using h1) (by simp) h2
  refine pe_weak (pe_methN (pl := pl) (n := es.length + 1) hs s0.cl hm (G.mono hj) hr hgd KB (fun σ => passAt (W := z.W) tk σ) ha hkw hgl2 hall hks hst hpl ht) fun σ H Q ⟨b, us, w, M, q⟩ => ?_
  unfold nWr at q
  cases hk : w.al.lookup i with
  | none => rw [hk] at q; exact q.elim
  | some k0 =>
    rw [hk] at q
    dsimp only at q
    have hkl : k0 < us.length := (M.al _ (lookup_mem hk)).2
    have hu : us[k0]? = some us[k0] := List.getElem?_eq_getElem hkl
    have hσ := M.name hk hu
    refine ⟨_, hσ, us[k0].a, us[k0].dx, _, rfl, (M.kept (M.mem hu)).1, st_no hno, b.B X.K us w.al, w.v, M.see.1, ?_⟩
    unfold gKw at q
    cases hg : g w.v with
    | stuck => rw [hg] at q; exact q.elim
    | err x e' => rw [hg] at q; exact (M.xs q).xp
    | ok r =>
      rw [hg] at q
      intro vs H1 I1 m1 a1
      refine ⟨b.B X.K us w.al, r.2, I1, ?_⟩
      have q : R.post (EN X.K z oi b us w σ H Q) (XN X.K z oi b us w σ H) (((gk r.2).bind fun q => .ok (gt r.1 md q.1, q.2)).upN w fun q => wrW i ret F q.1 (w.put q.2)) := q
      cases hg2 : gk r.2 with
      | stuck => rw [hg2] at q; exact q.elim
      | err x e' => rw [hg2] at q; exact (M.xs q).xp.step m1
      | ok r2 =>
        rw [hg2] at q
        intro zs H2 I2 m2 a2
        refine ⟨by rw [a1.length, hl _ _ hg], by rw [a2.length, hlk _ _ hg2], rfl, ?_⟩
        have m12 := m1.trans m2
        have M1 := M.plain I2 m12
        have mp := M.mvP I2 m12
        exact wrN_core (args := gt r.1 md r2.1) M1 hk hu ((od.d (AtAll.mv m2 a1) (hmd _ _) a2).mv (M.mvp I2)) (R.post.imp q (fun p hp => hp.step mp) fun x e hx => hx.step mp)
def mkW (F : List D → R En (Int × List D)) (args : List D) (w : Wo) : R Wo Wo := match F args with
  | .ok r => if noDctAll r.2 = true then .ok ⟨w.env, w.os ++ [⟨r.1, r.2, []⟩], w.al⟩ else .stuck
  | .err x _ => .err x w
  | .stuck => .stuck
def nMk (F : List D → R En (Int × List D)) (g : En → R En (List D × En)) : Wo → R Wo Wo := fun w => (g w.v).upN w fun q => mkW F q.1 (w.put q.2)
theorem MN.step {K : PySem.W.Frag} {Q : VK} {p : Wo} {w w1 : Wo} (m : Mv (b.P K us w σ) (b.P K us1 w1 σ) H H1) (h : MN K z oi b us w σ H Q p) : MN K z oi b us1 w1 σ H1 Q p := fun H' us' u M' m' => h H' us' u M' (m.trans m')
theorem mkN_core {F : List D → R En (Int × List D)} {Q : VK} {vs : List V} {args : List D} {x dx : Addr} (M : ON X.K z oi b us w σ H) (a1 : AtAll X.K ((b.B X.K us w.al).O σ w.env) H vs args)
    (q : (mkW F args w).post (MN X.K z oi b us w σ H Q) (XN X.K z oi b us w σ H)) (hx : H x = none) (hd : H dx = none) (nd : dx ≠ x) :
    spIn X.K z.ca F (.ref x :: vs) (upd (upd H dx (.own x)) x (.ins (caK X.K "Stints") dx [])) (fun v H2 => v = .non ∧ Q (.ref x) H2) (fun c d H' => z.W c d σ H') := by
  have ne : ∀ {c : Addr} {o : HO}, H c = some o → c ≠ x ∧ c ≠ dx := fun {c o} e => ⟨(fun w => by rw [w, hx] at e; cases e), (fun w => by rw [w, hd] at e; cases e)⟩
  have up : ∀ {c : Addr} {o : HO}, H c = some o → upd (upd H dx (.own x)) x (.ins (caK X.K "Stints") dx []) c = some o := fun {c o} e => by
    obtain ⟨n1, n2⟩ := ne e
    rw [upd_ne n1, upd_ne n2]; exact e
  have dn : ∀ {c : Addr}, upd (upd H dx (.own x)) x (.ins (caK X.K "Stints") dx []) c = none → H c = none := fun {c} e => by
    by_cases n1 : c = x
    · rw [n1, upd_same] at e; cases e
    · rw [upd_ne n1] at e
      by_cases n2 : c = dx
      · rw [n2, upd_same] at e; cases e
      · rw [upd_ne n2] at e; exact e
  have od := M.sr.od
  refine ⟨plus ((b.B X.K us w.al).O σ w.env) x, x, dx, vs, args, rfl, M.st, upd_same, .inr rfl, fun c e q => ?_, a1.mv ⟨fun c o e _ => up e, fun c q => q.elim .inl fun q => .inr (q ▸ hx), fun c e => dn e⟩, ?_⟩
  · rcases q with q | q
    · exact od c (dn e) q
    · rw [q, upd_same] at e; cases e
  unfold mkW at q
  cases hF : F args with
  | stuck => rw [hF] at q; exact q.elim
  | err y e' =>
    rw [hF] at q
    intro cls dp H' ex hxn
    have ex2 : Ex H H' := fun c o e => ex c o (up e)
    exact q cls dp σ H' us (M.ex ex2) (Mv.ex ex2) (hxn.mv fun c q => .inl q)
  | ok r =>
    rw [hF] at q
    dsimp only at q
    split at q
    · rename_i hnd
      intro H3 n p k1 k2 a3 h3
      have e3 : ∀ {c : Addr} {o : HO}, H c = some o → H3 c = some o := fun {c o} e => k1 c o (up e) (ne e).1
      have np : ∀ {c : Addr} {o : HO}, H3 c = some o → c ≠ p := fun {c o} e q => by rw [q, h3] at e; cases e
      have xp : x ≠ p := fun q => by
        have := k2 p h3
        rw [← q, upd_same] at this; cases this
      have p1 : H p = none := dn (k2 p h3)
      have ex : Ex H (upd (upd H3 p (.lst [])) x (.ins (caK X.K "Stints") dx (stF r.1 n p))) := fun c o e => by
        rw [upd_ne (ne e).1, upd_ne (np (e3 e))]; exact e3 e
      have m2 : Mv (plus ((b.B X.K us w.al).O σ w.env) x) (plus ((b.B X.K us w.al).O σ w.env) p) H3 (upd (upd H3 p (.lst [])) x (.ins (caK X.K "Stints") dx (stF r.1 n p))) := ⟨fun c o e nb => by
        rw [upd_ne fun q : c = x => nb (.inr q), upd_ne (np e)]; exact e, fun c q => q.elim (fun q => .inl (.inl q)) fun q => .inr (by rw [show c = p from q]; exact h3), fun c e => by
        by_cases n1 : c = x
        · rw [n1, upd_same] at e; cases e
        · rw [upd_ne n1] at e
          by_cases n2 : c = p
          · rw [n2, upd_same] at e; cases e
          · rw [upd_ne n2] at e; exact e⟩
      obtain ⟨M2, mm⟩ := M.new (u := ⟨x, dx, n, p, r.1, []⟩) (o := ⟨r.1, r.2, []⟩) ex hx p1 xp upd_same (by rw [upd_ne (Ne.symm xp)]; exact upd_same) ⟨rfl, a3.mv m2, .nil, hnd, fun l h => by cases h⟩
      exact ⟨rfl, q _ _ ⟨x, dx, n, p, r.1, []⟩ M2 mm (by simp)⟩
    · exact q.elim
/-- Stints(a, b) -/
theorem nm_make {F : List D → R En (Int × List D)} {g : En → R En (List D × En)} {e : Expr} {es : List Expr} {p pos : Pos} (T : HasI X.prog X.w X.K X.mg X.base z.ca l F) (hr : Room (k + 1) X.A) (hj : l ≤ k) (hgd : X.A.guards = some []) (tk : Takes X z.W) (hg : Gl X "Stints") (ha : DA (z.atN oi) X (e :: es) g) (hl : ∀ env p, g env = .ok p → p.1.length = 2)
    (he : starEach (e :: es) X.env = (false, eval e X.env) :: starEach es X.env := by rfl) (hpl : (backTo pos (starEach es X.env)).any (·.1) = false := by rfl) :
    NM z X oi (.Call (.Name "Stints" p) (e :: es) [] pos) (nMk F g) := by
  obtain ⟨fa, fd, hm, hM, hb, G⟩ := T
  refine pe_weak (pe_makeG hM (G.mono hj) hr hgd hg hm hb (fun σ => passAt (W := z.W) tk σ) ha (by decide) he hpl) fun σ H Q ⟨b, us, w, M, q⟩ => ?_
  unfold nMk at q
  refine ⟨b.B X.K us w.al, w.v, M.see.1, ?_⟩
  cases hgv : g w.v with
  | stuck => rw [hgv] at q; exact q.elim
  | err y e' => rw [hgv] at q; exact (M.xs q).xp
  | ok r =>
    rw [hgv] at q
    intro vs H1 I1 m1 a1
    refine ⟨by rw [a1.length, hl _ _ hgv]; rfl, fun x dx hx hd nd => ?_⟩
    have mp := M.mvP I1 m1
    exact mkN_core (M.plain I1 m1) (a1.mv (M.mvp I1)) (R.post.imp q (fun p hp => hp.step mp) fun x e hx => hx.step mp) hx hd nd
/-- Stints(a) -/
theorem nm_make1 {F : List D → R En (Int × List D)} {g : En → R En (List D × En)} {e : Expr} {es : List Expr} {p pos : Pos} (T : HasI1 X.prog X.w X.K X.mg X.base z.ca l F) (hr : Room (k + 1) X.A) (hj : l ≤ k) (hgd : X.A.guards = some []) (tk : Takes X z.W) (hg : Gl X "Stints") (ha : DA (z.atN oi) X (e :: es) g) (hl : ∀ env p, g env = .ok p → p.1.length = 1)
    (he : starEach (e :: es) X.env = (false, eval e X.env) :: starEach es X.env := by rfl) (hpl : (backTo pos (starEach es X.env)).any (·.1) = false := by rfl) :
    NM z X oi (.Call (.Name "Stints" p) (e :: es) [] pos) (nMk F (gDfl g)) := by
  obtain ⟨fa, ea, fd, hm, hM, hb, hs, G⟩ := T
  refine pe_weak (pe_makeD (dvs := [.ref ea]) hM (G.mono hj) hr hgd hg hm hb (.cons rfl .nil) (fun σ => passAt (W := z.W) tk σ) ha (by decide) he hpl) fun σ H Q ⟨b, us, w, M, q⟩ => ?_
  unfold nMk gDfl at q
  refine ⟨b.B X.K us w.al, w.v, M.see.1, ?_⟩
  cases hgv : g w.v with
  | stuck => rw [hgv] at q; exact q.elim
  | err y e' => rw [hgv] at q; exact (M.xs q).xp
  | ok r =>
    rw [hgv] at q
    intro vs H1 I1 m1 a1
    refine ⟨by rw [List.length_append, a1.length, hl _ _ hgv]; rfl, fun x dx hx hd nd => ?_⟩
    have mp := M.mvP I1 m1
    have a2 : AtAll X.K ((b.B X.K us w.al).O σ r.2) H1 (vs ++ [.ref ea]) (r.1 ++ [.tuple []]) := at_app a1 (.cons (.tup ⟨hs _, fun _ _ => hs _⟩ .nil) .nil)
    exact mkN_core (M.plain I1 m1) (a2.mv (M.mvp I1)) (R.post.imp q (fun p hp => hp.step mp) fun x e hx => hx.step mp) hx hd nd
def nBind (i : Nat) (f : Wo → R Wo Wo) : NF := fun w => (f w).bind fun w' => .ok (.nx (w'.bnd i (w'.os.length - 1)))
theorem last_get {α : Type} {l : List α} {x : α} (h : l.getLast? = some x) : l[l.length - 1]? = some x := by
  rw [← List.getLast?_eq_getElem?]; exact h
theorem slot_lt {pins : List (Addr × Obj)} {s : Shared} {x : Str} (Iv : Inv X pins σ H s) (hn : X.N[i]? = some x) : i < σ.length := by
  rw [Iv.len]
  exact (List.getElem?_eq_some_iff.mp hn).1
/-- x = a new object -/
theorem ns_bind {f : Wo → R Wo Wo} {e : Expr} {x : Str} {pos pos' : Pos} (hN : X.N.Nodup) (hn : X.N[i]? = some x) (hx : Loc X.env.scope x) (he : NM z X oi e f) (hi : i ∈ oi) (hz : i ∉ z.np) (hs : swapsWith e (some (.Name x pos')) pos.line X.env = pure false := by rfl)
    (hf : X.fn x = true ∨ X.env.scope.names.lookup x = some .local := by first | exact .inl rfl | exact .inr rfl | assumption) : NS z X oi (.Assign [.Name x pos'] e pos) (nBind i f) := by
  refine ⟨fun pins s σ H Dd Iv ⟨b, us, w, M, q⟩ => (ps_set hN hn hx he hs hf).run pins s σ H Dd Iv ?_⟩
  refine ⟨b, us, w, M, (R.post_bind q).imp (fun w' hp H' us' u M' m' hu => ?_) fun _ _ q => q⟩
  have hl : i < σ.length := slot_lt Iv hn
  obtain ⟨M2, m2⟩ := M'.bnd (k := w'.os.length - 1) (by rw [← M'.len]; exact last_get hu) hi hz hl
  exact hp _ _ _ M2 (m'.trans m2)
def nAli (j i : Nat) : NF := fun w => match w.al.lookup i with
  | some k => .ok (.nx (w.bnd j k))
  | none => .stuck
/-- y = x, an object -/
theorem ns_ali {e : Expr} {y : Str} {pos pos' : Pos} (hN : X.N.Nodup) (hn : X.N[j]? = some y) (hy : Loc X.env.scope y) (he : PE X e (tVar i)) (hi : j ∈ oi) (hz : j ∉ z.np) (hs : swapsWith e (some (.Name y pos')) pos.line X.env = pure false := by rfl)
    (hf : X.fn y = true ∨ X.env.scope.names.lookup y = some .local := by first | exact .inl rfl | exact .inr rfl | assumption) : NS z X oi (.Assign [.Name y pos'] e pos) (nAli j i) := by
  refine ⟨fun pins s σ H Dd Iv ⟨b, us, w, M, q⟩ => (ps_set hN hn hy he hs hf).run pins s σ H Dd Iv ?_⟩
  unfold nAli at q
  cases hk : w.al.lookup i with
  | none => rw [hk] at q; exact q.elim
  | some k =>
    rw [hk] at q
    have hkl : k < us.length := (M.al _ (lookup_mem hk)).2
    have hu : us[k]? = some us[k] := List.getElem?_eq_getElem hkl
    refine ⟨_, M.name hk hu, ?_⟩
    obtain ⟨M2, m2⟩ := M.bnd hu hi hz (slot_lt Iv hn)
    exact q _ _ _ M2 m2
def nRetO (i : Nat) : NF := fun w => match w.al.lookup i with
  | some k => .ok (.ro k w)
  | none => .stuck
/-- return x, an object -/
theorem ns_retO {e : Expr} {pos : Pos} (he : PE X e (tVar i)) : NS z X oi (.Return (some e) pos) (nRetO i) := ps_weak (ps_ret he) fun Dd σ H ⟨b, us, w, M, q⟩ => by
  unfold nRetO at q
  cases hk : w.al.lookup i with
  | none => rw [hk] at q; exact q.elim
  | some k =>
    rw [hk] at q
    have hkl : k < us.length := (M.al _ (lookup_mem hk)).2
    have hu : us[k]? = some us[k] := List.getElem?_eq_getElem hkl
    exact ⟨_, M.name hk hu, q σ H us _ M .refl hu⟩
def nSet (i : Nat) (f : Wo → R Wo (D × Wo)) : NF := fun w => (f w).bind fun p => .ok (.nx ⟨p.2.env.set i (some (.im p.1)), p.2.os, p.2.al⟩)
/-- x = data that a change tells -/
theorem ns_set {f : Wo → R Wo (D × Wo)} {e : Expr} {x : Str} {pos pos' : Pos} (hN : X.N.Nodup) (hn : X.N[i]? = some x) (hx : Loc X.env.scope x) (he : NE z X oi e f) (hi : i ∉ oi ++ z.np) (hs : swapsWith e (some (.Name x pos')) pos.line X.env = pure false := by rfl)
    (hf : X.fn x = true ∨ X.env.scope.names.lookup x = some .local := by first | exact .inl rfl | exact .inr rfl | assumption) : NS z X oi (.Assign [.Name x pos'] e pos) (nSet i f) :=
  ps_weak (ps_set hN hn hx he hs hf) fun Dd σ H ⟨b, us, w, M, q⟩ => ⟨b, us, w, M, (R.post_bind q).imp (fun p hp v H' us' M' m' a' => by
    obtain ⟨I2, m2⟩ := M'.sr.setIm hi a'
    have hni : ∀ q ∈ p.2.al, q.1 ≠ i := fun q hq e => hi (List.mem_append.2 (.inl (e ▸ (M'.al q hq).1)))
    refine hp _ _ us' ⟨I2, M'.st, M'.len, fun l v o h1 h2 => (M'.ob l v o h1 h2).mv m2, M'.al, fun q hq s hs => ?_, M'.nd, M'.fr, M'.qs, M'.pz⟩ (m'.trans ⟨fun x o h n => m2.keep x o h fun w => n (.inl w), fun x w => w.elim (fun w => (m2.own x w).imp .inl id) fun w => .inl (.inr w), m2.dom⟩)
    have hs : (p.2.env.set i (some (.im p.1)))[q.1]? = some (some s) := hs
    rw [List.getElem?_set_ne (Ne.symm (hni q hq))] at hs
    exact M'.em q hq s hs) fun _ _ q => q⟩
end
end DL
namespace DL
open PySem PySem.Spec PyProof.Rows L2
/-- .. where the objects' own cells may be changed, too -/
def Bn.Bp (b : Bn) (K : PySem.W.Frag) (us : List Ob) (al : List (Nat × Nat)) : Bs := ⟨fun x => (b.O0 x ∨ ∃ u ∈ us, x = u.p) ∨ ∃ u ∈ us, x = u.a, b.H0, b.ps, kpN K us, fxN us al⟩
section
variable {K : PySem.W.Frag} {z : Z} {oi : List Nat} {b : Bn} {us us1 us' : List Ob} {w w1 : Wo} {σ σ1 σ' : Sg} {H H1 H' : Hp} {e e' : En} {u u' : Ob} {o o' : Ost} {k : Nat}
theorem bp_O (x : Addr) : (b.Bp K us w.al).O σ w.env x ↔ b.P K us w σ x := by
  constructor
  · rintro ((q | q) | q)
    · exact .inl (.inl q)
    · exact .inr q
    · exact .inl (.inr q)
  · rintro ((q | q) | q)
    · exact .inl (.inl q)
    · exact .inr q
    · exact .inl (.inr q)
theorem ON.ncell (M : ON K z oi b us w σ H) : ∀ i x, ownedAt σ w.env i x → x ∉ cells us := fun i x h q => by
  have h1 : kpN K us x = none := M.sr.kpo i x h
  obtain ⟨v, hv, q⟩ := mem_cells.1 q
  rcases q with q | q
  · rw [q, (kpN_of M.nd hv).1] at h1; cases h1
  · rw [q, (kpN_of M.nd hv).2] at h1; cases h1
theorem ON.odP (M : ON K z oi b us w σ H) : Od (b.P K us w σ) H := fun x hx q => by
  rcases q with q | ⟨v, hv, e⟩
  · exact M.sr.od x hx q
  · rw [e, (M.kept hv).1] at hx; cases hx
theorem ON.wide (M : ON K z oi b us w σ H) (ok : w.env.all okSl = true) : SR K (oi ++ z.np) (b.Bp K us w.al) σ H w.env := by
  have eO : ∀ x, (b.Bp K us w.al).O σ w.env x → (b.B K us w.al).O σ w.env x ∨ ∃ v ∈ us, x = v.a := fun x q => (bp_O x).1 q
  refine M.sr.to rfl rfl (fun i s v he hv q => ?_) (fun _ _ _ _ h => h) (fun _ h => h) (fun x q => ?_) M.sr.kept M.sr.kpo (fun i x h q => ?_) (fun p hp => List.mem_append.2 (.inr (M.pz p hp).1)) M.sr.fix
  · have oks := okSl_get ok he
    cases s with
    | im d => exact (at_plusN oks M.insA q).mv (Mv.less eO)
    | ow ds =>
      obtain ⟨c, xs, rfl, hO, hc, r⟩ := q
      exact ⟨c, xs, rfl, (bp_O c).2 (.inl hO), hc, (all_plusN M.insA r oks).mv (Mv.less eO)⟩
    | dk kvs => cases oks
    | db kvs => cases oks
  · rcases q with q | ⟨v, hv, e⟩
    · exact M.sr.o0 x q
    · refine ⟨by rw [e, (M.kept hv).1]; simp, fun p hp e2 => ?_⟩
      exact M.ncell _ _ (M.sr.par p hp).1 (by rw [e2, e]; exact mem_cells.2 ⟨v, hv, .inl rfl⟩)
  · rcases q with q | ⟨v, hv, e⟩
    · exact M.sr.own0 i x h q
    · exact M.ncell i x h (mem_cells.2 ⟨v, hv, .inl e⟩)
/-- behind a plain piece that knew no object -/
theorem ON.narrow (M : ON K z oi b us w σ H) (I' : SR K (oi ++ z.np) (b.Bp K us w.al) σ' H' e') (m : Mv ((b.Bp K us w.al).O σ w.env) ((b.Bp K us w.al).O σ' e') H H') :
    ON K z oi b us (w.put e') σ' H' ∧ Mv (b.P K us w σ) (b.P K us (w.put e') σ') H H' := by
  have less : ∀ x, (b.B K us w.al).O σ' e' x → (b.Bp K us w.al).O σ' e' x := fun x q => q.elim (fun q => .inl (.inl q)) .inr
  have I2 : SR K (oi ++ z.np) (b.B K us w.al) σ' H' e' := I'.to rfl rfl (fun i s v he hv q => q.mv (Mv.less less) (fun a ea ho => .inr ⟨i, s, he, ho, ea ▸ hv⟩) fun _ _ _ _ z => z) (fun _ _ _ _ h => h) (fun _ h => h) (fun x q => I'.o0 x (.inl q)) I'.kept I'.kpo (fun i x h q => I'.own0 i x h (.inl q)) (fun p hp => List.mem_append.2 (.inr (M.pz p hp).1)) I'.fix
  have ps := M.put_sr I2
  have eP : Mv (fun x => (b.B K us w.al).O σ w.env x ∨ ∃ u ∈ us, x = u.a) ((b.B K us w.al).O σ' (w.put e').env) H H' :=
    ((Mv.less fun x q => (bp_O x).1 q : Mv _ ((b.Bp K us w.al).O σ w.env) H H).trans m).trans (Mv.less fun x q => less x ((ps.2 x).1 q))
  refine ⟨⟨ps.1, M.st, M.len, fun k u o hu ho => ((M.ob k u o hu ho).plusN M.insA).mv eP, M.al, fun q hq s hs => ?_, M.nd, M.fr, M.qs, M.pz⟩, ?_⟩
  · unfold Wo.put at hs
    dsimp only at hs
    rw [vwF_get, Nat.zero_add, Option.map_eq_some_iff] at hs
    obtain ⟨t, _, hs⟩ := hs
    obtain ⟨l, hl⟩ := mem_lookup (show (q.1, q.2) ∈ w.al from hq)
    unfold hideF at hs
    rw [hl] at hs
    cases hs
  · refine ⟨fun x o h n => m.keep x o h fun q => n ((bp_O x).1 q), fun x q => ?_, m.dom⟩
    rcases q with q | q
    · exact (eP.own x q).imp id id
    · exact .inl (.inr q)
end
def nForF (T : TF) (g : NF) (n : Nat) : List D → Wo → R Wo OutN
  | [], w => .ok (.nx w)
  | d :: ds, w => match T d w.env with
    | some e => (g (w.put e)).bind fun o => match o with
      | .nx w' => nForF T g n ds (w'.cut n)
      | o => .ok o
    | none => .stuck
/-- for x in e: e and what it holds know no object; objects made within a turn are forgotten behind it -/
def nFor (gw : En → R En (List D × En)) (T : TF) (g : NF) : NF := fun w => if w.env.all okSl = true then (gw w.env).upN w fun p => nForF T g w.os.length p.1 (w.put p.2) else .stuck
section
variable {X : Cx} {z : Z} {oi : List Nat}
theorem for_core {J : It} {n : Nat} {ds : List D} {T : TF} {ws : List Nat} {g : NF} {b : Bn} {us : List Ob} {w : Wo} {σ : Sg} {H : Hp} {Dd : Ends} (M : ON X.K z oi b us w σ H) (hJ : ItR X.K (b.P X.K us w σ) H J ds) (hq : ∀ (k : Nat) (p : Addr × Addr × Addr), b.qs[k]? = some p → k < n)
    (q : (nForF T g n ds w).post (SN X.K z oi b us w σ H Dd) (XN X.K z oi b us w σ H)) :
    ∃ W : Nat → Nat → Sg → Hp → Prop, (∃ m, W 0 m σ H) ∧ ∀ i m σ H, W i m σ H →
      ((J.stop i H ∧ Dd.nx σ H) ∨ (J.go i H ∧ ∃ N : Sg → Hp → Prop, (∀ σ' H', N σ' H' → ∃ m', m' < m ∧ W (i + 1) m' σ' H') ∧ ∀ x H', J.yld i H x H' → tG X.K (z.atN oi) ws T x σ H' fun σ2 H2 => tSN X.K z oi g { Dd with nx := N, ct := N, bk := Dd.nx } σ2 H2)) := by
  refine ⟨fun k mm σ' Hh => ∃ us' wi, mm = ds.length - k ∧ k ≤ ds.length ∧ ON X.K z oi b us' wi σ' Hh ∧ Mv (b.P X.K us w σ) (b.P X.K us' wi σ') H Hh ∧ (nForF T g n (ds.drop k) wi).post (SN X.K z oi b us w σ H Dd) (XN X.K z oi b us w σ H), ⟨ds.length, us, w, by simp, Nat.zero_le _, M, .refl, q⟩, ?_⟩
  rintro k mm σ' Hh ⟨us', wi, rfl, hk, J1, m3, hc⟩
  obtain ⟨g1, g2, g3⟩ := hJ _ Hh m3 J1.odP
  by_cases hlt : k < ds.length
  · rw [List.drop_eq_getElem_cons hlt] at hc
    unfold nForF at hc
    refine .inr ⟨g1 k hlt, fun σ'' H' => ∃ us' wi, ON X.K z oi b us' wi σ'' H' ∧ Mv (b.P X.K us w σ) (b.P X.K us' wi σ'') H H' ∧ (nForF T g n (ds.drop (k + 1)) wi).post (SN X.K z oi b us w σ H Dd) (XN X.K z oi b us w σ H), fun σ'' H' ⟨us', wi, q⟩ => ⟨ds.length - (k + 1), by omega, us', wi, rfl, hlt, q⟩, fun x H' y => ?_⟩
    obtain ⟨ex, ax⟩ := g3 k x H' _ (List.getElem?_eq_getElem hlt) y
    have J2 := J1.ex ex
    have m4 := m3.trans (Mv.ex ex)
    split at hc
    · rename_i e2 hT
      refine ⟨b.B X.K us' wi.al, wi.env, ds[k], e2, J2.sr, ax.mv (Mv.less fun a q => .inl q), hT, fun σ2 I3 mt _ => ?_⟩
      have J3 := J2.plain I3 (J2.mvs.trans mt)
      have m5 := m4.trans (J2.mvP I3 (J2.mvs.trans mt))
      refine ⟨b, us', wi.put e2, J3, (R.post_bind hc).imp (fun o ho => ?_) fun x e hx => XN.step m5 hx⟩
      cases o with
      | nx w' =>
        intro σ3 H3 us3 M3 m6
        obtain ⟨M4, m7⟩ := M3.cut hq
        exact ⟨_, _, M4, (m5.trans m6).trans m7, ho⟩
      | rt d w' => exact fun v σ3 H3 us3 M3 m6 => ho v σ3 H3 us3 M3 (m5.trans m6)
      | ro k w' => exact fun σ3 H3 us3 u M3 m6 => ho σ3 H3 us3 u M3 (m5.trans m6)
    · exact hc.elim
  · have e : k = ds.length := by omega
    subst e
    rw [List.drop_length] at hc
    exact .inl ⟨g2, hc σ' Hh us' J1 m3⟩
theorem bp_less {K : PySem.W.Frag} {b : Bn} {us : List Ob} {w : Wo} {σ : Sg} {e : En} : ∀ x, (b.B K us w.al).O σ e x → (b.Bp K us w.al).O σ e x := fun x q => q.elim (fun q => .inl (.inl q)) .inr
theorem ON.thin {K : PySem.W.Frag} {b : Bn} {us : List Ob} {w : Wo} {σ σ' : Sg} {H H' : Hp} {e' : En} (M : ON K z oi b us w σ H) (I' : SR K (oi ++ z.np) (b.Bp K us w.al) σ' H' e') : SR K (oi ++ z.np) (b.B K us w.al) σ' H' e' :=
  I'.to rfl rfl (fun i s v he hv q => q.mv (Mv.less bp_less) (fun a ea ho => .inr ⟨i, s, he, ho, ea ▸ hv⟩) fun _ _ _ _ z => z) (fun _ _ _ _ h => h) (fun _ h => h) (fun x q => I'.o0 x (.inl q)) I'.kept I'.kpo (fun i x h q => I'.own0 i x h (.inl q)) (fun p hp => List.mem_append.2 (.inr (M.pz p hp).1)) I'.fix
theorem ns_for {tg iter : Expr} {body : List Stmt} {pos : Pos} {gw : En → R En (List D × En)} {T : TF} {ws : List Nat} {g : NF} (hp : PassesOwn (model X.prog X.w) X.A X.env X.xe) (hc : X.calm = true) (hi : DI (z.atN oi) X tg iter gw) (hg : DG (z.atN oi) X tg ws T) (hb : NSs z X oi body g)
    (hs : ∀ x, foldedSetIterable iter X.env x = pure x := by intro _; rfl) : NS z X oi (.For tg iter body [] pos) (nFor gw T g) := by
  refine ps_weak (ps_for hp hc hi hg hb hs) fun Dd σ H ⟨b, us, w, M, q⟩ => ?_
  unfold nFor at q
  split at q
  · rename_i hok
    have Iw := M.wide hok
    refine ⟨b.Bp X.K us w.al, w.env, Iw, ?_⟩
    cases hgw : gw w.env with
    | stuck => rw [hgw] at q; exact q.elim
    | err x e' =>
      rw [hgw] at q
      intro cls dp H' I' m' hx
      obtain ⟨M2, m2⟩ := M.narrow I' m'
      exact q cls dp σ H' us M2 m2 (hx.mv fun a q => bp_less a (((M.put_sr (M.thin I')).2 a).1 q))
    | ok r =>
    rw [hgw] at q
    obtain ⟨ds, e1⟩ := r
    intro J H1 I1 m1 hJ
    obtain ⟨M1, mp1⟩ := M.narrow I1 m1
    have q : (nForF T g w.os.length ds (w.put e1)).post (SN X.K z oi b us w σ H Dd) (XN X.K z oi b us w σ H) := q
    have hq : ∀ (k : Nat) (p : Addr × Addr × Addr), b.qs[k]? = some p → k < w.os.length := fun k p h => by
      obtain ⟨u, hu, _⟩ := M.qs k p h
      rw [← M.len]
      exact (List.getElem?_eq_some_iff.mp hu).1
    refine for_core M1 (fun O' H2 m od => hJ O' H2 ((Mv.less fun x q => ?_ : Mv _ (b.P X.K us (w.put e1) σ) H1 H1).trans m) od) hq (R.post.imp q (fun o ho => ho.step mp1) fun x e hx => XN.step mp1 hx)
    rcases q with q | q
    · exact bp_less x (((M.put_sr (M.thin I1)).2 x).1 q)
    · exact .inl (.inr q)
  · exact q.elim
end
end DL
namespace DL
open PySem PySem.Spec PyProof.Rows L2
/-- what is handed back -/
inductive RO where
  | d (d : D)
  | o (o : Ost)
def argO (vs : List V) (es : En) (a : Addr) : Prop := ∃ (i : Nat) (s : Sl), es[i]? = some (some s) ∧ s.own = true ∧ vs[i]? = some (.ref a)
/-- the values handed over: data, own lists, objects (w.al tells which is which) -/
structure ArgsN (K : PySem.W.Frag) (np : List Nat) (O : Addr → Prop) (H : Hp) (vs : List V) (w : Wo) (us : List Ob) : Prop where
  len : vs.length = w.env.length
  od : Od O H
  arg : ∀ (i : Nat) (s : Sl), w.env[i]? = some (some s) → ∃ v : V, vs[i]? = some v ∧ SlotR K O H v s
  dist : ∀ (i j : Nat) (a : Addr) (s t : Sl), w.env[i]? = some (some s) → s.own = true → vs[i]? = some (.ref a) → w.env[j]? = some (some t) → t.own = true → vs[j]? = some (.ref a) → i = j
  np : ∀ (i : Nat) (s : Sl), w.env[i]? = some (some s) → s.own = true → i ∈ np
  st : StI K
  lu : us.length = w.os.length
  at_ : ∀ q ∈ w.al, ∃ u : Ob, us[q.2]? = some u ∧ vs[q.1]? = some (.ref u.a)
  em : ∀ q ∈ w.al, ∀ s : Sl, w.env[q.1]? ≠ some (some s)
  ob : ∀ (k : Nat) (u : Ob) (o : Ost), us[k]? = some u → w.os[k]? = some o → ObAt K O H u o
  hp : ∀ u ∈ us, H u.a = some (insO K u) ∧ H u.p = some (.lst u.xs) ∧ O u.a ∧ O u.p
  nd : (cells us).Nodup
  na : ∀ x, argO vs w.env x → x ∉ cells us
structure RetN (K : PySem.W.Frag) (O' : Addr → Prop) (H H' : Hp) (vs : List V) (w w' : Wo) (us : List Ob) : Prop where
  keep : ∀ a o, H a = some o → ¬ argO vs w.env a → a ∉ cells us → H' a = some o
  dom : ∀ a, H' a = none → H a = none
  args : ∀ (i : Nat) (s : Sl), w.env[i]? = some (some s) → s.own = true → ∃ (s' : Sl) (v : V), w'.env[i]? = some (some s') ∧ s'.own = true ∧ vs[i]? = some v ∧ SlotR K O' H' v s'
  ob : ∃ us' : List Ob, us'.length = us.length ∧ w'.os.length = us.length ∧ ∀ (k : Nat) (u u' : Ob), us[k]? = some u → us'[k]? = some u' → u'.a = u.a ∧ u'.p = u.p ∧ u'.dx = u.dx ∧ H' u'.a = some (insO K u') ∧ H' u'.p = some (.lst u'.xs) ∧ ∀ o', w'.os[k]? = some o' → ObAt K O' H' u' o'
def ValN (K : PySem.W.Frag) (O O' : Addr → Prop) (H H' : Hp) (v : V) : RO → Prop
  | .d d => O' = O ∧ At K O H' v d
  | .o o => ∃ u : Ob, v = .ref u.a ∧ H u.a = none ∧ H u.p = none ∧ u.a ≠ u.p ∧ H' u.a = some (insO K u) ∧ H' u.p = some (.lst u.xs) ∧ ObAt K O' H' u o ∧ O' = plus O u.p
abbrev FN := Wo → R Wo (RO × Wo)
def spN (K : PySem.W.Frag) (np : List Nat) (pi : List (Nat × Nat)) (F : FN) : Sp := fun vs H Q _ => ∃ (w : Wo) (O : Addr → Prop) (us : List Ob), ArgsN K np O H vs w us ∧ w.al = pi ∧
  (F w).post (fun p => ∀ v H' O', RetN K O' H H' vs w p.2 us → ValN K O O' H H' v p.1 → Q v H') (fun _ _ => False)
def ownOk (e : En) : Bool := e.all fun s => match s with
  | some (.ow ds) => noDctAll ds
  | some (.dk _) => false
  | some (.db _) => false
  | _ => true
def Wo.bk (w' w : Wo) : Wo := ⟨w'.env.take w.env.length, w'.os.take w.os.length, []⟩
def runN (n : Nat) (g : NF) : FN := fun w => match g ⟨w.env ++ List.replicate (n - w.env.length) none, w.os, w.al⟩ with
  | .ok (.rt d w') => if noDct d = true ∧ ownOk w'.env = true then .ok (.d d, w'.bk w) else .stuck
  | .ok (.nx w') => if ownOk w'.env = true then .ok (.d .none, w'.bk w) else .stuck
  | .ok (.ro k w') => if w.os.length ≤ k ∧ ownOk w'.env = true then (match w'.os[k]? with
    | some o => .ok (.o o, w'.bk w)
    | none => .stuck) else .stuck
  | _ => .stuck
theorem env_get {es : En} {m i : Nat} {s : Sl} : (es ++ List.replicate m none)[i]? = some (some s) ↔ es[i]? = some (some s) := by
  by_cases h : i < es.length
  · rw [List.getElem?_append_left h]
  · have e2 : es[i]? = none := List.getElem?_eq_none (by omega)
    rw [List.getElem?_append_right (by omega), e2]
    constructor
    · intro q
      rw [List.getElem?_replicate] at q
      split at q
      · cases q
      · cases q
    · intro q; cases q
def psN (vs : List V) (es : En) : List (Nat × Addr) := (List.range vs.length).filterMap fun i => match es[i]?, vs[i]? with
  | some (some s), some (V.ref a) => if s.own = true then some (i, a) else none
  | _, _ => none
theorem mem_psN {vs : List V} {es : En} {p : Nat × Addr} : p ∈ psN vs es ↔ ∃ s, es[p.1]? = some (some s) ∧ s.own = true ∧ vs[p.1]? = some (.ref p.2) := by
  unfold psN
  rw [List.mem_filterMap]
  constructor
  · rintro ⟨i, _, h⟩
    split at h
    · rename_i s a h1 h2
      split at h
      · rename_i ho
        cases h
        exact ⟨s, h1, ho, h2⟩
      · cases h
    · cases h
  · rintro ⟨s, h1, h2, h3⟩
    exact ⟨p.1, List.mem_range.mpr (List.getElem?_eq_some_iff.mp h3).1, by rw [h1, h3]; simp [h2]⟩
theorem nd_apx {us : List Ob} (nd : (cells us).Nodup) {u v : Ob} {j k : Nat} (h : us[j]? = some u) (h' : us[k]? = some v) (n : j ≠ k) : u.a ≠ v.a ∧ u.p ≠ v.p ∧ u.a ≠ v.p ∧ u.p ≠ v.a :=
  ⟨fun e => n (nd_idx nd h h' (.inl e)), fun e => n (nd_idx nd h h' (.inr e)), nd_ap nd (List.mem_of_getElem? h) (List.mem_of_getElem? h'), fun e => nd_ap nd (List.mem_of_getElem? h') (List.mem_of_getElem? h) e.symm⟩
/-- the def's side -/
theorem sem_defN {K : PySem.W.Frag} {ca : Str → Addr} {np oi : List Nat} {pi : List (Nat × Nat)} {W : WX} {rt : Hp → (Addr → Prop) → V → Hp → D → Prop} {g : NF} {n : Nat} {vs : List V} {H : Hp} {Q : VK} {E : XK} {N : List Str} (hN : N.length = n) (hl : vs.length ≤ n) (hpi : ∀ q ∈ pi, q.1 ∈ oi) (hdis : ∀ i ∈ np, i ∉ oi) (h : spN K np pi (runN n g) vs H Q E) :
    tSN K ⟨ca, np, W, rt⟩ oi g { nx := fun _ H' => Q .non H', rt := Q } (start N vs) H := by
  obtain ⟨w, O, us, A, rfl, hp⟩ := h
  have hlen := A.len
  have argps : ∀ x, argO vs w.env x ↔ ∃ p ∈ psN vs w.env, p.2 = x := fun x => by
    constructor
    · rintro ⟨i, s, h1, h2, h3⟩
      exact ⟨(i, x), mem_psN.2 ⟨s, h1, h2, h3⟩, rfl⟩
    · rintro ⟨p, hp, rfl⟩
      obtain ⟨s, h1, h2, h3⟩ := mem_psN.1 hp
      exact ⟨p.1, s, h1, h2, h3⟩
  have argH : ∀ x, argO vs w.env x → O x ∧ ∃ o, H x = some o := fun x ⟨i, s, h1, h2, h3⟩ => by
    obtain ⟨v, e, q⟩ := A.arg i s h1
    rw [h3] at e
    cases e
    obtain ⟨c, o, e, q1, q2⟩ := q.ref h2
    cases e
    exact ⟨q1, o, q2⟩
  let b : Bn := ⟨fun x => O x ∧ ¬ argO vs w.env x ∧ x ∉ cells us, fun x => match kpN K us x with
    | some _ => none
    | none => H x, psN vs w.env, us.map fun u => (u.a, u.dx, u.p)⟩
  have H0c : ∀ x, x ∈ cells us → b.H0 x = none := fun x q => by
    obtain ⟨v, hv, q⟩ := mem_cells.1 q
    show (match kpN K us x with
      | some _ => none
      | none => H x) = none
    rcases q with q | q
    · rw [q, (kpN_of A.nd hv).1]
    · rw [q, (kpN_of A.nd hv).2]
  have H0n : ∀ x, x ∉ cells us → b.H0 x = H x := fun x q => by
    show (match kpN K us x with
      | some _ => none
      | none => H x) = H x
    rw [kpN_none q]
  have H0s : ∀ x o, b.H0 x = some o → H x = some o := fun x o h => by
    have h : (match kpN K us x with
      | some _ => none
      | none => H x) = some o := h
    split at h
    · cases h
    · exact h
  let w0 : Wo := ⟨w.env ++ List.replicate (n - w.env.length) none, w.os, w.al⟩
  have ow : ∀ i x, ownedAt (start N vs) w0.env i x ↔ (i, x) ∈ psN vs w.env := fun i x => by
    rw [mem_psN]
    constructor
    · rintro ⟨s, h1, h2, h3⟩
      exact ⟨s, env_get.1 h1, h2, start_get.1 h3⟩
    · rintro ⟨s, h1, h2, h3⟩
      exact ⟨s, env_get.2 h1, h2, start_get.2 h3⟩
  have sub : ∀ x, (b.B K us w.al).O (start N vs) w0.env x → O x := fun x q => by
    rcases q with (q | ⟨v, hv, e⟩) | ⟨i, q⟩
    · exact q.1
    · rw [e]; exact (A.hp v hv).2.2.2
    · exact (argH x ((argps x).2 ⟨_, (ow i x).1 q, rfl⟩)).1
  have M : ON K ⟨ca, np, W, rt⟩ oi b us w0 (start N vs) H := by
    refine ⟨⟨?_, fun i s h => ?_, fun i j a h1 h2 => ?_, fun a o h _ => H0s a o h, fun a h => ?_, fun i a h => .inl ((ow i a).1 h), fun a h => ?_, fun a o h => ?_, fun i a h => ?_, fun i a h q => ?_, fun p hp => ?_, fun p hp => ?_⟩,
      A.st, A.lu, fun k u o h1 h2 => (A.ob k u o h1 h2).mv (Mv.less sub), fun q hq => ?_, fun q hq s hs => A.em q hq s (env_get.1 hs), A.nd, fun u hu => ?_, fun k q h => ?_, fun p hp => ?_⟩
    · unfold L2.start
      show _ = (w.env ++ List.replicate (n - w.env.length) none).length
      simp only [List.length_append, List.length_map, List.length_replicate]
      omega
    · obtain ⟨v, e, q⟩ := A.arg i s (env_get.1 h)
      exact ⟨v, start_get.2 e, q.mv (Mv.less sub) (fun a ea ho => .inr ⟨i, s, h, ho, start_get.2 (ea ▸ e)⟩) fun _ _ _ _ z => z⟩
    · obtain ⟨s, q1, q2, q3⟩ := mem_psN.1 ((ow i a).1 h1)
      obtain ⟨t, q4, q5, q6⟩ := mem_psN.1 ((ow j a).1 h2)
      exact A.dist i j a s t q1 q2 q3 q4 q5 q6
    · cases q : b.H0 a with
      | none => exact q
      | some o => have := H0s a o q; rw [h] at this; cases this
    · rcases h with h | ⟨v, hv, e⟩
      · exact ⟨fun e => A.od a e h.1, fun p hp e => h.2.1 ((argps a).2 ⟨p, hp, e⟩)⟩
      · refine ⟨by rw [e, (A.hp v hv).2.1]; simp, fun p hp e2 => A.na a ((argps a).2 ⟨p, hp, e2⟩) (mem_cells.2 ⟨v, hv, .inr e⟩)⟩
    · obtain ⟨v, hv, q⟩ := kpN_inv h
      rcases q with ⟨rfl, rfl⟩ | ⟨rfl, rfl⟩
      · exact (A.hp v hv).1
      · exact (A.hp v hv).2.1
    · exact kpN_none (A.na a ((argps a).2 ⟨_, (ow i a).1 h, rfl⟩))
    · have ha := (argps a).2 ⟨_, (ow i a).1 h, rfl⟩
      rcases q with q | ⟨v, hv, e⟩
      · exact q.2.1 ha
      · exact A.na a ha (mem_cells.2 ⟨v, hv, .inr e⟩)
    · have ha := (argps p.2).2 ⟨p, hp, rfl⟩
      obtain ⟨s, q1, q2, q3⟩ := mem_psN.1 hp
      refine ⟨(ow _ _).2 hp, ?_, List.mem_append.2 (.inr (A.np p.1 s q1 q2))⟩
      obtain ⟨_, o, e2⟩ := argH p.2 ha
      show b.H0 p.2 ≠ none
      rw [H0n _ (A.na _ ha), e2]
      simp
    · obtain ⟨l, v, h1, h2, h3⟩ := fxN_mem hp
      obtain ⟨u, h4, h5⟩ := A.at_ _ h1
      have h4 : us[l]? = some u := h4
      rw [h2] at h4
      cases h4
      exact ⟨by rw [h3]; exact start_get.2 h5, List.mem_append.2 (.inl (hpi _ h1))⟩
    · obtain ⟨u, h4, _⟩ := A.at_ q hq
      exact ⟨hpi q hq, (List.getElem?_eq_some_iff.mp h4).1⟩
    · exact ⟨H0c _ (mem_cells.2 ⟨u, hu, .inl rfl⟩), H0c _ (mem_cells.2 ⟨u, hu, .inr rfl⟩), fun q => q.2.2 (mem_cells.2 ⟨u, hu, .inl rfl⟩), fun q => q.2.2 (mem_cells.2 ⟨u, hu, .inr rfl⟩)⟩
    · have h : (us.map fun u => (u.a, u.dx, u.p))[k]? = some q := h
      rw [List.getElem?_map, Option.map_eq_some_iff] at h
      obtain ⟨u, h1, h2⟩ := h
      exact ⟨u, h1, h2.symm⟩
    · obtain ⟨s, q1, q2, q3⟩ := mem_psN.1 hp
      exact ⟨A.np p.1 s q1 q2, hdis _ (A.np p.1 s q1 q2)⟩
  refine ⟨b, us, w0, M, ?_⟩
  -- what is known at the end
  have qsu : ∀ {σ' : Sg} {H' : Hp} {us' : List Ob} {w' : Wo}, ON K ⟨ca, np, W, rt⟩ oi b us' w' σ' H' → ∀ (k : Nat) (u : Ob), us[k]? = some u → ∃ u', us'[k]? = some u' ∧ u'.a = u.a ∧ u'.p = u.p ∧ u'.dx = u.dx := fun {σ' H' us' w'} M' k u h => by
    obtain ⟨u', h1, h2⟩ := M'.qs k (u.a, u.dx, u.p) (by show (us.map fun u => (u.a, u.dx, u.p))[k]? = _; rw [List.getElem?_map, h]; rfl)
    have e1 := congrArg Prod.fst h2
    have e2 := congrArg (fun q => q.2.1) h2
    have e3 := congrArg (fun q => q.2.2) h2
    exact ⟨u', h1, e1.symm, e3.symm, e2.symm⟩
  have bigO : ∀ {σ' : Sg} {H' : Hp} {us' : List Ob} {w' : Wo}, ON K ⟨ca, np, W, rt⟩ oi b us' w' σ' H' → ∀ x, O x → (b.B K us' w'.al).Op x ∨ ∃ v ∈ us', x = v.a := fun {σ' H' us' w'} M' x q => by
    by_cases q1 : argO vs w.env x
    · obtain ⟨p, hp, e⟩ := (argps x).1 q1
      exact .inl (.inr ⟨p, hp, e⟩)
    · by_cases q2 : x ∈ cells us
      · obtain ⟨v, hv, e⟩ := mem_cells.1 q2
        obtain ⟨k, hk⟩ := List.getElem?_of_mem hv
        obtain ⟨u', h1, h2, h3, _⟩ := qsu M' k v hk
        rcases e with e | e
        · exact .inr ⟨u', List.mem_of_getElem? h1, e.trans h2.symm⟩
        · exact .inl (.inl (.inr ⟨u', List.mem_of_getElem? h1, e.trans h3.symm⟩))
      · exact .inl (.inl (.inl ⟨q, q1, q2⟩))
  have retOk : ∀ {σ' : Sg} {H' : Hp} {us' : List Ob} {w' : Wo} {O' : Addr → Prop}, ON K ⟨ca, np, W, rt⟩ oi b us' w' σ' H' → ownOk w'.env = true → (∀ x, O x → O' x) → (∀ x, O' x → (b.B K us' w'.al).Op x ∨ ∃ v ∈ us', x = v.a) → RetN K O' H H' vs w (w'.bk w) us := fun {σ' H' us' w' O'} M' hok hO hO' => by
    have insA := M'.insA
    have big : ∀ x, O' x → (b.B K us' w'.al).O σ' w'.env x ∨ ∃ v ∈ us', x = v.a := fun x q => (hO' x q).imp (M'.sr.op x) id
    have cellsub : ∀ x, x ∈ cells us → x ∈ cells us' := fun x q => by
      obtain ⟨v, hv, e⟩ := mem_cells.1 q
      obtain ⟨k, hk⟩ := List.getElem?_of_mem hv
      obtain ⟨u', h1, h2, h3, _⟩ := qsu M' k v hk
      exact mem_cells.2 ⟨u', List.mem_of_getElem? h1, e.imp (fun e => e.trans h2.symm) fun e => e.trans h3.symm⟩
    have hle : us.length ≤ us'.length := by
      by_cases h0 : us.length = 0
      · omega
      · have hk : us.length - 1 < us.length := by omega
        obtain ⟨u', h1, _⟩ := qsu M' _ _ (List.getElem?_eq_getElem hk)
        have := (List.getElem?_eq_some_iff.mp h1).1
        omega
    refine ⟨fun x o h n1 n2 => M'.sr.keep x o (by show b.H0 x = some o; rw [H0n x n2]; exact h) fun p hp e => n1 ((argps x).2 ⟨p, hp, e⟩), fun x h => ?_, fun i s h ho => ?_, us'.take us.length, by rw [List.length_take]; omega, ?_, fun k u u' h1 h2 => ?_⟩
    · have h0 : b.H0 x = none := M'.sr.dom x h
      by_cases q : x ∈ cells us
      · obtain ⟨v, hv, e⟩ := mem_cells.1 (cellsub x q)
        rcases e with e | e
        · rw [e, (M'.kept hv).1] at h; cases h
        · rw [e, (M'.kept hv).2] at h; cases h
      · rw [← H0n x q]; exact h0
    · obtain ⟨v, e, q⟩ := A.arg i s h
      obtain ⟨a, o, rfl, _, _⟩ := q.ref ho
      have hin : (i, a) ∈ psN vs w.env := mem_psN.2 ⟨s, h, ho, e⟩
      obtain ⟨s', h1, h2, h3⟩ := M'.sr.parSlot M'.sr.slot (i, a) hin
      have hi : i < w.env.length := (List.getElem?_eq_some_iff.mp h).1
      refine ⟨s', .ref a, by show (w'.env.take w.env.length)[i]? = _; rw [List.getElem?_take, if_pos hi]; exact h1, h2, e, ?_⟩
      have hoa : O' a := hO a ((argH a ⟨i, s, h, ho, e⟩).1)
      have oks := List.all_eq_true.mp hok _ (List.mem_of_getElem? h1)
      cases s' with
      | im d => cases h2
      | ow ds =>
        obtain ⟨c, xs, ec, _, hc, r⟩ := h3
        cases ec
        exact ⟨a, xs, rfl, hoa, hc, (all_plusN insA r oks).mv (Mv.less big)⟩
      | dk kvs => cases oks
      | db kvs => cases oks
    · show (w'.os.take w.os.length).length = us.length
      rw [List.length_take, ← M'.len, ← A.lu]; omega
    · have hk : k < us.length := (List.getElem?_eq_some_iff.mp h1).1
      rw [List.getElem?_take, if_pos hk] at h2
      obtain ⟨u2, h3, h4, h5, h6⟩ := qsu M' k u h1
      rw [h2] at h3
      cases h3
      have mu := M'.mem h2
      refine ⟨h4, h5, h6, (M'.kept mu).1, (M'.kept mu).2, fun o' h7 => ?_⟩
      have h7 : (w'.os.take w.os.length)[k]? = some o' := h7
      rw [List.getElem?_take, if_pos (by rw [← A.lu]; exact hk)] at h7
      exact ((M'.ob k u' o' h2 h7).plusN insA).mv (Mv.less big)
  unfold runN at hp
  have hp : R.post _ _ (match g w0 with
    | .ok (.rt d w') => if noDct d = true ∧ ownOk w'.env = true then .ok (RO.d d, w'.bk w) else .stuck
    | .ok (.nx w') => if ownOk w'.env = true then .ok (RO.d .none, w'.bk w) else .stuck
    | .ok (.ro k w') => if w.os.length ≤ k ∧ ownOk w'.env = true then (match w'.os[k]? with
      | some o => .ok (RO.o o, w'.bk w)
      | none => .stuck) else .stuck
    | _ => .stuck) := hp
  cases hg : g w0 with
  | stuck => rw [hg] at hp; exact hp.elim
  | err x e => rw [hg] at hp; exact hp.elim
  | ok o =>
    rw [hg] at hp
    cases o with
    | nx w' =>
      dsimp only at hp
      split at hp
      · rename_i hok
        exact fun σ' H' us' M' m => hp .non H' O (retOk M' hok (fun _ q => q) (bigO M')) ⟨rfl, .non⟩
      · exact hp.elim
    | rt d w' =>
      dsimp only at hp
      split at hp
      · rename_i hc
        intro v σ' H' us' M' m ha
        exact hp v H' O (retOk M' hc.2 (fun _ q => q) (bigO M')) ⟨rfl, (at_plusN hc.1 M'.insA ha).mv (Mv.less (bigO M'))⟩
      · exact hp.elim
    | ro k w' =>
      dsimp only at hp
      split at hp
      · rename_i hc
        intro σ' H' us' u M' m hu
        have hko : k < w'.os.length := by rw [← M'.len]; exact (List.getElem?_eq_some_iff.mp hu).1
        have ho : w'.os[k]? = some w'.os[k] := List.getElem?_eq_getElem hko
        rw [ho] at hp
        have mu := M'.mem hu
        have nc : u.a ∉ cells us ∧ u.p ∉ cells us := by
          have key : ∀ v ∈ us, u.a ≠ v.a ∧ u.a ≠ v.p ∧ u.p ≠ v.a ∧ u.p ≠ v.p := fun v hv => by
            obtain ⟨j, hj⟩ := List.getElem?_of_mem hv
            obtain ⟨v', h1, h2, h3, _⟩ := qsu M' j v hj
            have hjl : j < us.length := (List.getElem?_eq_some_iff.mp hj).1
            obtain ⟨n1, n2, n3, n4⟩ := nd_apx M'.nd hu h1 (by have := A.lu; omega)
            rw [← h2, ← h3]
            exact ⟨n1, n3, n4, n2⟩
          refine ⟨fun q => ?_, fun q => ?_⟩
          · obtain ⟨v, hv, e⟩ := mem_cells.1 q
            exact e.elim (key v hv).1 (key v hv).2.1
          · obtain ⟨v, hv, e⟩ := mem_cells.1 q
            exact e.elim (key v hv).2.2.1 (key v hv).2.2.2
        have n1 : H u.a = none := by rw [← H0n _ nc.1]; exact (M'.fr u mu).1
        have n2 : H u.p = none := by rw [← H0n _ nc.2]; exact (M'.fr u mu).2.1
        have hO' : ∀ x, plus O u.p x → (b.B K us' w'.al).Op x ∨ ∃ v ∈ us', x = v.a := fun x q => q.elim (bigO M' x) fun e => .inl (.inl (.inr ⟨u, mu, e⟩))
        exact hp _ H' (plus O u.p) (retOk M' hc.2 (fun _ q => .inl q) hO') ⟨u, rfl, n1, n2, nd_ap M'.nd mu mu, (M'.kept mu).1, (M'.kept mu).2, ((M'.ob k u _ hu ho).plusN M'.insA).mv (Mv.less fun x q => (hO' x q).imp (M'.sr.op x) id), rfl⟩
      · exact hp.elim
/-- a def that is handed objects -/
theorem Stands.hasN {P : Program} {w : World} {K : PySem.W.Frag} {mg : Str → Option Value} {base : Heap} {ca : Str → Addr} {x : Str} {st : Stmt} {N ps : List Str} {k n : Nat} {np oi : List Nat} {pi : List (Nat × Nat)} {g : NF} (S : Stands K mg x st ps) (sc : FnScope N ps (defScope st)) (hps : ps.length ≤ N.length) (hn : N.length = n) (hpi : ∀ q ∈ pi, q.1 ∈ oi) (hdis : ∀ i ∈ np, i ∉ oi)
    (hbody : ∀ (f : Addr) (cdv : Value) (A : Around) (outer : List Env) (s : Shared) (H : Hp) (E : XK), Room k (A.deeper (envOfC x (defScope st) s.heap.objs.size f cdv)) → A.guards = some [] →
      NSs ⟨ca, np, fun c d _ H => E c d H, fun _ _ _ _ _ => True⟩ (cxOf (L2.CX P w) P w K mg base N x (defScope st) f cdv A outer s H E) oi (defBody st) g) :
    HasV P w K mg base x (k + 1) ps (spN K np pi (runN n g)) :=
  S.hasV sc hps fun f cdv A outer s H E Q vs hr hgd hl hsp => ⟨_, hbody f cdv A outer s H E hr hgd, sem_defN hn (by rw [hl, ← hn]; exact hps) hpi hdis hsp⟩
end DL
namespace DL
open PySem PySem.Spec PyProof.Rows L2
theorem cells_congr : ∀ {us vs : List Ob}, vs.length = us.length → (∀ (k : Nat) (u v : Ob), us[k]? = some u → vs[k]? = some v → v.a = u.a ∧ v.p = u.p) → cells vs = cells us
  | [], [], _, _ => rfl
  | [], _ :: _, h, _ => by cases h
  | _ :: _, [], h, _ => by cases h
  | u :: r, v :: t, h, q => by
    obtain ⟨e1, e2⟩ := q 0 u v rfl rfl
    unfold cells
    rw [e1, e2, cells_congr (us := r) (vs := t) (by simpa using h) fun k a c ha hc => q (k + 1) a c (by simpa using ha) (by simpa using hc)]
section
variable {K : PySem.W.Frag} {z : Z} {oi : List Nat} {b : Bn} {us : List Ob} {w : Wo} {σ : Sg} {H H' : Hp}
theorem ON.called (M : ON K z oi b us w σ H) {env2 : En} {us2 ns : List Ob} {os2 on : List Ost} {O' : Addr → Prop}
    (hl : env2.length = w.env.length) (ow : ∀ j a, ownedAt σ env2 j a ↔ ownedAt σ w.env j a) (em2 : ∀ q ∈ w.al, ∀ s : Sl, env2[q.1]? ≠ some (some s))
    (slot2 : ∀ (j : Nat) (s : Sl), env2[j]? = some (some s) → ∃ v : V, σ[j]? = some (some v) ∧ SlotR K O' H' v s)
    (hO' : ∀ x, O' x ↔ b.P K us w σ x ∨ ∃ u ∈ ns, x = u.p)
    (keep : ∀ x o, H x = some o → (∀ i, ¬ ownedAt σ w.env i x) → x ∉ cells us → H' x = some o) (dom : ∀ x, H' x = none → H x = none)
    (l2 : us2.length = us.length) (lo2 : os2.length = us.length)
    (same : ∀ (k : Nat) (u u2 : Ob), us[k]? = some u → us2[k]? = some u2 → u2.a = u.a ∧ u2.p = u.p ∧ u2.dx = u.dx ∧ H' u2.a = some (insO K u2) ∧ H' u2.p = some (.lst u2.xs) ∧ ∀ o2, os2[k]? = some o2 → ObAt K O' H' u2 o2)
    (ln : on.length = ns.length) (newp : ∀ u ∈ ns, H u.a = none ∧ H u.p = none ∧ H' u.a = some (insO K u) ∧ H' u.p = some (.lst u.xs)) (ndn : (cells ns).Nodup) (obn : ∀ (k : Nat) (u : Ob) (o : Ost), ns[k]? = some u → on[k]? = some o → ObAt K O' H' u o) :
    ON K z oi b (us2 ++ ns) ⟨env2, os2 ++ on, w.al⟩ σ H' ∧ Mv (b.P K us w σ) (b.P K (us2 ++ ns) ⟨env2, os2 ++ on, w.al⟩ σ) H H' := by
  have hcs : cells us2 = cells us := cells_congr l2 fun k u v h1 h2 => ⟨(same k u v h1 h2).1, (same k u v h1 h2).2.1⟩
  have g2 : ∀ {u2 : Ob}, u2 ∈ us2 → ∃ (k : Nat) (u : Ob), us[k]? = some u ∧ us2[k]? = some u2 ∧ u2.a = u.a ∧ u2.p = u.p := fun {u2} h => by
    obtain ⟨k, hk⟩ := List.getElem?_of_mem h
    have hkl : k < us.length := by rw [← l2]; exact (List.getElem?_eq_some_iff.mp hk).1
    have e := List.getElem?_eq_getElem hkl
    obtain ⟨e1, e2, _⟩ := same k _ _ e hk
    exact ⟨k, _, e, hk, e1, e2⟩
  have g1 : ∀ {u : Ob}, u ∈ us → ∃ (k : Nat) (u2 : Ob), us[k]? = some u ∧ us2[k]? = some u2 ∧ u2.a = u.a ∧ u2.p = u.p ∧ u2.dx = u.dx := fun {u} h => by
    obtain ⟨k, hk⟩ := List.getElem?_of_mem h
    have hkl : k < us2.length := by rw [l2]; exact (List.getElem?_eq_some_iff.mp hk).1
    have e := List.getElem?_eq_getElem hkl
    obtain ⟨e1, e2, e3, _⟩ := same k _ _ hk e
    exact ⟨k, _, hk, e, e1, e2, e3⟩
  have newc : ∀ x, x ∈ cells ns → H x = none := fun x h => by
    obtain ⟨u, hu, e⟩ := mem_cells.1 h
    exact e.elim (fun e => by rw [e]; exact (newp u hu).1) fun e => by rw [e]; exact (newp u hu).2.1
  have oldc : ∀ x, x ∈ cells us → ∃ o, H x = some o := fun x h => by
    obtain ⟨u, hu, e⟩ := mem_cells.1 h
    exact e.elim (fun e => ⟨_, by rw [e]; exact (M.kept hu).1⟩) fun e => ⟨_, by rw [e]; exact (M.kept hu).2⟩
  have hnd : (cells (us2 ++ ns)).Nodup := by
    rw [cells_append, hcs, List.nodup_append]
    refine ⟨M.nd, ndn, fun x hx y hy => ?_⟩
    rintro rfl
    obtain ⟨o, ho⟩ := oldc x hx
    rw [newc x hy] at ho
    cases ho
  have ownH : ∀ i x, ownedAt σ w.env i x → ∃ o, H x = some o := fun i x h => M.sr.odom x (.inr ⟨i, h⟩)
  have ownC : ∀ i x, ownedAt σ w.env i x → x ∉ cells (us2 ++ ns) := fun i x h q => by
    rw [cells_append, hcs, List.mem_append] at q
    rcases q with q | q
    · exact M.ncell i x h q
    · obtain ⟨o, ho⟩ := ownH i x h
      rw [newc x q] at ho
      cases ho
  have psub : ∀ x, (∃ u ∈ us2 ++ ns, x = u.p) → (∃ u ∈ us, x = u.p) ∨ ∃ u ∈ ns, x = u.p := fun x ⟨u, hu, e⟩ => by
    rcases List.mem_append.mp hu with hu | hu
    · obtain ⟨k, v, h1, _, _, h2⟩ := g2 hu
      exact .inl ⟨v, List.mem_of_getElem? h1, e.trans h2⟩
    · exact .inr ⟨u, hu, e⟩
  have less : ∀ x, (b.B K (us2 ++ ns) w.al).O σ env2 x → O' x := fun x q => by
    rw [hO']
    rcases q with (q | q) | ⟨i, q⟩
    · exact .inl (.inl (.inl (.inl q)))
    · rcases psub x q with q | q
      · exact .inl (.inl (.inl (.inr q)))
      · exact .inr q
    · exact .inl (.inl (.inr ⟨i, (ow i x).1 q⟩))
  have hkp : ∀ x o, kpN K (us2 ++ ns) x = some o → H' x = some o := fun x o h => by
    obtain ⟨v, hv, q⟩ := kpN_inv h
    rcases List.mem_append.mp hv with hv | hv
    · obtain ⟨k, u, h1, h2, _⟩ := g2 hv
      obtain ⟨_, _, _, h3, h4, _⟩ := same k u v h1 h2
      rcases q with ⟨rfl, rfl⟩ | ⟨rfl, rfl⟩
      · exact h3
      · exact h4
    · rcases q with ⟨rfl, rfl⟩ | ⟨rfl, rfl⟩
      · exact (newp v hv).2.2.1
      · exact (newp v hv).2.2.2
  refine ⟨⟨⟨by rw [hl]; exact M.sr.len, fun j s h => ?_, fun i j a h1 h2 => M.sr.dist i j a ((ow i a).1 h1) ((ow j a).1 h2), fun x o h n => ?_, fun x h => M.sr.dom x (dom x h), fun i x h => M.sr.new i x ((ow i x).1 h), fun x q => ?_, hkp, fun i x h => kpN_none (ownC i x ((ow i x).1 h)), fun i x h q => ?_, fun p hp => ?_, fun p hp => ?_⟩,
    M.st, by simp only [List.length_append, l2, lo2, ln], fun k u o h1 h2 => ?_, fun q hq => ⟨(M.al q hq).1, by rw [List.length_append, l2]; exact Nat.lt_of_lt_of_le (M.al q hq).2 (Nat.le_add_right ..)⟩, em2, hnd, fun u hu => ?_, fun k q h => ?_, M.pz⟩, ?_⟩
  · obtain ⟨v, ev, q⟩ := slot2 j s h
    exact ⟨v, ev, q.mv (Mv.less less) (fun a ea ho => .inr ⟨j, s, h, ho, ea ▸ ev⟩) fun _ _ _ _ z => z⟩
  · have h : b.H0 x = some o := h
    refine keep x o (M.sr.keep x o h n) (fun i q => ?_) fun q => ?_
    · rcases M.sr.new i x q with w1 | w1
      · exact n _ w1 rfl
      · have w1 : b.H0 x = none := w1
        rw [w1] at h; cases h
    · obtain ⟨u, hu, e⟩ := mem_cells.1 q
      rcases e with e | e
      · rw [e, (M.fr u hu).1] at h; cases h
      · rw [e, (M.fr u hu).2.1] at h; cases h
  · rcases q with q | q
    · obtain ⟨h1, h2⟩ := M.sr.o0 x (.inl q)
      exact ⟨fun e => h1 (dom x e), h2⟩
    · rcases psub x q with q | ⟨u, hu, e⟩
      · obtain ⟨h1, h2⟩ := M.sr.o0 x (.inr q)
        exact ⟨fun e => h1 (dom x e), h2⟩
      · refine ⟨by rw [e, (newp u hu).2.2.2]; simp, fun p hp e2 => ?_⟩
        obtain ⟨o, ho⟩ := ownH _ _ (M.sr.par p hp).1
        rw [e2, e, (newp u hu).2.1] at ho
        cases ho
  · have h := (ow i x).1 h
    rcases q with q | q
    · exact M.sr.own0 i x h (.inl q)
    · rcases psub x q with q | ⟨u, hu, e⟩
      · exact M.sr.own0 i x h (.inr q)
      · obtain ⟨o, ho⟩ := ownH i x h
        rw [e, (newp u hu).2.1] at ho
        cases ho
  · obtain ⟨h1, h2, h3⟩ := M.sr.par p hp
    exact ⟨(ow _ _).2 h1, h2, h3⟩
  · obtain ⟨l, v, h1, h2, h3⟩ := fxN_mem hp
    have hlt := (M.al _ h1).2
    rw [List.getElem?_append_left (by rw [l2]; exact hlt)] at h2
    have e := List.getElem?_eq_getElem hlt
    obtain ⟨e1, _⟩ := same l _ _ e h2
    rw [h3, e1]
    exact M.sr.fix _ (mem_fxN h1 e)
  · by_cases hk : k < us2.length
    · have h2 : (os2 ++ on)[k]? = some o := h2
      rw [List.getElem?_append_left hk] at h1
      rw [List.getElem?_append_left (by rw [lo2, ← l2]; exact hk)] at h2
      have e := List.getElem?_eq_getElem (show k < us.length by rw [← l2]; exact hk)
      exact ((same k _ _ e h1).2.2.2.2.2 o h2).mv (Mv.less less)
    · have h2 : (os2 ++ on)[k]? = some o := h2
      rw [List.getElem?_append_right (Nat.le_of_not_lt hk)] at h1
      rw [List.getElem?_append_right (by rw [lo2, ← l2]; exact Nat.le_of_not_lt hk), lo2, ← l2] at h2
      exact (obn _ _ _ h1 h2).mv (Mv.less less)
  · rcases List.mem_append.mp hu with hu | hu
    · obtain ⟨k, v, h1, h2, e1, e2⟩ := g2 hu
      rw [e1, e2]
      exact M.fr v (M.mem h1)
    · exact ⟨M.sr.dom _ (newp u hu).1, M.sr.dom _ (newp u hu).2.1, fun q => (M.sr.o0 _ (.inl q)).1 (newp u hu).1, fun q => (M.sr.o0 _ (.inl q)).1 (newp u hu).2.1⟩
  · obtain ⟨u, h1, h2⟩ := M.qs k q h
    have hk : k < us2.length := by rw [l2]; exact (List.getElem?_eq_some_iff.mp h1).1
    have e := List.getElem?_eq_getElem hk
    obtain ⟨e1, e2, e3, _⟩ := same k _ _ h1 e
    exact ⟨_, by rw [List.getElem?_append_left hk]; exact e, by rw [e1, e2, e3]; exact h2⟩
  · refine ⟨fun x o h n => keep x o h (fun i q => n (.inl (.inr ⟨i, q⟩))) fun q => ?_, fun x q => ?_, dom⟩
    · obtain ⟨u, hu, e⟩ := mem_cells.1 q
      rcases e with e | e
      · exact n (.inr ⟨u, hu, e⟩)
      · exact n (.inl (.inl (.inr ⟨u, hu, e⟩)))
    · rcases q with q | ⟨u, hu, e⟩
      · rcases (hO' x).1 (less x q) with q | ⟨u, hu, e⟩
        · exact .inl q
        · exact .inr (by rw [e]; exact (newp u hu).2.1)
      · rcases List.mem_append.mp hu with hu | hu
        · obtain ⟨k, v, h1, _, h2, _⟩ := g2 hu
          exact .inl (.inr ⟨v, M.mem h1, e.trans h2⟩)
        · exact .inr (by rw [e]; exact (newp u hu).1)
end
/-- an argument that is an object -/
def cOb (j : Nat) (g : En → R En (List PArg × En)) : En → R En (List PArg × En) := fun env => match env[j]? with
  | some (some _) => (g env).bind fun q => .ok (.sl j :: q.1, q.2)
  | _ => .stuck
theorem dc_ob {X : Cx} {z : Z} {e : Expr} {es : List Expr} {j : Nat} {g : En → R En (List PArg × En)} (ha : PE X e (tVar j)) (hr : DC z X es g) (hs : starEach (e :: es) X.env = (false, eval e X.env) :: starEach es X.env := by rfl) : DC z X (e :: es) (cOb j g) :=
  pa_weak (pa_cons ha hr hs) fun σ H Q ⟨B, env, I, hp⟩ => by
    unfold cOb at hp
    split at hp
    · rename_i s he
      obtain ⟨v, e1, q1⟩ := I.slot j s he
      exact ⟨v, e1, B, env, I, (R.post_bind hp).imp (fun q hq vs H2 I2 m2 a2 => hq (v :: vs) H2 I2 m2 (.cons e1 a2)) fun _ _ q => q⟩
    · exact hp.elim
section
variable (w : Wo)
/-- the data and own lists among them -/
def argE : List PArg → Option En
  | [] => some []
  | .im d :: r => if noDct d = true then (argE r).map (some (.im d) :: ·) else none
  | .sl j :: r => match w.al.lookup j with
    | some _ => (argE r).map (none :: ·)
    | none => match w.env[j]? with
      | some (some s) => if s.own = true then (argE r).map (some s :: ·) else none
      | _ => none
/-- the objects among them -/
def argK : List PArg → List Nat
  | [] => []
  | .im _ :: r => argK r
  | .sl j :: r => match w.al.lookup j with
    | some k => k :: argK r
    | none => argK r
def argP : Nat → Nat → List PArg → List (Nat × Nat)
  | _, _, [] => []
  | i, n, .im _ :: r => argP (i + 1) n r
  | i, n, .sl j :: r => match w.al.lookup j with
    | some _ => (i, n) :: argP (i + 1) (n + 1) r
    | none => argP (i + 1) n r
/-- the objects left out -/
def hidP : List PArg → List PArg
  | [] => []
  | .im d :: r => .im d :: hidP r
  | .sl j :: r => match w.al.lookup j with
    | some _ => .im .none :: hidP r
    | none => .sl j :: hidP r
end
section
variable {w : Wo}
theorem argE_get : ∀ {as : List PArg} {es : En} {i : Nat} {s : Sl}, argE w as = some es → es[i]? = some (some s) →
    (∃ d, as[i]? = some (.im d) ∧ s = .im d ∧ noDct d = true) ∨ ∃ j, as[i]? = some (.sl j) ∧ w.al.lookup j = none ∧ w.env[j]? = some (some s) ∧ s.own = true
  | [], es, i, s, h, h2 => by cases h; simp at h2
  | .im d :: r, es, i, s, h, h2 => by
    simp only [argE] at h
    split at h
    · rename_i hd
      rw [Option.map_eq_some_iff] at h
      obtain ⟨t, h1, rfl⟩ := h
      cases i with
      | zero =>
        have e : Sl.im d = s := by simpa using h2
        exact .inl ⟨d, rfl, e.symm, hd⟩
      | succ i => simpa using argE_get (i := i) h1 (by simpa using h2)
    · cases h
  | .sl j :: r, es, i, s, h, h2 => by
    simp only [argE] at h
    split at h
    · rw [Option.map_eq_some_iff] at h
      obtain ⟨t, h1, rfl⟩ := h
      cases i with
      | zero => simp at h2
      | succ i => simpa using argE_get (i := i) h1 (by simpa using h2)
    · rename_i hk
      split at h
      · rename_i s' hs
        split at h
        · rename_i ho
          rw [Option.map_eq_some_iff] at h
          obtain ⟨t, h1, rfl⟩ := h
          cases i with
          | zero =>
            have e : s' = s := by simpa using h2
            subst e
            exact .inr ⟨j, rfl, hk, hs, ho⟩
          | succ i => simpa using argE_get (i := i) h1 (by simpa using h2)
        · cases h
      · cases h
theorem argE_length : ∀ {as : List PArg} {es : En}, argE w as = some es → es.length = as.length
  | [], es, h => by cases h; rfl
  | .im d :: r, es, h => by
    simp only [argE] at h
    split at h
    · rw [Option.map_eq_some_iff] at h
      obtain ⟨t, h1, rfl⟩ := h
      simp [argE_length h1]
    · cases h
  | .sl j :: r, es, h => by
    simp only [argE] at h
    split at h
    · rw [Option.map_eq_some_iff] at h
      obtain ⟨t, h1, rfl⟩ := h
      simp [argE_length h1]
    · split at h
      · split at h
        · rw [Option.map_eq_some_iff] at h
          obtain ⟨t, h1, rfl⟩ := h
          simp [argE_length h1]
        · cases h
      · cases h
theorem argE_own : ∀ {as : List PArg} {es : En} {i j : Nat}, argE w as = some es → as[i]? = some (.sl j) → w.al.lookup j = none → ∃ s, es[i]? = some (some s) ∧ w.env[j]? = some (some s) ∧ s.own = true
  | [], es, i, j, h, h2, _ => by simp at h2
  | .im d :: r, es, i, j, h, h2, h3 => by
    simp only [argE] at h
    split at h
    · rw [Option.map_eq_some_iff] at h
      obtain ⟨t, h1, rfl⟩ := h
      cases i with
      | zero => simp at h2
      | succ i => simpa using argE_own (i := i) h1 (by simpa using h2) h3
    · cases h
  | .sl l :: r, es, i, j, h, h2, h3 => by
    simp only [argE] at h
    split at h
    · rename_i hk
      rw [Option.map_eq_some_iff] at h
      obtain ⟨t, h1, rfl⟩ := h
      cases i with
      | zero =>
        have e : l = j := by simpa using h2
        rw [e, h3] at hk
        cases hk
      | succ i => simpa using argE_own (i := i) h1 (by simpa using h2) h3
    · split at h
      · rename_i s hs
        split at h
        · rename_i ho
          rw [Option.map_eq_some_iff] at h
          obtain ⟨t, h1, rfl⟩ := h
          cases i with
          | zero =>
            have e : l = j := by simpa using h2
            subst e
            exact ⟨s, rfl, hs, ho⟩
          | succ i => simpa using argE_own (i := i) h1 (by simpa using h2) h3
        · cases h
      · cases h
theorem argP_get : ∀ {as : List PArg} {i n : Nat} {q : Nat × Nat}, q ∈ argP w i n as → i ≤ q.1 ∧ n ≤ q.2 ∧ ∃ j k, as[q.1 - i]? = some (.sl j) ∧ w.al.lookup j = some k ∧ (argK w as)[q.2 - n]? = some k
  | [], i, n, q, h => by simp [argP] at h
  | .im d :: r, i, n, q, h => by
    simp only [argP] at h
    obtain ⟨h1, h2, j, k, h3, h4, h5⟩ := argP_get h
    refine ⟨by omega, h2, j, k, ?_, h4, h5⟩
    rw [show q.1 - i = (q.1 - (i + 1)) + 1 by omega, List.getElem?_cons_succ]
    exact h3
  | .sl l :: r, i, n, q, h => by
    simp only [argP] at h
    cases hk : w.al.lookup l with
    | some k0 =>
      rw [hk] at h
      rcases List.mem_cons.mp h with rfl | h
      · refine ⟨Nat.le_refl _, Nat.le_refl _, l, k0, by simp, hk, ?_⟩
        simp [argK, hk]
      · obtain ⟨h1, h2, j, k, h3, h4, h5⟩ := argP_get h
        refine ⟨by omega, by omega, j, k, ?_, h4, ?_⟩
        · rw [show q.1 - i = (q.1 - (i + 1)) + 1 by omega, List.getElem?_cons_succ]
          exact h3
        · simp only [argK, hk]
          rw [show q.2 - n = (q.2 - (n + 1)) + 1 by omega, List.getElem?_cons_succ]
          exact h5
    | none =>
      rw [hk] at h
      obtain ⟨h1, h2, j, k, h3, h4, h5⟩ := argP_get h
      refine ⟨by omega, h2, j, k, ?_, h4, ?_⟩
      · rw [show q.1 - i = (q.1 - (i + 1)) + 1 by omega, List.getElem?_cons_succ]
        exact h3
      · simp only [argK, hk]
        exact h5
theorem argK_mem : ∀ {as : List PArg} {k : Nat}, k ∈ argK w as → ∃ j, w.al.lookup j = some k
  | [], k, h => by simp [argK] at h
  | .im d :: r, k, h => argK_mem (as := r) h
  | .sl j :: r, k, h => by
    simp only [argK] at h
    split at h
    · rename_i k0 hk
      rcases List.mem_cons.mp h with rfl | h
      · exact ⟨j, hk⟩
      · exact argK_mem h
    · exact argK_mem h
theorem hid_get : ∀ {as : List PArg} {i j : Nat}, (hidP w as)[i]? = some (.sl j) → as[i]? = some (.sl j) ∧ w.al.lookup j = none
  | [], i, j, h => by simp [hidP] at h
  | .im d :: r, i, j, h => by
    simp only [hidP] at h
    cases i with
    | zero => simp at h
    | succ i => simpa using hid_get (i := i) (by simpa using h)
  | .sl l :: r, i, j, h => by
    simp only [hidP] at h
    split at h
    · cases i with
      | zero => simp at h
      | succ i => simpa using hid_get (i := i) (by simpa using h)
    · rename_i hk
      cases i with
      | zero =>
        have e : l = j := by simpa using h
        subst e
        exact ⟨rfl, hk⟩
      | succ i => simpa using hid_get (i := i) (by simpa using h)
theorem hid_of : ∀ {as : List PArg} {i j : Nat}, as[i]? = some (.sl j) → w.al.lookup j = none → (hidP w as)[i]? = some (.sl j)
  | [], i, j, h, _ => by simp at h
  | .im d :: r, i, j, h, hk => by
    simp only [hidP]
    cases i with
    | zero => simp at h
    | succ i => simpa using hid_of (i := i) (by simpa using h) hk
  | .sl l :: r, i, j, h, hk => by
    simp only [hidP]
    cases i with
    | zero =>
      have e : l = j := by simpa using h
      rw [e, hk]
      rfl
    | succ i =>
      have := hid_of (as := r) (i := i) (by simpa using h) hk
      split
      · simpa using this
      · simpa using this
end
def pickL {α : Type} (l : List α) (ks : List Nat) : List α := ks.filterMap fun k => l[k]?
theorem pickL_get {α : Type} {l : List α} : ∀ {ks : List Nat} {i : Nat}, (∀ k ∈ ks, k < l.length) → (pickL l ks)[i]? = (ks[i]?).bind fun k => l[k]?
  | [], i, _ => by simp [pickL]
  | k :: r, i, h => by
    have hk := h k (List.mem_cons_self ..)
    have e : l[k]? = some l[k] := List.getElem?_eq_getElem hk
    have : pickL l (k :: r) = l[k] :: pickL l r := by
      unfold pickL
      rw [List.filterMap_cons, e]
    rw [this]
    cases i with
    | zero => simp [e]
    | succ i =>
      rw [List.getElem?_cons_succ, List.getElem?_cons_succ]
      exact pickL_get fun k hk => h k (List.mem_cons_of_mem _ hk)
theorem pickL_length {α : Type} {l : List α} : ∀ {ks : List Nat}, (∀ k ∈ ks, k < l.length) → (pickL l ks).length = ks.length
  | [], _ => rfl
  | k :: r, h => by
    have hk := h k (List.mem_cons_self ..)
    have e : l[k]? = some l[k] := List.getElem?_eq_getElem hk
    have : pickL l (k :: r) = l[k] :: pickL l r := by
      unfold pickL
      rw [List.filterMap_cons, e]
    rw [this, List.length_cons, List.length_cons, pickL_length fun k hk => h k (List.mem_cons_of_mem _ hk)]
theorem pickL_mem {α : Type} {l : List α} {ks : List Nat} {x : α} (h : x ∈ pickL l ks) : ∃ k ∈ ks, l[k]? = some x := by
  unfold pickL at h
  rw [List.mem_filterMap] at h
  exact h
theorem pickL_nd {us : List Ob} (nd : (cells us).Nodup) : ∀ {ks : List Nat}, (∀ k ∈ ks, k < us.length) → ks.Nodup → (cells (pickL us ks)).Nodup
  | [], _, _ => by simp [pickL, cells]
  | k :: r, h, hn => by
    have hk := h k (List.mem_cons_self ..)
    have e : us[k]? = some us[k] := List.getElem?_eq_getElem hk
    have : pickL us (k :: r) = us[k] :: pickL us r := by
      unfold pickL
      rw [List.filterMap_cons, e]
    rw [this]
    rw [List.nodup_cons] at hn
    have ih := pickL_nd nd (ks := r) (fun k hk => h k (List.mem_cons_of_mem _ hk)) hn.2
    have mk : us[k] ∈ us := List.getElem_mem hk
    have key : ∀ x, x ∈ cells (pickL us r) → us[k].a ≠ x ∧ us[k].p ≠ x := fun x hx => by
      obtain ⟨v, hv, q⟩ := mem_cells.1 hx
      obtain ⟨k', hk', e'⟩ := pickL_mem hv
      have ne : k ≠ k' := fun w => hn.1 (w ▸ hk')
      obtain ⟨n1, n2, n3, n4⟩ := nd_apx nd e e' ne
      rcases q with q | q
      · rw [q]; exact ⟨n1, n4⟩
      · rw [q]; exact ⟨n3, n2⟩
    unfold cells
    simp only [List.nodup_cons, List.mem_cons, not_or]
    exact ⟨⟨nd_ap nd mk mk, fun q => (key _ q).1 rfl⟩, fun q => (key _ q).2 rfl, ih⟩
def setM {α : Type} : List α → List Nat → List α → List α
  | l, k :: ks, v :: vs => setM (l.set k v) ks vs
  | l, _, _ => l
theorem setM_length {α : Type} : ∀ {ks : List Nat} {vs : List α} {l : List α}, (setM l ks vs).length = l.length
  | [], vs, l => by unfold setM; rfl
  | k :: ks, [], l => by unfold setM; rfl
  | k :: ks, v :: vs, l => by
    unfold setM
    rw [setM_length, List.length_set]
theorem setM_out {α : Type} {j : Nat} : ∀ {ks : List Nat} {vs : List α} {l : List α}, j ∉ ks → (setM l ks vs)[j]? = l[j]?
  | [], vs, l, _ => by unfold setM; rfl
  | k :: ks, [], l, _ => by unfold setM; rfl
  | k :: ks, v :: vs, l, h => by
    unfold setM
    simp only [List.mem_cons, not_or] at h
    rw [setM_out h.2, List.getElem?_set_ne (Ne.symm h.1)]
theorem setM_in {α : Type} {j : Nat} : ∀ {ks : List Nat} {vs : List α} {l : List α} {i : Nat}, ks.Nodup → ks[i]? = some j → vs.length = ks.length → j < l.length → (setM l ks vs)[j]? = vs[i]?
  | [], vs, l, i, _, h, _, _ => by simp at h
  | k :: ks, [], l, i, _, _, h, _ => by simp at h
  | k :: ks, v :: vs, l, 0, hn, h, _, hl => by
    have e : k = j := by simpa using h
    subst e
    unfold setM
    rw [List.nodup_cons] at hn
    rw [setM_out hn.1, List.getElem?_set_self hl]
    simp
  | k :: ks, v :: vs, l, i + 1, hn, h, h2, hl => by
    unfold setM
    rw [List.nodup_cons] at hn
    rw [setM_in (i := i) hn.2 (by simpa using h) (by simpa using h2) (by rw [List.length_set]; exact hl)]
    simp
end DL
namespace DL
open PySem PySem.Spec PyProof.Rows L2
def okNpN (np : List Nat) : Nat → En → Bool
  | _, [] => true
  | i, some s :: r => (!s.own || np.contains i) && okNpN np (i + 1) r
  | i, none :: r => okNpN np (i + 1) r
theorem okNpN_get {np : List Nat} : ∀ {k : Nat} {es : En} {i : Nat} {s : Sl}, okNpN np k es = true → es[i]? = some (some s) → s.own = true → k + i ∈ np
  | _, [], _, _, _, h, _ => by simp at h
  | k, none :: r, i, s, h, h2, ho => by
    cases i with
    | zero => simp at h2
    | succ i =>
      have := okNpN_get (k := k + 1) (i := i) (by simpa only [okNpN] using h) (by simpa using h2) ho
      rw [show k + (i + 1) = k + 1 + i by omega]; exact this
  | k, some t :: r, i, s, h, h2, ho => by
    simp only [okNpN, Bool.and_eq_true, Bool.or_eq_true, Bool.not_eq_true'] at h
    cases i with
    | zero =>
      have e : t = s := by simpa using h2
      subst e
      rcases h.1 with h | h
      · rw [ho] at h; cases h
      · simpa using h
    | succ i =>
      have := okNpN_get (k := k + 1) (i := i) h.2 (by simpa using h2) ho
      rw [show k + (i + 1) = k + 1 + i by omega]; exact this
theorem slots_inj {k : Nat} : ∀ {as : List PArg} {i j : Nat}, (slotsOf as).Nodup → as[i]? = some (.sl k) → as[j]? = some (.sl k) → i = j
  | [], i, j, _, h, _ => by simp at h
  | .im d :: r, i, j, hn, h1, h2 => by
    cases i with
    | zero => simp at h1
    | succ i =>
      cases j with
      | zero => simp at h2
      | succ j => exact congrArg (· + 1) (slots_inj (as := r) hn (by simpa using h1) (by simpa using h2))
  | .sl m :: r, i, j, hn, h1, h2 => by
    simp only [slotsOf, List.nodup_cons] at hn
    cases i with
    | zero =>
      have e : m = k := by simpa using h1
      cases j with
      | zero => rfl
      | succ j => exact absurd (slotsOf_mem (i := j) (by simpa using h2)) (e ▸ hn.1)
    | succ i =>
      cases j with
      | zero =>
        have e : m = k := by simpa using h2
        exact absurd (slotsOf_mem (i := i) (by simpa using h1)) (e ▸ hn.1)
      | succ j => exact congrArg (· + 1) (slots_inj (as := r) hn.2 (by simpa using h1) (by simpa using h2))
def newO : RO → List Ost
  | .d _ => []
  | .o o => [o]
/-- as: the arguments; w: the state behind them -/
def callW (n : Nat) (np : List Nat) (pi : List (Nat × Nat)) (F : FN) (as : List PArg) (w : Wo) : R Wo (RO × Wo) := match argE w as with
  | some es => if as.length = n ∧ (slotsOf (hidP w as)).Nodup ∧ (argK w as).Nodup ∧ argP w 0 0 as = pi ∧ okNpN np 0 es = true ∧ w.env.all okSl = true then (match F ⟨es, pickL w.os (argK w as), pi⟩ with
    | .ok (r, w') => .ok (r, ⟨back (hidP w as) (w'.env.map fun s => s.getD (.im .none)) w.env, setM w.os (argK w as) w'.os ++ newO r, w.al⟩)
    | _ => .stuck) else .stuck
  | none => .stuck
/-- the value that is handed back, told by the caller's state -/
def VN (K : PySem.W.Frag) (b : Bn) (us' : List Ob) (w' : Wo) (σ : Sg) (H' : Hp) (v : V) : RO → Prop
  | .d d => At K ((b.B K us' w'.al).O σ w'.env) H' v d
  | .o _ => ∃ u : Ob, us'.getLast? = some u ∧ v = .ref u.a
section
variable {K : PySem.W.Frag} {z : Z} {oi : List Nat} {b : Bn} {us : List Ob} {w : Wo} {σ : Sg} {H H' : Hp} {n : Nat} {np : List Nat} {pi : List (Nat × Nat)} {F : FN} {as : List PArg} {vs : List V}
theorem callN_core (M : ON K z oi b us w σ H) (pa : PAll K ((b.B K us w.al).O σ w.env) σ H vs as) {Q : VK} {E : XK}
    (q : (callW n np pi F as w).post (fun p => ∀ v H' us', ON K z oi b us' p.2 σ H' → Mv (b.P K us w σ) (b.P K us' p.2 σ) H H' → VN K b us' p.2 σ H' v p.1 → Q v H') (fun _ _ => False)) : vs.length = n ∧ spN K np pi F vs H Q E := by
  unfold callW at q
  split at q
  · rename_i es hE
    split at q
    · rename_i hc
      obtain ⟨hn, hsl, hkn, hpi, hnp, hok⟩ := hc
      have Iw := M.wide hok
      have kin : ∀ k ∈ argK w as, k < us.length := fun k hk => by
        obtain ⟨j, hj⟩ := argK_mem hk
        exact (M.al _ (lookup_mem hj)).2
      have kin2 : ∀ k ∈ argK w as, k < w.os.length := fun k hk => by rw [← M.len]; exact kin k hk
      have csub : ∀ x, x ∈ cells (pickL us (argK w as)) → x ∈ cells us := fun x hx => by
        obtain ⟨v, hv, e⟩ := mem_cells.1 hx
        obtain ⟨k, _, hk⟩ := pickL_mem hv
        exact mem_cells.2 ⟨v, List.mem_of_getElem? hk, e⟩
      have cP : ∀ x, x ∈ cells us → b.P K us w σ x := fun x hx => by
        obtain ⟨v, hv, e⟩ := mem_cells.1 hx
        exact e.elim (fun e => .inr ⟨v, hv, e⟩) fun e => .inl (.inl (.inr ⟨v, hv, e⟩))
      have ownA : ∀ x, argO vs es x → ∃ (i j : Nat), as[i]? = some (PArg.sl j) ∧ w.al.lookup j = none ∧ ownedAt σ w.env j x := fun x ⟨i, s, h1, h2, h3⟩ => by
        rcases argE_get hE h1 with ⟨d, _, rfl, _⟩ | ⟨j, q1, q2, q3, q4⟩
        · cases h2
        · obtain ⟨v, e1, e2⟩ := pa.get q1
          rw [h3] at e1
          cases e1
          exact ⟨i, j, q1, q2, s, q3, q4, e2⟩
      refine ⟨by rw [pa.length]; exact hn, ⟨es, pickL w.os (argK w as), pi⟩, b.P K us w σ, pickL us (argK w as), ⟨by rw [pa.length]; exact (argE_length hE).symm, M.odP, fun i s h => ?_, fun i j a s t h1 h2 h3 h4 h5 h6 => ?_, fun i s h ho => ?_, M.st, ?_, fun p hp => ?_, fun p hp s hs => ?_, fun k u o h1 h2 => ?_, fun u hu => ?_, pickL_nd M.nd kin hkn, fun x hx => ?_⟩, rfl, ?_⟩
      · rcases argE_get hE h with ⟨d, q1, rfl, hd⟩ | ⟨j, q1, q2, q3, q4⟩
        · obtain ⟨v, e1, e2⟩ := pa.get q1
          exact ⟨v, e1, at_plusN hd M.insA e2⟩
        · obtain ⟨v, e1, e2⟩ := pa.get q1
          obtain ⟨u, e3, e4⟩ := Iw.slot j s q3
          have e2 : σ[j]? = some (some v) := e2
          rw [e2] at e3
          cases e3
          exact ⟨v, e1, e4.mv (Mv.less fun x q => (bp_O x).2 q) (fun a ea ho => (bp_O a).1 (.inr ⟨j, s, q3, ho, ea ▸ e2⟩)) fun _ _ _ _ z => z⟩
      · rcases argE_get hE h1 with ⟨d, _, rfl, _⟩ | ⟨k, q1, q2, q3, q4⟩
        · cases h2
        rcases argE_get hE h4 with ⟨d, _, rfl, _⟩ | ⟨l, q5, q6, q7, q8⟩
        · cases h5
        obtain ⟨v, e1, e2⟩ := pa.get q1
        obtain ⟨u, e3, e4⟩ := pa.get q5
        rw [h3] at e1
        cases e1
        rw [h6] at e3
        cases e3
        have e := M.sr.dist k l a ⟨s, q3, h2, e2⟩ ⟨t, q7, h5, e4⟩
        subst e
        exact slots_inj hsl (hid_of q1 q2) (hid_of q5 q6)
      · have := okNpN_get hnp h ho
        simpa using this
      · rw [pickL_length kin, pickL_length kin2]
      · have hp : p ∈ argP w 0 0 as := by rw [hpi]; exact hp
        obtain ⟨_, _, j, k, q1, q2, q3⟩ := argP_get hp
        rw [Nat.sub_zero] at q1 q3
        have hk := (M.al _ (lookup_mem q2)).2
        have e := List.getElem?_eq_getElem hk
        obtain ⟨v, e1, e2⟩ := pa.get q1
        have e2 : σ[j]? = some (some v) := e2
        rw [M.name q2 e] at e2
        cases e2
        refine ⟨us[k], ?_, e1⟩
        rw [pickL_get kin, q3]
        exact e
      · have hp : p ∈ argP w 0 0 as := by rw [hpi]; exact hp
        obtain ⟨_, _, j, k, q1, q2, q3⟩ := argP_get hp
        rw [Nat.sub_zero] at q1
        rcases argE_get hE hs with ⟨d, h1, _⟩ | ⟨l, h1, h2, _⟩
        · rw [q1] at h1; cases h1
        · rw [q1] at h1
          cases h1
          rw [q2] at h2; cases h2
      · rw [pickL_get kin] at h1
        have h2 : (pickL w.os (argK w as))[k]? = some o := h2
        rw [pickL_get kin2] at h2
        cases hk : (argK w as)[k]? with
        | none => rw [hk] at h1; cases h1
        | some l =>
          rw [hk] at h1 h2
          exact (M.ob l u o h1 h2).plusN M.insA
      · obtain ⟨k, _, hk⟩ := pickL_mem hu
        have mu := M.mem hk
        exact ⟨(M.kept mu).1, (M.kept mu).2, .inr ⟨u, mu, rfl⟩, .inl (.inl (.inr ⟨u, mu, rfl⟩))⟩
      · obtain ⟨i, j, _, _, q1⟩ := ownA x hx
        exact fun hc => M.ncell j x q1 (csub x hc)
      cases hF : F ⟨es, pickL w.os (argK w as), pi⟩ with
      | stuck => rw [hF] at q; exact q.elim
      | err x e => rw [hF] at q; exact q.elim
      | ok p =>
        rw [hF] at q
        obtain ⟨r, w'⟩ := p
        intro v H' O' RN VR
        obtain ⟨us', lu', lo', hob⟩ := RN.ob
        rw [pickL_length kin] at lu' lo'
        have gL : ∀ {i k : Nat}, (argK w as)[i]? = some k → (pickL us (argK w as))[i]? = us[k]? := fun {i k} h => by rw [pickL_get kin, h]; rfl
        have inS : ∀ {j : Nat}, j ∈ slotsOf (hidP w as) → ∃ (s s' : Sl) (v : V), w.env[j]? = some (some s) ∧ s.own = true ∧ (back (hidP w as) (w'.env.map fun s => s.getD (.im .none)) w.env)[j]? = some (some s') ∧ s'.own = true ∧ σ[j]? = some (some v) ∧ SlotR K O' H' v s' := fun {j} hj => by
          obtain ⟨i, hi⟩ := mem_slotsOf hj
          obtain ⟨h1, h2⟩ := hid_get hi
          obtain ⟨s, h3, h4, h5⟩ := argE_own hE h1 h2
          obtain ⟨s', v, h6, h7, h8, h9⟩ := RN.args i s h3 h5
          obtain ⟨u, e1, e2⟩ := pa.get h1
          rw [h8] at e1
          cases e1
          exact ⟨s, s', v, h4, h5, back_in hsl hi (by rw [List.getElem?_map, h6]; rfl) (List.getElem?_eq_some_iff.mp h4).1, h7, e2, h9⟩
        have ow : ∀ j a, ownedAt σ (back (hidP w as) (w'.env.map fun s => s.getD (.im .none)) w.env) j a ↔ ownedAt σ w.env j a := fun j a => by
          by_cases hj : j ∈ slotsOf (hidP w as)
          · obtain ⟨s, s', v, h1, h2, h3, h4, h5, h6⟩ := inS hj
            constructor
            · rintro ⟨t, _, _, e⟩
              exact ⟨s, h1, h2, e⟩
            · rintro ⟨t, _, _, e⟩
              exact ⟨s', h3, h4, e⟩
          · unfold ownedAt
            rw [back_out hj]
        -- what was new
        have hnew : ∃ ns : List Ob, (newO r).length = ns.length ∧ (∀ x, O' x ↔ b.P K us w σ x ∨ ∃ u ∈ ns, x = u.p) ∧ (∀ u ∈ ns, H u.a = none ∧ H u.p = none ∧ H' u.a = some (insO K u) ∧ H' u.p = some (.lst u.xs)) ∧ (cells ns).Nodup ∧ (∀ (k : Nat) (u : Ob) (o : Ost), ns[k]? = some u → (newO r)[k]? = some o → ObAt K O' H' u o) ∧
            ∀ us2 env2, (b.B K (us2 ++ ns) w.al).O σ env2 = (b.B K (us2 ++ ns) w.al).O σ env2 → (∀ x, (b.B K (us2 ++ ns) w.al).O σ env2 x → O' x) → VN K b (us2 ++ ns) ⟨env2, setM w.os (argK w as) w'.os ++ newO r, w.al⟩ σ H' v r := by
          cases r with
          | d d =>
            obtain ⟨rfl, ha⟩ := VR
            refine ⟨[], rfl, fun x => ⟨.inl, fun q => q.elim id fun ⟨u, hu, _⟩ => (by cases hu)⟩, fun u hu => (by cases hu), (by simp [cells]), fun k u o h => (by simp at h), fun us2 env2 _ less => ?_⟩
            exact ha.mv (Mv.less less)
          | o o =>
            obtain ⟨u, rfl, n1, n2, nap, h1, h2, hobn, rfl⟩ := VR
            refine ⟨[u], rfl, fun x => ⟨fun q => q.imp id fun q => ⟨u, List.mem_singleton.2 rfl, q⟩, fun q => q.imp id fun ⟨v, hv, e⟩ => by rw [List.mem_singleton.mp hv] at e; exact e⟩, fun v hv => ?_, by simp [cells, nap], fun k v o' hv ho' => ?_, fun us2 env2 _ _ => ⟨u, by simp, rfl⟩⟩
            · rw [List.mem_singleton.mp hv]
              exact ⟨n1, n2, h1, h2⟩
            · cases k with
              | zero =>
                cases hv
                cases ho'
                exact hobn
              | succ k => simp at hv
        obtain ⟨ns, ln, hO', newp, ndn, obn, hval⟩ := hnew
        have nArg : ∀ x, (∀ i, ¬ ownedAt σ w.env i x) → ¬ argO vs es x := fun x h hx => by
          obtain ⟨i, j, _, _, q1⟩ := ownA x hx
          exact h j q1
        have mvP : Mv (b.P K us w σ) O' H H' := ⟨fun x o h n => RN.keep x o h (nArg x fun i q => n (.inl (.inr ⟨i, q⟩))) fun hc => n (cP x (csub x hc)), fun x hx => ((hO' x).1 hx).imp id fun ⟨u, hu, e⟩ => by rw [e]; exact (newp u hu).2.1, RN.dom⟩
        have key := M.called (env2 := back (hidP w as) (w'.env.map fun s => s.getD (.im .none)) w.env) (us2 := setM us (argK w as) us') (ns := ns) (os2 := setM w.os (argK w as) w'.os) (on := newO r) (O' := O') (H' := H')
          (back_length ..) ow (fun p hp s hs => by
            have hj : p.1 ∉ slotsOf (hidP w as) := fun hj => by
              obtain ⟨i, hi⟩ := mem_slotsOf hj
              obtain ⟨_, h2⟩ := hid_get hi
              obtain ⟨l, h3⟩ := mem_lookup (show (p.1, p.2) ∈ w.al from hp)
              rw [h2] at h3; cases h3
            rw [back_out hj] at hs
            exact M.em p hp s hs)
          (fun j s hs => by
            by_cases hj : j ∈ slotsOf (hidP w as)
            · obtain ⟨_, s', v, _, _, h3, _, h5, h6⟩ := inS hj
              rw [h3] at hs
              cases hs
              exact ⟨v, h5, h6⟩
            · rw [back_out hj] at hs
              obtain ⟨v, e1, e2⟩ := Iw.slot j s hs
              refine ⟨v, e1, e2.mv ((Mv.less fun x q => (bp_O x).2 q : Mv _ (b.P K us w σ) H H).trans mvP) (fun a ea ho => (hO' a).2 (.inl (.inl (.inr ⟨j, s, hs, ho, ea ▸ e1⟩)))) fun a o ea ho h => ?_⟩
              have oj : ownedAt σ w.env j a := ⟨s, hs, ho, ea ▸ e1⟩
              refine RN.keep a o h (fun hx => ?_) fun hc => M.ncell j a oj (csub a hc)
              obtain ⟨i, l, q1, q2, q3⟩ := ownA a hx
              have e := M.sr.dist l j a q3 oj
              subst e
              exact hj (slotsOf_mem (hid_of q1 q2)))
          hO' (fun x o h n1 n2 => RN.keep x o h (nArg x n1) fun hc => n2 (csub x hc)) RN.dom setM_length (by rw [setM_length]; exact M.len.symm)
          (fun k u u2 h1 h2 => by
            by_cases hk : k ∈ argK w as
            · obtain ⟨i, hi⟩ := List.getElem?_of_mem hk
              have hkl : k < us.length := kin k hk
              rw [setM_in hkn hi lu' hkl] at h2
              obtain ⟨e1, e2, e3, e4, e5, e6⟩ := hob i u u2 (by rw [gL hi]; exact h1) h2
              refine ⟨e1, e2, e3, e4, e5, fun o2 h3 => e6 o2 ?_⟩
              rw [setM_in hkn hi lo' (by rw [← M.len]; exact hkl)] at h3
              exact h3
            · rw [setM_out hk, h1] at h2
              cases h2
              have mu := M.mem h1
              have nc : u.a ∉ cells (pickL us (argK w as)) ∧ u.p ∉ cells (pickL us (argK w as)) := by
                have kk : ∀ v ∈ pickL us (argK w as), u.a ≠ v.a ∧ u.p ≠ v.p ∧ u.a ≠ v.p ∧ u.p ≠ v.a := fun v hv => by
                  obtain ⟨l, hl, el⟩ := pickL_mem hv
                  exact nd_apx M.nd h1 el fun e => hk (e ▸ hl)
                refine ⟨fun hc => ?_, fun hc => ?_⟩
                · obtain ⟨v, hv, e⟩ := mem_cells.1 hc
                  exact e.elim (kk v hv).1 (kk v hv).2.2.1
                · obtain ⟨v, hv, e⟩ := mem_cells.1 hc
                  exact e.elim (kk v hv).2.2.2 (kk v hv).2.1
              have na : ¬ argO vs es u.a ∧ ¬ argO vs es u.p := ⟨nArg _ fun i q => M.ncell i _ q (mem_cells.2 ⟨u, mu, .inl rfl⟩), nArg _ fun i q => M.ncell i _ q (mem_cells.2 ⟨u, mu, .inr rfl⟩)⟩
              refine ⟨rfl, rfl, rfl, RN.keep _ _ (M.kept mu).1 na.1 nc.1, RN.keep _ _ (M.kept mu).2 na.2 nc.2, fun o2 h3 => ?_⟩
              rw [setM_out hk] at h3
              exact ((M.ob k u o2 h1 h3).plusN M.insA).mv mvP)
          ln newp ndn obn
        refine q v H' _ key.1 key.2 (hval _ _ rfl fun x hx => ?_)
        have hx : (b.B K (setM us (argK w as) us' ++ ns) w.al).O σ (back (hidP w as) (w'.env.map fun s => s.getD (.im .none)) w.env) x := hx
        rw [hO']
        have same : ∀ u2 ∈ setM us (argK w as) us', ∃ u ∈ us, u2.p = u.p := fun u2 h2 => by
          obtain ⟨k, hk⟩ := List.getElem?_of_mem h2
          have hkl : k < us.length := by
            have := (List.getElem?_eq_some_iff.mp hk).1
            rwa [setM_length] at this
          have e := List.getElem?_eq_getElem hkl
          by_cases hin : k ∈ argK w as
          · obtain ⟨i, hi⟩ := List.getElem?_of_mem hin
            rw [setM_in hkn hi lu' hkl] at hk
            obtain ⟨_, e2, _⟩ := hob i us[k] u2 (by rw [gL hi]; exact e) hk
            exact ⟨us[k], List.getElem_mem hkl, e2⟩
          · rw [setM_out hin, e] at hk
            cases hk
            exact ⟨us[k], List.getElem_mem hkl, rfl⟩
        rcases hx with (hx | ⟨u2, h2, e⟩) | ⟨i, hx⟩
        · exact .inl (.inl (.inl (.inl hx)))
        · rcases List.mem_append.mp h2 with h2 | h2
          · obtain ⟨u, hu, e2⟩ := same u2 h2
            exact .inl (.inl (.inl (.inr ⟨u, hu, e.trans e2⟩)))
          · exact .inr ⟨u2, h2, e⟩
        · exact .inl (.inl (.inr ⟨i, (ow i x).1 hx⟩))
    · exact q.elim
  · exact q.elim
end
def nCall (n : Nat) (np : List Nat) (pi : List (Nat × Nat)) (F : FN) (g : En → R En (List PArg × En)) : Wo → R Wo (D × Wo) := fun w => (g w.v).upN w fun q => match callW n np pi F q.1 (w.put q.2) with
  | .ok (.d d, w') => .ok (d, w')
  | _ => .stuck
def nCallO (n : Nat) (np : List Nat) (pi : List (Nat × Nat)) (F : FN) (g : En → R En (List PArg × En)) : Wo → R Wo Wo := fun w => (g w.v).upN w fun q => match callW n np pi F q.1 (w.put q.2) with
  | .ok (.o _, w') => .ok w'
  | _ => .stuck
section
variable {X : Cx} {z : Z} {oi : List Nat} {k j n : Nat} {ps : List Str} {x : Str} {p pos : Pos} {e : Expr} {es : List Expr} {np : List Nat} {pi : List (Nat × Nat)} {F : FN} {g : En → R En (List PArg × En)}
theorem PAll.mv {K : PySem.W.Frag} {O O' : Addr → Prop} {σ : Sg} {H H' : Hp} (m : Mv O O' H H') : ∀ {vs : List V} {as : List PArg}, PAll K O σ H vs as → PAll K O' σ H' vs as
  | _, _, .nil => .nil
  | _, _, .cons a r => .cons (a.mv m) (r.mv m)
theorem ne_callN (h : HasV X.prog X.w X.K X.mg X.base x j ps (spN X.K np pi F)) (hr : Room k X.A) (hj : j ≤ k) (hgd : X.A.guards = some []) (hg : Gl X x) (hn : ps.length = n)
    (tk : Takes X z.W) (ha : DC (z.atN oi) X (e :: es) g) (hdb : (x == ("__debug__" : Str)) = false := by decide) (he : starEach (e :: es) X.env = (false, eval e X.env) :: starEach es X.env := by rfl) (hpl : (backTo pos (starEach es X.env)).any (·.1) = false := by rfl) :
    NE z X oi (.Call (.Name x p) (e :: es) [] pos) (nCall n np pi F g) := by
  refine pe_weak (pe_callV (W := z.W) h hr hj hgd hg hn tk ha hdb he hpl) fun σ H Q ⟨b, us, w, M, q⟩ => ⟨b.B X.K us w.al, w.v, M.see.1, ?_⟩
  unfold nCall at q
  cases hgv : g w.v with
  | stuck => rw [hgv] at q; exact q.elim
  | err y e' => rw [hgv] at q; exact (M.xs q).xp
  | ok r =>
    rw [hgv] at q
    intro vs H1 I1 m1 a1
    have M1 := M.plain I1 m1
    have mp := M.mvP I1 m1
    refine callN_core (n := n) M1 (a1.mv (M.mvp I1)) ?_
    have q : R.post (EN X.K z oi b us w σ H Q) (XN X.K z oi b us w σ H) (match callW n np pi F r.1 (w.put r.2) with
      | .ok (.d d, w') => .ok (d, w')
      | _ => .stuck) := q
    cases hC : callW n np pi F r.1 (w.put r.2) with
    | stuck => rw [hC] at q; exact q.elim
    | err y e' => rw [hC] at q; exact q.elim
    | ok t =>
      rw [hC] at q
      obtain ⟨ro, w'⟩ := t
      cases ro with
      | d d => exact fun v H' us' M' m' hv => q v H' us' M' (mp.trans m') hv
      | o o => exact q.elim
theorem nm_callN (h : HasV X.prog X.w X.K X.mg X.base x j ps (spN X.K np pi F)) (hr : Room k X.A) (hj : j ≤ k) (hgd : X.A.guards = some []) (hg : Gl X x) (hn : ps.length = n)
    (tk : Takes X z.W) (ha : DC (z.atN oi) X (e :: es) g) (hdb : (x == ("__debug__" : Str)) = false := by decide) (he : starEach (e :: es) X.env = (false, eval e X.env) :: starEach es X.env := by rfl) (hpl : (backTo pos (starEach es X.env)).any (·.1) = false := by rfl) :
    NM z X oi (.Call (.Name x p) (e :: es) [] pos) (nCallO n np pi F g) := by
  refine pe_weak (pe_callV (W := z.W) h hr hj hgd hg hn tk ha hdb he hpl) fun σ H Q ⟨b, us, w, M, q⟩ => ⟨b.B X.K us w.al, w.v, M.see.1, ?_⟩
  unfold nCallO at q
  cases hgv : g w.v with
  | stuck => rw [hgv] at q; exact q.elim
  | err y e' => rw [hgv] at q; exact (M.xs q).xp
  | ok r =>
    rw [hgv] at q
    intro vs H1 I1 m1 a1
    have M1 := M.plain I1 m1
    have mp := M.mvP I1 m1
    refine callN_core (n := n) M1 (a1.mv (M.mvp I1)) ?_
    have q : R.post (MN X.K z oi b us w σ H Q) (XN X.K z oi b us w σ H) (match callW n np pi F r.1 (w.put r.2) with
      | .ok (.o _, w') => .ok w'
      | _ => .stuck) := q
    cases hC : callW n np pi F r.1 (w.put r.2) with
    | stuck => rw [hC] at q; exact q.elim
    | err y e' => rw [hC] at q; exact q.elim
    | ok t =>
      rw [hC] at q
      obtain ⟨ro, w'⟩ := t
      cases ro with
      | d d => exact q.elim
      | o o =>
        intro v H' us' M' m' hv
        obtain ⟨u, hu, rfl⟩ := hv
        exact q H' us' u M' (mp.trans m') hu
end
end DL
namespace DL
open PySem PySem.Spec PyProof.Rows L2 ItX
/-- a promise to callers whose heap has n records at least -/
def FnAt (P : Program) (w : World) (K : PySem.W.Frag) (mg : Str → Option Value) (base : Heap) (k : Nat) (f : Addr) (fd : FuncData) (ps : List Str) (n : Nat) (sp : Sp) : Prop :=
  ∀ (A : Around) (outer : List Env) (s : Shared) (H : Hp) (args : Args) (us : List Value) (vs : List V) (Q : VK) (E : XK), Room k A → A.guards = some [] → Env0 P w K mg base A outer s H → BindsTo s fd args (ps.zip us) → Vals vs us → vs.length = ps.length → n ≤ s.heap.objs.size → sp vs H Q E →
    codeAny (model P w) A (.call (.ref f) args) (CR (L2.CX P w) outer P w H s Q E) s
def spItN (K : PySem.W.Frag) (c : Nat) : Sp := fun vs H Q _ => ∃ (a dx n p : Addr) (m : Int) (xs : List V), vs = [.ref a] ∧ StI K ∧ H a = some (.ins (caK K "Stints") dx (stF m n p)) ∧ SqL K H n xs ∧ ∀ it, H it = none → c ≤ it → Q (.ref it) (upd H it (ItO n it 0))
def HasIt (P : Program) (w : World) (K : PySem.W.Frag) (mg : Str → Option Value) (base : Heap) (k : Nat) : Prop :=
  ∃ (f : Addr) (fd : FuncData), Meth K (caK K "Stints") "__iter__" f ∧ L2.Binds K fd ["self"] [] ∧ ∀ n, FnAt P w K mg base k f fd ["self"] n (spItN K n)
section
variable {P : Program} {w : World} {K : PySem.W.Frag} {mg : Str → Option Value} {base : Heap}
theorem fun_okAt {sp : Sp} {x qual : Str} {st : Stmt} {f : Addr} {fd : FuncData} {N ps : List Str} {k n : Nat} (F : Fun K x qual st f fd) (S : FnScope N ps (defScope st)) (hps : ps.length ≤ N.length)
    (hbody : ∀ (cdv : Value) (A : Around) (outer : List Env) (s : Shared) (H : Hp) (E : XK) (Q : VK) (vs : List V), n ≤ s.heap.objs.size → vs.length = ps.length → sp vs H Q E →
      ∃ t, PSs (cxOf (L2.CX P w) P w K mg base N qual (defScope st) f cdv A outer s H E) (defBody st) t ∧ t { nx := fun _ H' => Q .non H', rt := Q } (start N vs) H) :
    FnAt P w K mg base (k + 1) f fd ps n sp := by
  intro A outer s H args us vs Q E hr hgd e0 hb r hl hn hsp
  obtain ⟨oc, od, kV, doc, pm, an, cdv, ct, osl, rfl, lk, hcd⟩ := F.ex
  have KX : K.In s.heap := e0.mod.kin.keeps fun b o e => (e0.bs b o e).1
  have names : ∀ y ∈ ps.zip us, (defScope st).names.lookup y.1 = some .local ∨ ((defScope st).names.lookup y.1 = some .cell ∧ ((cellsFrom (s.heap.objs.size + 1) (defScope st).names []).lookup y.1).isSome = true) := by
    intro y hy
    obtain ⟨n1, v1⟩ := y
    exact (S.par n1 (List.of_mem_zip hy).1).imp id fun q => ⟨q, PySem.W.cellsFrom_some _ _ _ (.inl q)⟩
  refine codeAny_call_function hr.depth (KX _ _ lk) rfl S.co S.gen rfl (PySem.W.codeRec_of KX hcd) (hb _ _ _ _ (wpAny_newFunctionEnv_cells S.kind names fun env he s1 x => ?_))
  subst he
  refine ⟨(e0.mod.nolimit.keeps fun b o e => (e0.bs b o e).1).keeps x.toInCall.keep, codeAny_func ?_⟩
  obtain ⟨t, ht, hq⟩ := hbody cdv A outer s H E Q vs hn hl hsp
  refine wpAny_mono (ht.run [] s1 (start N vs) H _ (inv_start S hr.hd e0 hl r x) hq) (fun fl s' hs => ?_) fun e s' hs => hs
  match fl, hs with
  | .ret u, ⟨v, σ', H', J, rv, q⟩ => exact ⟨v, H', J.os, J.bare, J.base, J.hok, rv, q⟩
  | .next, ⟨σ', H', J, q⟩ => exact ⟨V.non, H', J.os, J.bare, J.base, J.hok, rfl, q⟩
  | .brk, ⟨_, _, _, q⟩ => exact False.elim q
  | .cont, ⟨_, _, _, q⟩ => exact False.elim q
theorem it_ok {q : Str} {st : Stmt} {p1 p2 p3 p4 p5 : Pos} (S : StandsM K "__iter__" q st ["self"]) (sc : FnScope ["self"] ["self"] (defScope st)) (hm : mg "iter" = none)
    (hb : defBody st = [.Return (some (.Call (.Name "iter" p1) [.Attribute (.Name "self" p2) "now" p3] [] p4)) p5]) (hv1 : Vis (defScope st) "self") (hg : ∀ f cdv A outer s H E, Gl (cxOf (L2.CX P w) P w K mg base ["self"] q (defScope st) f cdv A outer s H E) "iter") : HasIt P w K mg base 1 := by
  obtain ⟨f, fd, h1, h2, h3⟩ := S
  refine ⟨f, fd, h1, h3, fun c => fun_okAt (k := 0) h2 sc (Nat.le_refl _) fun cdv A outer s H E Q vs hc hl h => ?_⟩
  obtain ⟨a, dx, n, p, m, xs, rfl, i, ha, hn, q⟩ := h
  rw [hb]
  exact ⟨_, pss_one (ps_ret (pe_callB call_iterN (hg f cdv A outer s H E) hm (by decide +kernel) (pa_cons (pe_fld (pv 0 rfl hv1) rfl) pa_nil rfl) (by decide) (by decide) rfl)), _, rfl, a, _, dx, _, .ref n, rfl, ha, i.cl, i.nN, st_now, n, xs, rfl, hn, fun it h1 h2 => q it h1 (Nat.le_trans hc h2)⟩
end
/-- for x in e, e a Stints -/
def tOwnI (K : PySem.W.Frag) (te : TE) : TI := fun σ H R => te σ H fun x H1 => ∃ (a dx n p : Addr) (m : Int) (xs : List V), x = .ref a ∧ StI K ∧ H1 a = some (.ins (caK K "Stints") dx (stF m n p)) ∧ SqL K H1 n xs ∧ R (Itl K n) H1
section
variable {X : Cx} {z : Z} {k j : Nat} {tg e : Expr} {te : TE}
theorem pi_own (T : HasIt X.prog X.w X.K X.mg X.base j) (hr : Room k X.A) (hj : j ≤ k) (hgd : X.A.guards = some []) (he : PE X e te) : PI X tg e (tOwnI X.K te) := by
  obtain ⟨f, fd, hm, hb, G⟩ := T
  refine ⟨fun pins s σ H R I h => thn (he.run pins s σ H _ I h) fun u s1 ⟨x, H1, I1, rx, a, dx, n, p, m, xs, ex, i, ha, hn, q⟩ => ?_⟩
  subst ex
  cases rx
  obtain ⟨mA, J, _⟩ := ins_get I1.hok ha
  obtain ⟨oda, J, _⟩ := J.look
  obtain ⟨m0, hFr⟩ := I1.fr
  refine PySem.W.owit_iter hFr I1.ok.mod.kin J hm.at_ hm.fn ?_
  have bnd := hb s1 [.ref a] I1.kIn rfl
  rw [List.append_nil] at bnd
  refine wpAny_call (codeAny_mono (G s1.heap.objs.size X.A X.stack s1 H1 ⟨[.ref a], []⟩ [.ref a] [.ref a] (fun v H' => ∃ it, v = .ref it ∧ s1.heap.objs.size ≤ it ∧ H1 it = none ∧ H' = upd H1 it (ItO n it 0)) (fun _ _ _ => False) (hr.mono hj) hgd I1.env0 bnd (.cons rfl .nil) rfl (Nat.le_refl _)
    ⟨a, dx, n, p, m, xs, rfl, i, ha, hn, fun it h1 h2 => ⟨it, rfl, h2, h1, rfl⟩⟩) fun r s' hq => ?_)
  match r, hq with
  | .error e, ⟨_, _, _, _, _, _, _, _, _, _, _, _, hE⟩ => exact hE.elim
  | .ok .next, hq => exact False.elim hq
  | .ok .brk, hq => exact False.elim hq
  | .ok .cont, hq => exact False.elim hq
  | .ok (.ret u), hq =>
    obtain ⟨v, H', I', rv, it, ev, hle, h0, eH⟩ := I1.after hq
    subst ev
    subst eH
    cases rv
    have hit : upd H1 it (ItO n it 0) it = some (ItO n it 0) := upd_same
    have eo := itO_get I' hit
    unfold PySem.W.OwitIt
    refine wpAny_specialOf ⟨_, eo, rfl⟩ slot_listiter_next.lookup ?_
    have st : s'.heap.IsListIter it n 0 := ⟨_, eo, rfl, rfl⟩
    have hd : dropH (upd H1 it (ItO n it 0)) it = H1 := dropH_upd h0
    have hit2 := hit
    unfold ItO at hit2
    have I3 := inv_drop I' hit2
    have fp := inv_fp I' hit (Nat.le_trans I1.sz hle)
    rw [hd] at I3
    rw [hd] at fp
    refine ⟨it, [it], _, _, H1, rfl, I3, turn_list n it, st, fun c hc => ?_, q⟩
    rw [List.mem_singleton.mp hc]
    exact fp
/-- for x in NAME, NAME an object, others are changed meanwhile -/
def nForO (i : Nat) (T : TF) (g : NF) : NF := fun w => match w.al.lookup i with
  | some k => match w.os[k]? with
    | some o => nForF T g w.os.length o.now w
    | none => .stuck
  | none => .stuck
theorem ns_forO {oi : List Nat} {i : Nat} {body : List Stmt} {pos : Pos} {T : TF} {ws : List Nat} {g : NF} (it : HasIt X.prog X.w X.K X.mg X.base j) (hr : Room k X.A) (hj : j ≤ k) (hgd : X.A.guards = some []) (hp : PassesOwn (model X.prog X.w) X.A X.env X.xe) (hc : X.calm = true) (he : PE X e (tVar i)) (hg : DG (z.atN oi) X tg ws T) (hb : NSs z X oi body g)
    (hs : ∀ x, foldedSetIterable e X.env x = pure x := by intro _; rfl) : NS z X oi (.For tg e body [] pos) (nForO i T g) := by
  refine ps_weak (ps_for hp hc (pi_own it hr hj hgd he) hg hb hs) fun Dd σ H ⟨b, us, w, M, q⟩ => ?_
  unfold nForO at q
  cases hk : w.al.lookup i with
  | none => rw [hk] at q; exact q.elim
  | some k0 =>
    rw [hk] at q
    dsimp only at q
    split at q
    · rename_i o ho
      obtain ⟨u, hu, mu, ob⟩ := M.obj ho
      have n := (ob.plusN M.insA).now
      have mk := M.kept mu
      refine ⟨_, M.name hk hu, u.a, u.dx, u.n, u.p, u.m, ?_⟩
      cases n with
      | @lst _ ys _ l r =>
        refine ⟨ys, rfl, M.st, mk.1, l.1, for_core M (itr_list l r) (fun k p h => ?_) q⟩
        obtain ⟨v, hv, _⟩ := M.qs k p h
        rw [← M.len]
        exact (List.getElem?_eq_some_iff.mp hv).1
    · exact q.elim
end
end DL
namespace DL
open PySem PySem.Spec PyProof.Rows L2
def bkH (K : PySem.W.Frag) (H : Hp) (a dx n p : Addr) (m : Int) (ys : List V) (n' : Addr) : Hp := upd (upd H p (.lst ys)) a (.ins (caK K "Stints") dx (stF m n' p))
def spBack (K : PySem.W.Frag) : Sp := fun vs H Q _ => ∃ (a dx n p : Addr) (m : Int) (xs : List V), vs = [.ref a] ∧ StI K ∧ H a = some (.ins (caK K "Stints") dx (stF m n p)) ∧ H p = some (.lst xs) ∧
  ((xs = [] ∧ Q (.bl false) H) ∨ ∃ n' ys, xs = ys ++ [.ref n'] ∧ Q (.bl true) (bkH K H a dx n p m ys n'))
section
variable {P : Program} {w : World} {K : PySem.W.Frag} {mg : Str → Option Value} {base : Heap}
theorem back_ok {q : Str} {st : Stmt} {p1 p2 p3 p4 p5 p6 p7 p8 p9 p10 p11 p12 p13 p14 p15 p16 p17 p18 : Pos} {k1 k2 k3 : _} (S : StandsM K "back" q st ["self"]) (sc : FnScope ["self"] ["self"] (defScope st)) (hm : mg "len" = none)
    (hb : defBody st = [.If (.Compare (.Call (.Name "len" p1) [.Attribute (.Name "self" p2) "past" p3] [] p4) [.Eq] [.Constant (.int 0) k1 p5] p6) [.Return (some (.Constant (.bool false) k2 p7)) p8] [] p9,
      .Assign [.Attribute (.Name "self" p10) "now" p11] (.Call (.Attribute (.Attribute (.Name "self" p12) "past" p13) "pop" p14) [] [] p15) p16, .Return (some (.Constant (.bool true) k3 p17)) p18])
    (hline : (p14.endLine == p15.line) = true) (hv1 : Vis (defScope st) "self") (hg : ∀ f cdv A outer s H E, Gl (cxOf (L2.CX P w) P w K mg base ["self"] q (defScope st) f cdv A outer s H E) "len") : HasM P w K mg base "back" 1 ["self"] (spBack K) := by
  refine S.hasV sc (Nat.le_refl _) fun f cdv A outer s H E Q vs hr hgd hl h => ?_
  obtain ⟨a, dx, n, p, m, xs, rfl, i, ha, hp, h⟩ := h
  rw [hb]
  refine ⟨_, pss_cons (ps_if (pt_cmpR op_eq (pe_callB call_len_seq (hg f cdv A outer s H E) hm (by decide +kernel) (pa_cons (pe_fld (pv 0 rfl hv1) rfl) pa_nil rfl) (by decide) (by decide) rfl) pe_int rfl) (pss_one (ps_ret pe_bl)) pss_nil)
    (pss_cons (ps_fld (pv 0 rfl hv1) (pe_bm0 PySem.F.plainAttrs_list PySem.F.slot_list_pop PySem.F.type_list_pop mt_pop (pe_fld (pv 0 rfl hv1) rfl) (hline := hline)) rfl) (pss_one (ps_ret pe_bl))), ?_⟩
  have npa : a ≠ p := ne_of ha hp (by intro q; cases q)
  refine ⟨_, rfl, a, _, dx, _, .ref p, rfl, ha, i.cl, i.nP, st_past, p, xs, rfl, .inl (SqL.of hp), rfl, _, rfl, ?_⟩
  rw [dec_int]
  rcases h with ⟨rfl, q⟩ | ⟨n', ys, rfl, q⟩
  · exact q
  · have ne : (((ys ++ [V.ref n']).length : Int) == 0) = false := by
      rw [List.length_append, List.length_singleton]
      simp
      omega
    rw [ne]
    refine ⟨_, rfl, a, _, dx, _, .ref p, rfl, ha, i.cl, i.nP, st_past, .inl ⟨rfl, _, SqL.of hp⟩, p, _, .ref n', rfl, rfl, hp, by simp, ?_⟩
    rw [List.dropLast_concat]
    refine ⟨_, rfl, a, _, dx, _, rfl, by rw [upd_ne npa]; exact ha, i.cl, i.nN, (by show 3 < 1000; decide), ?_⟩
    rw [putF_now]
    exact q
end
/-- taking back: one of the objects -/
def bkW (i : Nat) (w : Wo) : R Wo (D × Wo) := match w.al.lookup i with
  | some k => match w.os[k]? with
    | some o => match o.past.getLast? with
      | none => .ok (.bool false, w)
      | some l => if w.env.all okSl = true then .ok (.bool true, ⟨w.env, w.os.set k ⟨o.m, l, o.past.dropLast⟩, w.al⟩) else .stuck
    | none => .stuck
  | none => .stuck
theorem AtAll.snoc {K : PySem.W.Frag} {O : Addr → Prop} {H : Hp} {vs : List V} {ds : List D} {d : D} (h : AtAll K O H vs (ds ++ [d])) : ∃ us u, vs = us ++ [u] ∧ AtAll K O H us ds ∧ At K O H u d := by
  have hl := h.length
  rw [List.length_append, List.length_singleton] at hl
  have h1 := AtAll.take ds.length h
  have h2 := AtAll.drop ds.length h
  rw [List.take_left' rfl] at h1
  rw [List.drop_left' rfl] at h2
  cases e : vs.drop ds.length with
  | nil => rw [e] at h2; cases h2
  | cons u r =>
    rw [e] at h2
    cases h2 with
    | cons a b =>
      cases b
      refine ⟨vs.take ds.length, u, ?_, h1, a⟩
      rw [← e, List.take_append_drop]
section
variable {X : Cx} {z : Z} {oi : List Nat} {b : Bn} {us us1 us' : List Ob} {w w1 : Wo} {σ σ1 σ' : Sg} {H H1 H' : Hp} {u u' : Ob} {o o' : Ost} {i j k l : Nat}
theorem bkN_core {Q : VK} {E : XK} {k : Nat} (M : ON X.K z oi b us w σ H) (hk : w.al.lookup i = some k) (hu : us[k]? = some u)
    (q : (bkW i w).post (EN X.K z oi b us w σ H Q) (XN X.K z oi b us w σ H)) : spBack X.K [.ref u.a] H Q E := by
  unfold bkW at q
  rw [hk] at q
  dsimp only at q
  split at q
  · rename_i o ho
    have ob := M.ob k u o hu ho
    have mu := M.mem hu
    refine ⟨u.a, u.dx, u.n, u.p, u.m, u.xs, rfl, M.st, (M.kept mu).1, (M.kept mu).2, ?_⟩
    split at q
    · rename_i hl
      have e : o.past = [] := List.getLast?_eq_none_iff.mp hl
      have hp := ob.past
      rw [e] at hp
      refine .inl ⟨?_, q _ H us M .refl (.bl false)⟩
      cases hx : u.xs with
      | nil => rfl
      | cons a r => rw [hx] at hp; cases hp
    · rename_i l hl
      split at q
      · rename_i hok
        obtain ⟨ps, e⟩ := List.getLast?_eq_some_iff.mp hl
        have pl := (ob.plusN M.insA).past
        rw [e, List.map_append] at pl
        obtain ⟨ys, v, ex, h1, h2⟩ := AtAll.snoc (d := .list l) pl
        cases h2 with
        | @lst n' ns _ ll rr =>
        have hd : o.past.dropLast = ps := by rw [e, List.dropLast_concat]
        have ob' : ObAt X.K (fun x => (b.B X.K us w.al).O σ w.env x ∨ ∃ v ∈ us, x = v.a) H ⟨u.a, u.dx, n', u.p, u.m, ys⟩ ⟨o.m, l, o.past.dropLast⟩ := by
          refine ⟨ob.m, .lst ll rr, by rw [hd]; exact h1, ob.okp l (by rw [e]; simp), fun l' h' => ob.okp l' ?_⟩
          rw [hd] at h'
          rw [e]
          exact List.mem_append.2 (.inl h')
        obtain ⟨M2, m2⟩ := M.wr (u' := ⟨u.a, u.dx, n', u.p, u.m, ys⟩) hu ho hok (fun _ _ h => h) rfl rfl rfl ob'
        exact .inr ⟨n', ys, ex, q _ _ _ M2 m2 (.bl true)⟩
      · exact q.elim
  · exact q.elim
/-- x.back() -/
theorem ne_back {x : Str} {p1 p2 p3 : Pos} {pl : Sem Bool} (T : HasM X.prog X.w X.K X.mg X.base "back" l ["self"] (spBack X.K)) (hr : Room k X.A) (hj : l ≤ k) (hgd : X.A.guards = some []) (tk : Takes X z.W) (hs : PE X (.Name x p1) (tVar i)) (s0 : StI X.K) (hno : noFld "back" = true := by decide +kernel)
    (ht : eval (.Call (.Attribute (.Name x p1) "back" p2) [] [] p3) X.env = (do
      let ov ← eval (.Name x p1) X.env
      standAt p2.atName
      let (f, first) ← holding [ov] (getMethod ov "back" pl)
      callWith p3 f first (backTo p3 (starEach [] X.env)) (backToKw p3 (keywordEach [] X.env))) := by rfl) :
    NE z X oi (.Call (.Attribute (.Name x p1) "back" p2) [] [] p3) (bkW i) := by
  obtain ⟨fa, fd, hm, hb, G, _⟩ := T
  refine pe_weak (pe_methG0 (pl := pl) hs s0.cl hm (G.mono hj) hr hgd hb (fun σ => passAt (W := z.W) tk σ) ht) fun σ H Q ⟨b, us, w, M, q⟩ => ?_
  cases hk : w.al.lookup i with
  | none =>
    unfold bkW at q
    rw [hk] at q
    exact q.elim
  | some k0 =>
    have hkl : k0 < us.length := (M.al _ (lookup_mem hk)).2
    have hu : us[k0]? = some us[k0] := List.getElem?_eq_getElem hkl
    exact ⟨_, M.name hk hu, us[k0].a, us[k0].dx, _, rfl, (M.kept (M.mem hu)).1, st_no hno, rfl, bkN_core M hk hu q⟩
def nPar (i j : Nat) (f g : Wo → R Wo Wo) : NF := fun w => (f w).bind fun w1 => (g w1).bind fun w2 => .ok (.nx ((w2.bnd i (w1.os.length - 1)).bnd j (w2.os.length - 1)))
/-- more objects are kept in sight -/
theorem ON.see_more {K : PySem.W.Frag} (M : ON K z oi b us w σ H) : ON K z oi { b with qs := us.map fun u => (u.a, u.dx, u.p) } us w σ H :=
  ⟨M.sr, M.st, M.len, M.ob, M.al, M.em, M.nd, M.fr, fun k q h => by
    have h : (us.map fun u => (u.a, u.dx, u.p))[k]? = some q := h
    rw [List.getElem?_map, Option.map_eq_some_iff] at h
    obtain ⟨u, h1, h2⟩ := h
    exact ⟨u, h1, h2.symm⟩, M.pz⟩
theorem ON.see_less {K : PySem.W.Frag} (M : ON K z oi b us w σ H) (M' : ON K z oi { b with qs := us.map fun u => (u.a, u.dx, u.p) } us' w1 σ' H') : ON K z oi b us' w1 σ' H' ∧ ∀ (k : Nat) (u : Ob), us[k]? = some u → ∃ u' : Ob, us'[k]? = some u' ∧ u'.a = u.a := by
  have key : ∀ (k : Nat) (u : Ob), us[k]? = some u → ∃ u' : Ob, us'[k]? = some u' ∧ (u.a, u.dx, u.p) = (u'.a, u'.dx, u'.p) := fun k u h => by
    obtain ⟨u', h1, h2⟩ := M'.qs k (u.a, u.dx, u.p) (by show (us.map fun u => (u.a, u.dx, u.p))[k]? = _; rw [List.getElem?_map, h]; rfl)
    exact ⟨u', h1, h2⟩
  refine ⟨⟨M'.sr, M'.st, M'.len, M'.ob, M'.al, M'.em, M'.nd, M'.fr, fun k q h => ?_, M'.pz⟩, fun k u h => ?_⟩
  · obtain ⟨u, h1, h2⟩ := M.qs k q h
    obtain ⟨u', h3, h4⟩ := key k u h1
    exact ⟨u', h3, h2.trans h4⟩
  · obtain ⟨u', h3, h4⟩ := key k u h
    exact ⟨u', h3, (congrArg Prod.fst h4).symm⟩
end
end DL
namespace DL
open PySem PySem.Spec PyProof.Rows L2
/-- a method that changes the terms and hands back the object -/
def spWs (K : PySem.W.Frag) (ca : Str → Addr) (F : List D → R En (List D)) : Sp := fun vs H Q E => ∃ (O : Addr → Prop) (a dx n p : Addr) (m : Int) (xs us ns : List V) (ds args : List D) (c : Nat),
  vs = .ref a :: us ∧ StI K ∧ H a = some (.ins (caK K "Stints") dx (stF m n p)) ∧ ¬ O a ∧ H p = some (.lst xs) ∧ O p ∧ xs.length < sizeLine ∧ Od O H ∧ LL K O H n ns ∧ AtAll K O H ns ds ∧ AtAll K O H us args ∧
  (F (stiD m ds c :: args)).post (fun ds' => ∀ H1 n', Ex H H1 → At K (plus O a) H1 (.ref n') (.list ds') → Q (.ref a) (wrH K H1 a dx n p m xs n'))
    (fun x _ => ∀ cls dp H', Ex H H' → ExnAt K O H' ca x cls dp → E cls dp H')
theorem spWs_of {K : PySem.W.Frag} {ca : Str → Addr} {F : List D → R En (List D)} {a : Addr} {vs : List V} {H : Hp} {Q : VK} {E : XK} (h : spWr K ca none F (.ref a :: vs) H (fun _ H' => Q (.ref a) H') E) : spWs K ca F (.ref a :: vs) H Q E := by
  obtain ⟨O, a', dx, n, p, m, xs, us, ns, ds, args, c, e, h1, h2, h3, h4, h5, h6, h7, h8, h9, h10, h11⟩ := h
  have ea : a' = a := by
    injection e with e1 _
    injection e1 with e1
    exact e1.symm
  subst ea
  exact ⟨O, a', dx, n, p, m, xs, us, ns, ds, args, c, e, h1, h2, h3, h4, h5, h6, h7, h8, h9, h10, h11⟩
def tWs (K : PySem.W.Frag) (z : Z) (h : En → R En (List D)) : TS := fun Dd σ H => ∃ (B : Bs) (env : En) (a dx n p : Addr) (m : Int) (xs : List V), SR K z.np B σ H env ∧ WOk K B a dx n p m xs ∧
  (h env).post (fun ds' => ∀ H1 n', Ex B.H0 H1 → At K (plus B.O0 a) H1 (.ref n') (.list ds') → Dd.rt (.ref a) (wrH K H1 a dx n p m xs n')) (XS K z B σ H env)
abbrev DSWs (z : Z) (X : Cx) (sts : List Stmt) (h : En → R En (List D)) : Prop := PSs X sts (tWs X.K z h)
section
variable {X : Cx} {z : Z} {st : Stmt} {sts : List Stmt} {k j : Nat}
theorem dsws_cons {g : SF} {h : En → R En (List D)} {fr : Bool} (h1 : DS z X fr st g) (h2 : DSWs z X sts h) : DSWs z X (st :: sts) (wCons g h) := pss_weak (pss_cons h1 h2) fun Dd σ H ⟨B, env, a, dx, n, p, m, xs, I, W, q⟩ =>
  ⟨B, env, I, (R.post_bind q).imp (fun o ho => by
    cases o with
    | nx e => exact fun σ' H' I' m' => ⟨B, e, a, dx, n, p, m, xs, I', W, ho.imp (fun _ q => q) fun x e q => q.step m'⟩
    | bk e => exact ho.elim
    | ct e => exact ho.elim
    | rt d e => exact ho.elim) fun x e q => q⟩
/-- self.take(..); return self -/
theorem dsws_take {f : EF} {arg : Expr} {fr : Bool} {p1 p2 p3 p4 p5 p6 : Pos} {pl : Sem Bool} (T : HasM X.prog X.w X.K X.mg X.base "take" j ["self", "terms"] (spTake X.K)) (hr : Room k X.A) (hj : j ≤ k) (hgd : X.A.guards = some []) (tk : Takes X z.W) (hs : PE X (.Name "self" p1) (tVar 0)) (hs2 : PE X (.Name "self" p5) (tVar 0)) (ha : DE z X fr arg f) (i : StI X.K)
    (hst : starEach [arg] X.env = (false, eval arg X.env) :: starEach [] X.env := by rfl)
    (hsw : swapsWith (.Call (.Attribute (.Name "self" p1) "take" p2) [arg] [] p3) none p4.line X.env = pure false := by rfl)
    (ht : eval (.Call (.Attribute (.Name "self" p1) "take" p2) [arg] [] p3) X.env = (do
      let ov ← eval (.Name "self" p1) X.env
      standAt p2.atName
      let (f, first) ← holding [ov] (getMethod ov "take" pl)
      callWith p3 f first (backTo p3 (starEach [arg] X.env)) (backToKw p3 (keywordEach [] X.env))) := by rfl) :
    DSWs z X [.Expr (.Call (.Attribute (.Name "self" p1) "take" p2) [arg] [] p3) p4, .Return (some (.Name "self" p5)) p6] (wTake f) := by
  obtain ⟨fa, fd, hm, hb, G, _⟩ := T
  refine pss_weak (pss_cons (ps_expr (pe_methG (pl := pl) hs i.cl hm (G.mono hj) hr hgd hb (fun σ => passAt tk σ) (pa_cons ha pa_nil hst) hst rfl ht) hsw) (pss_one (ps_ret hs2))) fun Dd σ H ⟨B, env, a, dx, n, p, m, xs, I, W, q⟩ => ?_
  obtain ⟨_, hσ, h1, _⟩ := W.at I
  refine ⟨_, hσ, a, dx, _, rfl, h1, st_no (by decide +kernel), B, env, I, (R.post_bind q).imp (fun r hr v H1 I1 m1 a1 _ => ?_) fun x e q => q.xp⟩
  obtain ⟨ex, _, h3, h4⟩ := W.at I1
  refine ⟨rfl, ?_⟩
  obtain ⟨d, e1⟩ := r
  cases d with
  | list ds =>
    dsimp only at hr a1
    split at hr
    · rename_i hn
      cases a1 with
      | @lst n' ys _ l r =>
        have a2 : At X.K B.O0 H1 (.ref n') (.list ds) := At.mv (Mv.less fun b w => .inl w) (.lst l r)
        exact ⟨a, dx, n, p, n', m, xs, rfl, W.i, h3, h4, W.hx, _, hσ, hr H1 n' ex (a2.plus h3 (by simpa only [noDct] using hn))⟩
    · exact hr.elim
  | _ => exact hr.elim
end
section
variable {P : Program} {w : World} {K : PySem.W.Frag} {mg : Str → Option Value} {base : Heap} {ca : Str → Addr}
theorem StandsM.wrs {m q : Str} {st : Stmt} {N ps : List Str} {k : Nat} {h : En → R En (List D)} {n : Nat} (S : StandsM K m q st ps) (sc : FnScope N ps (defScope st)) (hps : ps.length ≤ N.length) (hn : N.length = n)
    (hbody : ∀ (f : Addr) (cdv : Value) (A : Around) (outer : List Env) (s : Shared) (H : Hp) (E : XK), Room k (A.deeper (envOfC q (defScope st) s.heap.objs.size f cdv)) → A.guards = some [] →
      DSWs ⟨ca, [0], fun c d _ H => E c d H, fun _ _ _ _ _ => True⟩ (cxOf (L2.CX P w) P w K mg base N q (defScope st) f cdv A outer s H E) (defBody st) h) :
    HasM P w K mg base m (k + 1) ps (spWs K ca (wrM n h)) := by
  refine S.hasV sc hps fun f cdv A outer s H E Q vs hr hgd hl hsp => ⟨_, hbody f cdv A outer s H E hr hgd, ?_⟩
  obtain ⟨O, a, dx, n0, p, m0, xs, us, ns, ds, args, c, rfl, i, ha, na, hp, op, hx, od, l, r, ar, post⟩ := hsp
  have a0 : At K O H (.ref a) (stiD m0 ds c) := .sti m0 c i ⟨ha, na⟩ l r (paH_of (Int.natCast_nonneg c))
  have al : AtAll K O H (.ref a :: us) (stiD m0 ds c :: args) := .cons a0 ar
  have hlen : (stiD m0 ds c :: args).length = ps.length := by rw [← hl]; exact al.length.symm
  refine ⟨B1 O H a, (stiD m0 ds c :: args).map (fun d => some (Sl.im d)) ++ List.replicate (n - (stiD m0 ds c :: args).length) none, a, dx, n0, p, m0, xs, ?_, ⟨i, rfl, by simp [B1], ha, na, hp, op, hx⟩, R.post.imp post (fun ds' hq H1 n' ex at_ => hq H1 n' ex at_) fun x e hq cls dp σ' H' I' m' hx' => ?_⟩
  · refine sr_flat ?_ (fun j s h => ?_) od rfl rfl (fun _ => rfl) fun q hq => ?_
    · unfold L2.start
      have := al.length
      simp only [List.length_append, List.length_map, List.length_replicate]
      omega
    · rw [show (stiD m0 ds c :: args).map (fun d => some (Sl.im d)) = ((stiD m0 ds c :: args).map Sl.im).map some from by rw [List.map_map]; rfl] at h
      have h' := start_get.1 h
      rw [List.getElem?_map, Option.map_eq_some_iff] at h'
      obtain ⟨d, hd, rfl⟩ := h'
      obtain ⟨v, e, av⟩ := al.get hd
      exact ⟨d, v, rfl, start_get.2 e, av⟩
    · have hq : q = (0, .ref a) := by simpa [B1] using hq
      subst hq
      exact ⟨rfl, by simp⟩
  · exact hq cls dp H' (fun b o e => I'.keep b o e fun p hp => by cases hp) (hx'.mv fun b hb => .inl hb)
end
/-- x |= e -/
def tIor (i : Nat) (C : Addr) (sp : Sp) (E : Sg → XK) (te : TE) : TS := fun Dd σ H => ∃ v, σ[i]? = some (some v) ∧ te σ H fun y H1 => ∃ a dx fs, v = .ref a ∧ H1 a = some (.ins C dx fs) ∧ sp [v, y] H1 (fun r H2 => ∃ c, r = .ref c ∧ Dd.nx (σ.set i (some r)) H2) (E σ)
theorem ps_ior {X : Cx} {i k : Nat} {x : Str} {e : Expr} {te : TE} {C f : Addr} {fd : FuncData} {ps : List Str} {sp : Sp} {E : Sg → XK} {pos pos' : Pos} (hN : X.N.Nodup) (hi : X.N[i]? = some x) (hx : Loc X.env.scope x) (he : PE X e te) (hm : Meth X.K C "__ior__" f) (hsf : PySem.W.selfFirst X.K C = true)
    (F : FnG X.prog X.w X.K X.mg X.base k f fd ps sp) (hr : Room k X.A) (hgd : X.A.guards = some []) (hbd : L2.Binds X.K fd ps []) (hps : ps.length = 2) (hxE : ∀ σ, PassesAt (L2.CX X.prog X.w) X σ (E σ))
    (hf : X.fn x = true ∨ X.env.scope.names.lookup x = some .local := by first | exact .inl rfl | exact .inr rfl | assumption) : PS X (.AugAssign (.Name x pos') .BitOr e pos) (tIor i C sp E te) := by
  refine ⟨fun pins s σ H Dd I ⟨v, e1, h⟩ => ?_⟩
  obtain ⟨m, hn, hl⟩ := I.loc
  have vis : Vis X.env.scope x := by rcases hx with k | k; exact .inl k; exact .inr (.inl k)
  obtain ⟨u, r, l⟩ := hl i x v hi e1 vis
  refine wpAny_AugAssign_Name ?_
  have go : wpAny (model X.prog X.w) X.A (eval e X.env) (fun w s₂ => wpAny (model X.prog X.w) X.A (inplaceOp .BitOr u w) (fun r s₃ => wpAny (model X.prog X.w) X.A (storeName X.env x r) (fun _ => SP X pins Dd .next) X.xe s₃) X.xe s₂) X.xe s := by
    refine thn (he.run pins s σ H _ I h) fun w s1 ⟨y, H1, I1, r1, o, dx, fs, ev, ho, q⟩ => ?_
    subst ev
    cases r
    obtain ⟨mA, J, _⟩ := ins_get I1.hok ho
    obtain ⟨od1, J, _⟩ := J.look
    obtain ⟨m1, hFr⟩ := I1.fr
    refine PySem.W.ksp_inplace (op := .BitOr) hFr I1.ok.mod.kin J hsf hm.at_ hm.fn ?_
    have bnd := hbd s1 [.ref o, w] I1.kIn (by rw [List.append_nil, hps]; rfl)
    rw [List.append_nil] at bnd
    refine wpAny_call (codeAny_mono (F.run X.A X.stack s1 H1 ⟨[.ref o, w], []⟩ [.ref o, w] [.ref o, y] _ (E σ) hr hgd I1.env0 bnd (.cons rfl (.cons r1 .nil)) (by rw [hps]; rfl) q) fun r s' hq => ?_)
    cases r with
    | error e => exact hxE σ pins _ _ e s' I1 hq
    | ok fl =>
      cases fl with
      | next => exact False.elim hq
      | brk => exact False.elim hq
      | cont => exact False.elim hq
      | ret w =>
        obtain ⟨v', H', I', rv, c, ec, q'⟩ := I1.after hq
        subst ec
        cases rv
        exact store_ok (v := .ref c) I' hN hi hx rfl (fun s3 I3 => ⟨_, H', I3, q'⟩) hf
  rcases l with ⟨hk, hm⟩ | ⟨hk, c, hc, hcell⟩
  · exact wpAny_loadName_local I.ok.kind hk hn hm go
  · rcases hk with hk | hk
    · exact wpAny_loadName_cell I.ok.kind hk hc hcell go
    · rcases hx with k | k
      · have : X.env.scope.names.lookup x = some .free := hk
        rw [k] at this; cases this
      · have : X.env.scope.names.lookup x = some .free := hk
        rw [k] at this; cases this
def nIor (i : Nat) (F : List D → R En (List D)) (g : EF) : NF := fun w => match w.al.lookup i with
  | some _ => (g w.v).upN w fun q => (wrW i none F [q.1] (w.put q.2)).bind fun p => .ok (.nx p.2)
  | none => .stuck
section
variable {X : Cx} {z : Z} {oi : List Nat} {i j k l : Nat}
theorem ns_ior {x : Str} {fe : Bool} {F : List D → R En (List D)} {g : EF} {e : Expr} {pos pos' : Pos} (T : HasM X.prog X.w X.K X.mg X.base "__ior__" l ["self", "other"] (spWs X.K z.ca F)) (S : StJ X.K X.mg) (hr : Room k X.A) (hj : l ≤ k) (hgd : X.A.guards = some []) (tk : Takes X z.W)
    (hN : X.N.Nodup) (hn : X.N[i]? = some x) (hx : Loc X.env.scope x) (he : DE (z.atN oi) X fe e g)
    (hf : X.fn x = true ∨ X.env.scope.names.lookup x = some .local := by first | exact .inl rfl | exact .inr rfl | assumption) : NS z X oi (.AugAssign (.Name x pos') .BitOr e pos) (nIor i F g) := by
  obtain ⟨fa, fd, hm, hb, G, _⟩ := T
  refine ps_weak (ps_ior hN hn hx he hm S.sf (G.mono hj) hr hgd hb rfl (fun σ => passAt (W := z.W) tk σ) hf) fun Dd σ H ⟨b, us, w, M, q⟩ => ?_
  unfold nIor at q
  cases hk : w.al.lookup i with
  | none => rw [hk] at q; exact q.elim
  | some k0 =>
    rw [hk] at q
    dsimp only at q
    have hkl : k0 < us.length := (M.al _ (lookup_mem hk)).2
    have hu : us[k0]? = some us[k0] := List.getElem?_eq_getElem hkl
    have hσ := M.name hk hu
    refine ⟨_, hσ, b.B X.K us w.al, w.v, M.see.1, ?_⟩
    cases hg : g w.v with
    | stuck => rw [hg] at q; exact q.elim
    | err y e' => rw [hg] at q; exact (M.xs q).xp
    | ok r =>
      rw [hg] at q
      intro y H1 I1 m1 a1 _
      have M1 := M.plain I1 m1
      have mp := M.mvP I1 m1
      refine ⟨us[k0].a, us[k0].dx, _, rfl, (M1.kept (M.mem hu)).1, spWs_of ?_⟩
      have hset : σ.set i (some (.ref us[k0].a)) = σ := by
        apply List.ext_getElem?
        intro l
        by_cases e : i = l
        · subst e
          rw [List.getElem?_set_self (List.getElem?_eq_some_iff.mp hσ).1, hσ]
        · rw [List.getElem?_set_ne e]
      rw [hset]
      have q : R.post (SN X.K z oi b us w σ H Dd) (XN X.K z oi b us w σ H) ((wrW i none F [r.1] (w.put r.2)).bind fun p => .ok (.nx p.2)) := q
      exact wrN_core (ret := none) (vs := [y]) (args := [r.1]) M1 hk hu (.cons (a1.mv (M.mvp I1)) .nil) ((R.post_bind q).imp (fun p hp v H' us' M' m' _ => ⟨_, rfl, hp σ H' us' M' (mp.trans m')⟩) fun x e hx => hx.step mp)
end
end DL
namespace DL
open PySem PySem.Spec PyProof.Rows L2
def nForPF (i j : Nat) (g : NF) (n : Nat) : List (Nat × Nat) → Wo → R Wo OutN
  | [], w => .ok (.nx w)
  | q :: r, w => (g ((w.bnd i q.1).bnd j q.2)).bind fun o => match o with
    | .nx w' => nForPF i j g n r (w'.cut n)
    | o => .ok o
/-- for x, y in [(a, b), (c, d)], all objects -/
def nForP (i j a b c d : Nat) (g : NF) : NF := fun w => match w.al.lookup a, w.al.lookup b, w.al.lookup c, w.al.lookup d with
  | some k1, some k2, some k3, some k4 => nForPF i j g w.os.length [(k1, k2), (k3, k4)] w
  | _, _, _, _ => .stuck
section
variable {K : PySem.W.Frag} {z : Z} {oi : List Nat} {b : Bn} {us us' : List Ob} {w w1 : Wo} {σ σ' : Sg} {H H' : Hp}
theorem SN.more {Dd : Ends} {o : OutN} (M : ON K z oi b us w σ H) (h : SN K z oi b us w σ H Dd o) : SN K z oi { b with qs := us.map fun u => (u.a, u.dx, u.p) } us w σ H Dd o := by
  cases o with
  | nx e => exact fun σ' H' us' M' m' => h σ' H' us' (M.see_less M').1 m'
  | rt d e => exact fun v σ' H' us' M' m' => h v σ' H' us' (M.see_less M').1 m'
  | ro k e => exact fun σ' H' us' u M' m' => h σ' H' us' u (M.see_less M').1 m'
theorem XN.more {x : Exn} {e : Wo} (M : ON K z oi b us w σ H) (h : XN K z oi b us w σ H x e) : XN K z oi { b with qs := us.map fun u => (u.a, u.dx, u.p) } us w σ H x e := fun cls dp σ' H' us' M' m' => h cls dp σ' H' us' (M.see_less M').1 m'
end
section
variable {X : Cx} {z : Z} {oi : List Nat}
theorem pg_len {tg : Expr} {t : TG} (h : PG X tg t) : PG X tg (fun v σ H Q => σ.length = X.N.length → t v σ H Q) := ⟨fun pins s σ H v u Q I r q => h.run pins s σ H v u Q I r (q I.len)⟩
theorem forP_core {i j : Nat} {l t1 t2 : Addr} {g : NF} {b : Bn} {us : List Ob} {w : Wo} {σ : Sg} {H H1 : Hp} {Dd : Ends} {k1 k2 k3 k4 : Nat} {u1 u2 u3 u4 : Ob} (io : i ∈ oi) (jo : j ∈ oi) (iz : i ∉ z.np) (jz : j ∉ z.np) (li : i < X.N.length) (lj : j < X.N.length) (M : ON X.K z oi b us w σ H)
    (h1 : us[k1]? = some u1) (h2 : us[k2]? = some u2) (h3 : us[k3]? = some u3) (h4 : us[k4]? = some u4) (ex : Ex H H1) (nl : H l = none) (n1 : H t1 = none) (n2 : H t2 = none) (hl : H1 l = some (.lst [.ref t1, .ref t2])) (ht1 : H1 t1 = some (.tup [.ref u1.a, .ref u2.a])) (ht2 : H1 t2 = some (.tup [.ref u3.a, .ref u4.a]))
    (q : (nForPF i j g w.os.length [(k1, k2), (k3, k4)] w).post (SN X.K z oi b us w σ H Dd) (XN X.K z oi b us w σ H)) :
    ∃ W : Nat → Nat → Sg → Hp → Prop, (∃ m, W 0 m σ H1) ∧ ∀ k m σ H, W k m σ H →
      (((Itl X.K l).stop k H ∧ Dd.nx σ H) ∨ ((Itl X.K l).go k H ∧ ∃ N : Sg → Hp → Prop, (∀ σ' H', N σ' H' → ∃ m', m' < m ∧ W (k + 1) m' σ' H') ∧ ∀ x H', (Itl X.K l).yld k H x H' →
        (σ.length = X.N.length → gTup X.K 2 (gCons (gName i) (gCons (gName j) gNil)) x σ H' fun σ2 H2 => tSN X.K z oi g { Dd with nx := N, ct := N, bk := Dd.nx } σ2 H2))) := by
  have M1 := M.ex ex
  let b' : Bn := { b with qs := us.map fun u => (u.a, u.dx, u.p) }
  have hq : ∀ (k : Nat) (p : Addr × Addr × Addr), b'.qs[k]? = some p → k < w.os.length := fun k p h => by
    have h : (us.map fun u => (u.a, u.dx, u.p))[k]? = some p := h
    rw [List.getElem?_map, Option.map_eq_some_iff] at h
    obtain ⟨u, h1, _⟩ := h
    rw [← M.len]
    exact (List.getElem?_eq_some_iff.mp h1).1
  have q : (nForPF i j g w.os.length [(k1, k2), (k3, k4)] w).post (SN X.K z oi b' us w σ H1 Dd) (XN X.K z oi b' us w σ H1) := R.post.imp q (fun o ho => (ho.step (Mv.ex ex)).more M1) fun x e hx => (XN.step (Mv.ex ex) hx).more M1
  have keepN : ∀ {us' wi σ' Hh}, Mv (b'.P X.K us w σ) (b'.P X.K us' wi σ') H1 Hh → ∀ x o, H x = none → H1 x = some o → Hh x = some o := fun m x o hx h => m.keep x o h (M.odP x hx)
  have ob : ∀ {us' wi σ' Hh}, ON X.K z oi b' us' wi σ' Hh → ∀ (k : Nat) (u : Ob), us[k]? = some u → ∃ u' : Ob, us'[k]? = some u' ∧ u'.a = u.a := fun J k u h => (M1.see_less J).2 k u h
  refine ⟨fun k mm σ' Hh => ∃ us' wi, mm = 2 - k ∧ k ≤ 2 ∧ ON X.K z oi b' us' wi σ' Hh ∧ Mv (b'.P X.K us w σ) (b'.P X.K us' wi σ') H1 Hh ∧ (nForPF i j g w.os.length (([(k1, k2), (k3, k4)] : List (Nat × Nat)).drop k) wi).post (SN X.K z oi b' us w σ H1 Dd) (XN X.K z oi b' us w σ H1), ⟨2, us, w, rfl, by omega, M1.see_more, .refl, q⟩, ?_⟩
  rintro k mm σ' Hh ⟨us', wi, rfl, hk, J, m, hc⟩
  have sl : SqL X.K Hh l [.ref t1, .ref t2] := SqL.of (keepN m l _ nl hl)
  -- one turn
  have turn : ∀ (a c : Nat) (ua uc : Ob) (t : Addr), us[a]? = some ua → us[c]? = some uc → H t = none → H1 t = some (.tup [.ref ua.a, .ref uc.a]) → k < 2 → (nForPF i j g w.os.length ((a, c) :: ([(k1, k2), (k3, k4)] : List (Nat × Nat)).drop (k + 1)) wi).post (SN X.K z oi b' us w σ H1 Dd) (XN X.K z oi b' us w σ H1) →
      σ'.length = X.N.length → gTup X.K 2 (gCons (gName i) (gCons (gName j) gNil)) (.ref t) σ' Hh fun σ2 H2 => tSN X.K z oi g { Dd with nx := fun σ'' H' => ∃ us' wi, ON X.K z oi b' us' wi σ'' H' ∧ Mv (b'.P X.K us w σ) (b'.P X.K us' wi σ'') H1 H' ∧ (nForPF i j g w.os.length (([(k1, k2), (k3, k4)] : List (Nat × Nat)).drop (k + 1)) wi).post (SN X.K z oi b' us w σ H1 Dd) (XN X.K z oi b' us w σ H1), ct := fun σ'' H' => ∃ us' wi, ON X.K z oi b' us' wi σ'' H' ∧ Mv (b'.P X.K us w σ) (b'.P X.K us' wi σ'') H1 H' ∧ (nForPF i j g w.os.length (([(k1, k2), (k3, k4)] : List (Nat × Nat)).drop (k + 1)) wi).post (SN X.K z oi b' us w σ H1 Dd) (XN X.K z oi b' us w σ H1), bk := Dd.nx } σ2 H2 := by
    intro a c ua uc t ha hcc hn ht hlt hp hlen
    obtain ⟨va, ea, eaa⟩ := ob J a ua ha
    obtain ⟨vc, ec, ecc⟩ := ob J c uc hcc
    refine ⟨t, [.ref ua.a, .ref uc.a], rfl, .inl (.inl (keepN m t _ hn ht)), rfl, .ref ua.a, [.ref uc.a], rfl, .ref uc.a, [], rfl, rfl, ?_⟩
    obtain ⟨J2, m2⟩ := J.bnd ea io iz (by rw [hlen]; exact li)
    obtain ⟨J3, m3⟩ := J2.bnd ec jo jz (by rw [List.length_set, hlen]; exact lj)
    rw [← eaa, ← ecc]
    have mm := (m.trans m2).trans m3
    unfold nForPF at hp
    refine ⟨b', us', _, J3, (R.post_bind hp).imp (fun o ho => ?_) fun x e hx => XN.step mm hx⟩
    cases o with
    | nx w' =>
      intro σ3 H3 us3 M3 m6
      obtain ⟨M4, m7⟩ := M3.cut hq
      exact ⟨_, _, M4, (mm.trans m6).trans m7, ho⟩
    | rt d w' => exact fun v σ3 H3 us3 M3 m6 => ho v σ3 H3 us3 M3 (mm.trans m6)
    | ro k w' => exact fun σ3 H3 us3 u M3 m6 => ho σ3 H3 us3 u M3 (mm.trans m6)
  have step : ∀ σ'' H', (∃ us' wi, ON X.K z oi b' us' wi σ'' H' ∧ Mv (b'.P X.K us w σ) (b'.P X.K us' wi σ'') H1 H' ∧ (nForPF i j g w.os.length (([(k1, k2), (k3, k4)] : List (Nat × Nat)).drop (k + 1)) wi).post (SN X.K z oi b' us w σ H1 Dd) (XN X.K z oi b' us w σ H1)) → k < 2 → ∃ m', m' < 2 - k ∧ ∃ us' wi, m' = 2 - (k + 1) ∧ k + 1 ≤ 2 ∧ ON X.K z oi b' us' wi σ'' H' ∧ Mv (b'.P X.K us w σ) (b'.P X.K us' wi σ'') H1 H' ∧ (nForPF i j g w.os.length (([(k1, k2), (k3, k4)] : List (Nat × Nat)).drop (k + 1)) wi).post (SN X.K z oi b' us w σ H1 Dd) (XN X.K z oi b' us w σ H1) := fun σ'' H' ⟨us', wi, q⟩ hlt => ⟨2 - (k + 1), by omega, us', wi, rfl, by omega, q⟩
  match k, hk with
  | 0, _ =>
    refine .inr ⟨⟨_, _, sl, rfl⟩, _, fun σ'' H' h => step σ'' H' h (by omega), fun x H' y => ?_⟩
    obtain ⟨rfl, y⟩ := y
    have e := y _ sl
    cases e
    exact turn k1 k2 u1 u2 t1 h1 h2 n1 ht1 (by omega) hc
  | 1, _ =>
    refine .inr ⟨⟨_, _, sl, rfl⟩, _, fun σ'' H' h => step σ'' H' h (by omega), fun x H' y => ?_⟩
    obtain ⟨rfl, y⟩ := y
    have e := y _ sl
    cases e
    exact turn k3 k4 u3 u4 t2 h3 h4 n2 ht2 (by omega) hc
  | 2, _ => exact .inl ⟨⟨_, sl, Nat.le_refl _⟩, hc σ' Hh us' J m⟩
/-- for x, y in [(a, b), (c, d)] -/
theorem ns_forP {i j a b c d : Nat} {x y : Str} {ea eb ec ed : Expr} {body : List Stmt} {px py pt p1 p2 p3 pos : Pos} {kt k1 k2} {g : NF} (hp : PassesOwn (model X.prog X.w) X.A X.env X.xe) (hc : X.calm = true) (hN : X.N.Nodup) (hi : X.N[i]? = some x) (hj : X.N[j]? = some y) (hx : Loc X.env.scope x) (hy : Loc X.env.scope y)
    (io : i ∈ oi) (jo : j ∈ oi) (iz : i ∉ z.np) (jz : j ∉ z.np) (ha : PE X ea (tVar a)) (hb : PE X eb (tVar b)) (hcc : PE X ec (tVar c)) (hd : PE X ed (tVar d)) (hbody : NSs z X oi body g)
    (hf1 : X.fn x = true ∨ X.env.scope.names.lookup x = some .local := by first | exact .inl rfl | exact .inr rfl | assumption) (hf2 : X.fn y = true ∨ X.env.scope.names.lookup y = some .local := by first | exact .inl rfl | exact .inr rfl | assumption)
    (s1 : starEach [ea, eb] X.env = (false, eval ea X.env) :: starEach [eb] X.env := by rfl) (s2 : starEach [eb] X.env = (false, eval eb X.env) :: starEach [] X.env := by rfl) (s3 : starEach [ec, ed] X.env = (false, eval ec X.env) :: starEach [ed] X.env := by rfl) (s4 : starEach [ed] X.env = (false, eval ed X.env) :: starEach [] X.env := by rfl)
    (s5 : starEach [Expr.Tuple [ea, eb] k1 p1, Expr.Tuple [ec, ed] k2 p2] X.env = (false, eval (.Tuple [ea, eb] k1 p1) X.env) :: starEach [Expr.Tuple [ec, ed] k2 p2] X.env := by rfl) (s6 : starEach [Expr.Tuple [ec, ed] k2 p2] X.env = (false, eval (.Tuple [ec, ed] k2 p2) X.env) :: starEach [] X.env := by rfl)
    (as1 : (assignEach [Expr.Name x px, Expr.Name y py] X.env).map (·.2) = assign (.Name x px) X.env :: (assignEach [Expr.Name y py] X.env).map (·.2) := by rfl) (as2 : (assignEach [Expr.Name y py] X.env).map (·.2) = assign (.Name y py) X.env :: (assignEach [] X.env).map (·.2) := by rfl)
    (hn : (assignEach [Expr.Name x px, Expr.Name y py] X.env).length = 2 := by rfl) (hst : (assignEach [Expr.Name x px, Expr.Name y py] X.env).findIdx? (·.1) = none := by rfl)
    (hs : ∀ v, foldedSetIterable (.List [.Tuple [ea, eb] k1 p1, .Tuple [ec, ed] k2 p2] p3) X.env v = pure v := by intro _; rfl) :
    NS z X oi (.For (.Tuple [.Name x px, .Name y py] kt pt) (.List [.Tuple [ea, eb] k1 p1, .Tuple [ec, ed] k2 p2] p3) body [] pos) (nForP i j a b c d g) := by
  refine ps_weak (ps_for hp hc (pi_list (pe_lst (pa_cons (pe_tup (pa_cons ha (pa_cons hb pa_nil s2) s1)) (pa_cons (pe_tup (pa_cons hcc (pa_cons hd pa_nil s4) s3)) pa_nil s6) s5)))
    (pg_len (pg_tup hc (pgs_cons (pg_name hN hi hx hf1) (pgs_cons (pg_name hN hj hy hf2) pgs_nil as2) as1) hn hst)) hbody hs) fun Dd σ H ⟨bn, us, w, M, q⟩ => ?_
  unfold nForP at q
  split at q
  · rename_i ka kb kc kd e1 e2 e3 e4
    have get : ∀ {s k : Nat}, w.al.lookup s = some k → ∃ u, us[k]? = some u ∧ σ[s]? = some (some (.ref u.a)) := fun {s k} h => by
      have hkl : k < us.length := (M.al _ (lookup_mem h)).2
      have hu : us[k]? = some us[k] := List.getElem?_eq_getElem hkl
      exact ⟨_, hu, M.name h hu⟩
    obtain ⟨u1, h1, g1⟩ := get e1
    obtain ⟨u2, h2, g2⟩ := get e2
    obtain ⟨u3, h3, g3⟩ := get e3
    obtain ⟨u4, h4, g4⟩ := get e4
    refine ⟨_, g1, _, g2, by rw [sizeLine_eq]; show 2 ≤ 16777216; decide, fun t1 ht1 => ⟨_, g3, _, g4, by rw [sizeLine_eq]; show 2 ≤ 16777216; decide, fun t2 ht2 => ⟨by rw [sizeLine_eq]; show 2 ≤ 16777216; decide, fun l hl => ?_⟩⟩⟩
    have x1 : Ex H (upd H t1 (.tup [.ref u1.a, .ref u2.a])) := Ex.new ht1
    have x2 := Ex.new (o := .tup [.ref u3.a, .ref u4.a]) ht2
    have x3 := Ex.new (o := .lst [.ref t1, .ref t2]) hl
    refine ⟨l, rfl, ⟨_, SqL.of upd_same⟩, ?_⟩
    exact forP_core io jo iz jz (List.getElem?_eq_some_iff.mp hi).1 (List.getElem?_eq_some_iff.mp hj).1 M h1 h2 h3 h4 (fun y o h => x3 y o (x2 y o (x1 y o h))) (Ex.dom x1 _ (Ex.dom x2 _ hl)) ht1 (Ex.dom x1 _ ht2) upd_same (x3 _ _ (x2 _ _ upd_same)) (x3 _ _ upd_same) q
  · exact q.elim
/-- x, y = .., .., where a name is a cell -/
theorem ns_parC {i j : Nat} {f g : Wo → R Wo Wo} {x y : Str} {ea eb : Expr} {px py pt pos : Pos} {kt k2 pt2} (hc : X.calm = true) (hN : X.N.Nodup) (hi : X.N[i]? = some x) (hj : X.N[j]? = some y) (hx : Loc X.env.scope x) (hy : Loc X.env.scope y)
    (io : i ∈ oi) (jo : j ∈ oi) (iz : i ∉ z.np) (jz : j ∉ z.np) (ha : NM z X oi ea f) (hb : NM z X oi eb g)
    (hf1 : X.fn x = true ∨ X.env.scope.names.lookup x = some .local := by first | exact .inl rfl | exact .inr rfl | assumption) (hf2 : X.fn y = true ∨ X.env.scope.names.lookup y = some .local := by first | exact .inl rfl | exact .inr rfl | assumption)
    (hst1 : starEach [ea, eb] X.env = (false, eval ea X.env) :: starEach [eb] X.env := by rfl)
    (hst2 : starEach [eb] X.env = (false, eval eb X.env) :: starEach [] X.env := by rfl)
    (as1 : (assignEach [Expr.Name x px, Expr.Name y py] X.env).map (·.2) = assign (.Name x px) X.env :: (assignEach [Expr.Name y py] X.env).map (·.2) := by rfl) (as2 : (assignEach [Expr.Name y py] X.env).map (·.2) = assign (.Name y py) X.env :: (assignEach [] X.env).map (·.2) := by rfl)
    (hn : (assignEach [Expr.Name x px, Expr.Name y py] X.env).length = 2 := by rfl) (hst : (assignEach [Expr.Name x px, Expr.Name y py] X.env).findIdx? (·.1) = none := by rfl)
    (hs : swapsWithSole [.Tuple [.Name x px, .Name y py] kt pt] (.Tuple [ea, eb] k2 pt2) pos.line X.env = pure false := by rfl)
    (hw : swappedStores [.Tuple [.Name x px, .Name y py] kt pt] (.Tuple [ea, eb] k2 pt2) X.env = pure none := by rfl)
    (h1 : (assignEach [.Tuple [.Name x px, .Name y py] kt pt] X.env).map (·.2) = [assign (.Tuple [.Name x px, .Name y py] kt pt) X.env] := by rfl) :
    NS z X oi (.Assign [.Tuple [.Name x px, .Name y py] kt pt] (.Tuple [ea, eb] k2 pt2) pos) (nPar i j f g) := by
  refine ps_weak (ps_asg (pe_tup (pa_cons ha (pa_cons hb pa_nil hst2) hst1)) (pg_len (pg_tup hc (pgs_cons (pg_name hN hi hx hf1) (pgs_cons (pg_name hN hj hy hf2) pgs_nil as2) as1) hn hst)) hs hw h1) fun Dd σ H ⟨b, us, w, M, q⟩ => ?_
  refine ⟨b, us, w, M, (R.post_bind q).imp (fun w1 hp H1 us1 u M1 m1 hu => ?_) fun _ _ q => q⟩
  refine ⟨{ b with qs := us1.map fun u => (u.a, u.dx, u.p) }, us1, w1, M1.see_more, (R.post_bind hp).imp (fun w2 hp2 H2 us2 v M2 m2 hv => ⟨by rw [sizeLine_eq]; show 2 ≤ 16777216; decide, fun t ht hlen => ?_⟩) fun xe e hx cls dp σ' H' us' M' m' ha => hx cls dp σ' H' us' (M1.see_less M').1 (m1.trans m') ha⟩
  have ex : Ex H2 (upd H2 t (.tup [.ref u.a, .ref v.a])) := Ex.new ht
  refine ⟨t, _, rfl, .inl (.inl upd_same), rfl, _, _, rfl, _, _, rfl, rfl, ?_⟩
  obtain ⟨M3, hk⟩ := M1.see_less M2
  have M3 := M3.ex ex
  obtain ⟨u', hu', ea⟩ := hk _ u (last_get hu)
  obtain ⟨M4, m4⟩ := M3.bnd (k := w1.os.length - 1) (by rw [← M1.len]; exact hu') io iz (by rw [hlen]; exact (List.getElem?_eq_some_iff.mp hi).1)
  obtain ⟨M5, m5⟩ := M4.bnd (k := w2.os.length - 1) (by rw [← M3.len]; exact last_get hv) jo jz (by rw [List.length_set, hlen]; exact (List.getElem?_eq_some_iff.mp hj).1)
  rw [ea] at M5 m5 m4
  exact hp2 _ _ _ M5 ((((m1.trans m2).trans (Mv.ex ex)).trans m4).trans m5)
end
end DL
namespace DL
open PySem PySem.Spec PyProof.Rows L2
/-- a value whose type is known and is no class of the text's -/
def TyIs (X : Cx) (H : Hp) (y : V) (tb : Value) : Prop := ∀ (pins : List (Addr × Obj)) (s : Shared) (σ : Sg) (u : Value), Inv X pins σ H s → RelV y u → PySem.W.Looks (model X.prog X.w) s.heap (typeOf u) tb
theorem looks_is {M : Model} {s : Shared} {u : Value} {T : String} (h : s.TypeIs u T) : PySem.W.Looks M s.heap (typeOf u) (.type T) := by
  cases u with
  | ref a =>
    obtain ⟨o, e, c⟩ := h
    exact fun A Q E s' k q => wpAny_typeOf_ref (k _ _ e) (by rw [c]; exact q)
  | _ => exact PySem.W.Looks.of_pure h
theorem ty_seq {X : Cx} {H : Hp} {p : Addr} {xs : List V} (h : SqL X.K H p xs) : TyIs X H (.ref p) (.type "list") := fun pins s σ u I r => looks_is (tyV_is I r (T := "list") (.inl ⟨rfl, xs, h⟩)).1
theorem ty_tup {X : Cx} {H : Hp} {p : Addr} {xs : List V} (h : SqT X.K H p xs) : TyIs X H (.ref p) (.type "tuple") := fun pins s σ u I r => by
  cases r
  obtain ⟨its, rv, pl, hz⟩ := I.tuple h
  obtain ⟨o, e1, e2⟩ := pl
  exact looks_is (T := "tuple") ⟨o, e1, e2.1⟩
def othD : D → Bool
  | .none => true
  | .int _ => true
  | .list _ => true
  | .tuple _ => true
  | _ => false
/-- x == y, x a Stints, y anything -/
def eqXD (F : FD) : D → D → Option D := fun d e => if (manyD d).isSome = true ∧ ((manyD e).isSome = true ∨ othD e = true) then (match F [.im d, .im e] with
  | .ok (.bool b, _) => some (.bool b)
  | _ => none) else none
def neXD (F : FD) : D → D → Option D := fun d e => (eqXD F d e).bind fun r => match r with
  | .bool b => some (.bool (!b))
  | _ => none
section
variable {X : Cx} {pins : List (Addr × Obj)} {σ : Sg} {H : Hp} {s : Shared} {k j : Nat} {ca : Str → Addr}
theorem othTy {O : Addr → Prop} {y : V} {e : D} (a : At X.K O H y e) (h : othD e = true) : ∃ T : String, TyIs X H y (.type T) ∧ (fastBuiltinMro T).isSome = true ∧ ∀ C : Addr, PySem.W.notFirst X.K C (.type T) = true := by
  cases a with
  | non => exact ⟨"NoneType", fun _ _ _ u _ r => by cases r; exact .of_pure rfl, rfl, fun C => rfl⟩
  | int i => exact ⟨"int", fun _ _ _ u _ r => by obtain ⟨t, rfl⟩ := r; exact .of_pure rfl, rfl, fun C => rfl⟩
  | lst l r => exact ⟨"list", ty_seq l.1, rfl, fun C => rfl⟩
  | tup l r => exact ⟨"tuple", ty_tup l.1, rfl, fun C => rfl⟩
  | _ => cases h
theorem eqX_facts {O : Addr → Prop} {F : FD} {x y : V} {d e w : D} (ad : At X.K O H x d) (ae : At X.K O H y e) (hw : eqXD F d e = some w) :
    ∃ (a dx : Addr) (fs : List (Str × V)) (c : Bool) (t : List Sl) (tb : Value), x = .ref a ∧ H a = some (.ins (caK X.K "Stints") dx fs) ∧ F [.im d, .im e] = .ok (.bool c, t) ∧ w = .bool c ∧ TyIs X H y tb ∧ PySem.W.notFirst X.K (caK X.K "Stints") tb = true ∧ StI X.K := by
  unfold eqXD at hw
  split at hw
  · rename_i hc
    obtain ⟨w1, h1⟩ := Option.isSome_iff_exists.mp hc.1
    obtain ⟨a, dx, n, p, m, rfl, e1, _, i⟩ := at_many ad h1
    have hty : ∃ tb, TyIs X H y tb ∧ PySem.W.notFirst X.K (caK X.K "Stints") tb = true := by
      rcases hc.2 with h2 | h2
      · obtain ⟨w2, h2⟩ := Option.isSome_iff_exists.mp h2
        obtain ⟨b, dy, n2, p2, m2, rfl, e2, _, _⟩ := at_many ae h2
        refine ⟨.ref (caK X.K "Stints"), fun pins s σ u I r => ?_, by simp [PySem.W.notFirst]⟩
        cases r
        obtain ⟨mB, J, _⟩ := ins_get I.hok e2
        obtain ⟨odb, J, _⟩ := J.look
        exact J.type
      · obtain ⟨T, h3, _, h4⟩ := othTy ae h2
        exact ⟨_, h3, h4 _⟩
    obtain ⟨tb, h3, h4⟩ := hty
    split at hw
    · rename_i c t hF
      cases hw
      exact ⟨a, dx, _, c, t, tb, rfl, e1, hF, rfl, h3, h4, i⟩
    · cases hw
  · cases hw
theorem od_eqX {fr : Bool} {F : FD} (T : HasM X.prog X.w X.K X.mg X.base "__eq__" j ["self", "other"] (spD X.K ca [] fr F)) (hr : Room k X.A) (hj : j ≤ k) (hgd : X.A.guards = some []) : OpD X (compareOp .Eq) true (eqXD F) := by
  obtain ⟨f, fd, hm, hb, G, _⟩ := T
  refine ⟨fun x y H Q => ∃ (O : Addr → Prop) (d e : D) (w : D), Od O H ∧ At X.K O H x d ∧ At X.K O H y e ∧ eqXD F d e = some w ∧ ∃ c, w = .bool c ∧ ∀ H', Ex H H' → Q (.bl c) H', ?_, fun O H x y d e w Q od ad ae hw q => ?_⟩
  · rintro pins s σ H x y v u Q I rx ry ⟨O, d, e, w, od, ad, ae, hw, c, rfl, q⟩
    obtain ⟨a, dx, fs, c', t, tb, rfl, ha, hF, ew, ty, nf, i⟩ := eqX_facts ad ae hw
    cases ew
    cases rx
    obtain ⟨mA, J, _⟩ := ins_get I.hok ha
    obtain ⟨oda, J, _⟩ := J.look
    obtain ⟨m, hFr⟩ := I.fr
    show wpAny (model X.prog X.w) X.A (richCompare .Eq (.ref a) u) (EP X pins σ Q) X.xe s
    refine PySem.W.cmp_K (op := .Eq) (hr.mono (Nat.zero_le _)).units0 hFr I.ok.mod.kin J (ty pins s σ u I ry) nf hm.at_ hm.fn ?_
    refine run_plain (vs := [.ref a, y]) hb G (hr.mono hj) hgd rfl I rfl (.cons rfl (.cons ry .nil)) rfl od (.cons ad (.cons ae .nil)) hF fun r v H' s' I' ex rv av => ?_
    cases av
    cases rv
    exact ⟨.bl c, H', I', rfl, q H' ex⟩
  · obtain ⟨_, _, _, c, _, _, _, _, _, ew, _⟩ := eqX_facts ad ae hw
    exact ⟨O, d, e, w, od, ad, ae, hw, c, ew, fun H' ex => q _ _ (by rw [ew]; exact ⟨ex, .bl c, fun _ _ e => nomatch e⟩)⟩
end
section
variable {prog : Program} {w : World} {A : Around} {E : Value → Shared → Prop} {s : Shared} {K : PySem.W.Frag} {x C f L : Addr} {h₀ : Heap} {m : Str → Option Value} {ox : Obj} {od : Option Obj} {b tb : Value}
open PySem.W
theorem ne_inner {Q : PySem.Fin → Shared → Prop} (hu : A.units < cLine) (X : K.In s.heap) (I : InstAt s.heap x ox C od) (hs : findIn K (.ref C) "__eq__" = some (some (.ref f))) (hf : isFn K (.ref f) = true)
    (h : wpAny (model prog w) A (call (.ref f) [.ref x, b]) (fun v s' => ∃ c, v = .bool c ∧ Q (.done (.ret (.bool (!c)))) s') E s) : wpAny (model prog w) A (Builtin.«object.__ne__» ⟨[.ref x, b], []⟩) Q E s := by
  show wpAny _ _ (do
    cRoomFor "comparison" [.ref x, b]
    match ← callSpecialIfBound? (.ref x) "__eq__" [b] with
    | some .notImplemented | none => ret .notImplemented
    | some r => ret (.bool (!(← truthy r)))) _ _ _
  refine wpAny_bind (wpAny_cRoomFor hu (wpAny_bind (ifBound_K X I hs hf (wpAny_mono h (fun v s' hv => ?_) fun _ _ e => e))))
  obtain ⟨c, rfl, hq⟩ := hv
  exact wpAny_bind (wpAny_truthy_bool (wpAny_pure hq))
theorem neq_K {Q : Value → Shared → Prop} (hu : A.units + 1 < cLine) (F : Fr h₀ L s.heap m) (X₀ : K.In h₀) (I : InstAt s.heap x ox C od) (hb : Looks (model prog w) s.heap (typeOf b) tb) (hn : notFirst K C tb = true)
    (hs : findIn K (.ref C) "__eq__" = some (some (.ref f))) (hf : isFn K (.ref f) = true) (hne : findIn K (.ref C) "__ne__" = some (some (.builtin "object.__ne__"))) (hm : mroIn K C (.type "object") = some true)
    (h : wpAny (model prog w) A.in1 (call (.ref f) [.ref x, b]) (fun v s' => ∃ c, v = .bool c ∧ Q (.bool (!c)) s') E s) : wpAny (model prog w) A (richCompare .NotEq (.ref x) b) Q E s := by
  have X := X₀.keeps F.keep
  have inner : wpAny (model prog w) A (call (.builtin "object.__ne__") [.ref x, b]) (fun v s' => ∃ c, v = .bool c ∧ Q (.bool c) s') E s := by
    refine wpAny_call (codeAny_call_builtin PySem.F.slot_object_ne.plain PySem.F.cmpEntry_ne (check_slot (owner := "object") (n := "__ne__") PySem.F.cmpKind_ne PySem.F.cmpSplit_ne (I.type.andThen (looks_mroIn X hm)) (PySem.F.cmpArgs_ne _ _) ?_))
    refine ne_inner (A := A.in1) (by simpa using hu) X I hs hf (wpAny_mono h (fun v s' hv => ?_) fun _ _ e => e)
    obtain ⟨c, rfl, hq⟩ := hv
    exact ⟨c, rfl, !c, rfl, hq⟩
  have one : wpAny (model prog w) A (tryCompare (.ref x) (cmpInfo .NotEq).2.1 b) (fun r s' => ∃ v, r = some v ∧ Q v s') E s := by
    unfold tryCompare
    simp only [callSpecialIfBound?, bindSpecialIfBound?]
    refine wpAny_bind (wpAny_holding (wpAny_bind (wpAny_bind (wpAny_bind (I.type.here ((looks_findIn X hne).here ?_))))))
    refine wpAny_bind (wpAny_askSetting (wpAny_ite ?_))
    have fin : wpAny (model prog w) A (call (.builtin "object.__ne__") ([.ref x] ++ [b]) >>= fun v => pure (some v)) (fun r s' => wpAny (model prog w) A (match r with
      | some .notImplemented | none => pure none
      | some v => pure (some v)) (fun r s' => ∃ v, r = some v ∧ Q v s') E s') E s := wpAny_bind (wpAny_mono inner (fun v s' h' => by
        obtain ⟨c, rfl, hq⟩ := h'
        exact wpAny_pure (wpAny_pure ⟨_, rfl, hq⟩)) fun _ _ h' => h')
    split
    · exact wpAny_bind ((Looks.of_pure (PySem.F.slot_object_ne.bind _)).here (wpAny_pure (by exact fin)))
    · exact wpAny_tryCatch (wpAny_bind ((Looks.of_pure (PySem.F.slot_object_ne.bind _)).here (wpAny_pure (by exact fin))))
  unfold richCompare
  simp only [oneThing_ref]
  refine wpAny_holding (wpAny_bind (wpAny_cRoomFor (Nat.lt_of_succ_lt hu) ?_))
  refine wpAny_bind (I.type.here (wpAny_bind (hb.here ?_)))
  split
  · rename_i q
    have e : subIn K tb (.ref C) = some false := by
      rcases Bool.or_eq_true_iff.mp hn with e | e
      · rw [beq_iff_eq.mp e] at q; simp at q
      · exact beq_iff_eq.mp e
    refine wpAny_bind ((looks_subIn X e).here ?_)
    simp only [Bool.false_eq_true, if_false]
    refine wpAny_bind (wpAny_mono one (fun r s' z => ?_) fun _ _ e => e)
    obtain ⟨v, rfl, hq⟩ := z
    exact wpAny_pure hq
  · refine wpAny_bind (wpAny_pure ?_)
    simp only [Bool.false_eq_true, if_false]
    refine wpAny_bind (wpAny_mono one (fun r s' z => ?_) fun _ _ e => e)
    obtain ⟨v, rfl, hq⟩ := z
    exact wpAny_pure hq
end
/-- what the written part tells of the class's != -/
def StNe (K : PySem.W.Frag) : Prop := PySem.W.findIn K (.ref (caK K "Stints")) "__ne__" = some (some (.builtin "object.__ne__"))
section
variable {X : Cx} {k j : Nat} {ca : Str → Addr}
theorem od_neX {fr : Bool} {F : FD} (sn : StNe X.K) (T : HasM X.prog X.w X.K X.mg X.base "__eq__" j ["self", "other"] (spD X.K ca [] fr F)) (hr : Room k X.A) (hj : j + 1 ≤ k) (hgd : X.A.guards = some []) : OpD X (compareOp .NotEq) true (neXD F) := by
  obtain ⟨f, fd, hm, hb, G, _⟩ := T
  refine ⟨fun x y H Q => ∃ (O : Addr → Prop) (d e : D) (w : D), Od O H ∧ At X.K O H x d ∧ At X.K O H y e ∧ eqXD F d e = some w ∧ ∃ c, w = .bool c ∧ ∀ H', Ex H H' → Q (.bl (!c)) H', ?_, fun O H x y d e w Q od ad ae hw q => ?_⟩
  · rintro pins s σ H x y v u Q I rx ry ⟨O, d, e, w, od, ad, ae, hw, c, rfl, q⟩
    obtain ⟨a, dx, fs, c', t, tb, rfl, ha, hF, ew, ty, nf, i⟩ := eqX_facts ad ae hw
    cases ew
    cases rx
    obtain ⟨mA, J, _⟩ := ins_get I.hok ha
    obtain ⟨oda, J, _⟩ := J.look
    obtain ⟨m, hFr⟩ := I.fr
    show wpAny (model X.prog X.w) X.A (richCompare .NotEq (.ref a) u) (EP X pins σ Q) X.xe s
    have hu : X.A.units + 1 < cLine := by
      have := (hr.mono (show 1 ≤ k by omega)).in1.units0
      simpa using this
    refine neq_K hu hFr I.ok.mod.kin J (ty pins s σ u I ry) nf hm.at_ hm.fn sn i.hm ?_
    refine run_plain (A := X.A.in1) (vs := [.ref a, y]) hb G (hr.mono hj).in1 hgd rfl I rfl (.cons rfl (.cons ry .nil)) rfl od (.cons ad (.cons ae .nil)) hF fun r v H' s' I' ex rv av => ?_
    cases av
    cases rv
    exact ⟨c, rfl, .bl (!c), H', I', rfl, q H' ex⟩
  · unfold neXD at hw
    rw [Option.bind_eq_some_iff] at hw
    obtain ⟨w1, h1, h2⟩ := hw
    obtain ⟨_, _, _, c, _, _, _, _, _, ew, _⟩ := eqX_facts ad ae h1
    rw [ew] at h2
    cases h2
    exact ⟨O, d, e, w1, od, ad, ae, h1, c, ew, fun H' ex => q _ _ ⟨ex, .bl (!c), fun _ _ e => nomatch e⟩⟩
end
end DL
namespace DL
open PySem PySem.Spec PyProof.Rows L2
section
variable {X : Cx} {z : Z}
def rRemD (K : PySem.W.Frag) : V → List V → Hp → VK → Prop := fun x vs H Q => ∃ (a : Addr) (y : V) (d : PyData) (xs : List V) (ds : List PyData) (j : Nat), x = .ref a ∧ vs = [y] ∧ H a = some (.lst xs) ∧ DpAll K H xs ds ∧ Dp K H y d ∧
  SeqAt.shaped (.list ds) = true ∧ SeqAt.shaped d = true ∧ ds.findIdx? (fun w => PyData.eqv w d) = some j ∧ Q .non (upd H a (.lst (xs.eraseIdx j)))
theorem mt_remD (hu : X.A.units + 65 < cLine) : MtM X "list.remove" (rRemD X.K) := by
  intro pins s σ H x vs v us Q I rx rxs h
  obtain ⟨a, y, d, xs, ds, j, rfl, rfl, hH, hl, hy, sl, sd, hf, q⟩ := h
  cases rx
  obtain ⟨uy, rfl, ry⟩ := rxs.one
  obtain ⟨bs, rY⟩ := Dp.reads I d y uy hy ry
  have lay : PyData.canLayAll0 ds = true := SeqAt.canLay_of_shaped sl
  have room : X.A.units + 1 + min (PyData.depthAll ds) d.depth < cLine := room_in_shaped sd hu
  obtain ⟨z, its, n, rv, hz, e⟩ := I.lstM hH
  obtain ⟨as, rL⟩ := Dp.readsAll I ds xs its hl rv
  have em : its.map (SeqAt.readOf s.heap) = ds := SeqAt.readsAll_map ds its as lay rL
  have hf2 : its.findIdx? (fun u => PyData.eqv (SeqAt.readOf s.heap u) d) = some j := by
    rw [← em, List.findIdx?_map] at hf
    exact hf
  rw [List.findIdx?_eq_some_iff_getElem] at hf2
  obtain ⟨hj, h1, h2⟩ := hf2
  have lx : xs.length = its.length := rv.length
  refine call_meets PySem.F.slot_list_remove ⟨_, e, rfl⟩ PySem.F.entry_list_remove (PySem.F.args_list_remove_2 _ _)
    (SeqAt.list_removeAt a its.toArray n none #[] uy (fun u => PyData.eqv (SeqAt.readOf s.heap u) d) j (by simpa using hj) (by simpa using h1) (fun m hm hmj => by simpa using h2 m hmj) (by rw [List.size_toArray]; omega))
    ⟨e, SeqAt.items_eqAt (vs := its.toArray) (show ReadsAll s.heap its.toArray.toList ds as from rL) rY lay (SeqAt.canLay_of_shaped sd) room, ?_⟩
  refine ⟨.non, _, I.lset (its' := its.eraseIdx j) hH e ?_ (rv.eraseIdx j) ?_, rfl, q⟩
  · rw [List.eraseIdxIfInBounds_toArray]
  · rw [List.length_eraseIdx]
    split
    · omega
    · omega
end
def sRem (i : Nat) (f : EF) : SF := fun env => match env[i]? with
  | some (some (.ow _)) => (f env).bind fun p => match p.2[i]? with
    | some (some (.ow ds)) => if (SeqAt.shaped (.list ds) && SeqAt.shaped p.1) = true then (match ds.findIdx? fun w => PyData.eqv w p.1 with
      | some j => .ok (.nx (p.2.set i (some (.ow (ds.eraseIdx j)))))
      | none => .stuck) else .stuck
    | _ => .stuck
  | _ => .stuck
theorem AtAll.eraseIdx {K : PySem.W.Frag} {O : Addr → Prop} {H : Hp} : ∀ {vs : List V} {ds : List D} (n : Nat), AtAll K O H vs ds → AtAll K O H (vs.eraseIdx n) (ds.eraseIdx n)
  | _, _, _, .nil => .nil
  | _, _, 0, .cons _ r => r
  | _, _, n + 1, .cons a r => .cons a (AtAll.eraseIdx n r)
section
variable {X : Cx} {z : Z} {fr : Bool}
theorem ds_rem {i : Nat} {o a : Expr} {f : EF} {fe : Bool} {apos cpos pos : Pos} (hu : X.A.units + 65 < cLine) (ho : PE X o (tVar i)) (ha : DE z X fe a f) (hbase : attributeBase o "remove" X.env (eval o X.env) = eval o X.env := by rfl)
    (hfew : ((backTo cpos (starEach [a] X.env)).all (fun x => !x.1) && (backToKw cpos (keywordEach [] X.env)).all (fun x => x.1.isSome) && decide ([a].length + ([] : List Keyword).length + (if ([] : List Keyword).isEmpty then 0 else 1) < 30)) = true := by rfl)
    (hline : (apos.endLine == cpos.line) = true := by rfl) (hs : starEach [a] X.env = (false, eval a X.env) :: starEach [] X.env := by rfl) (hplain : (backTo cpos (starEach [] X.env)).any (·.1) = false := by rfl)
    (hsw : swapsWith (.Call (.Attribute o "remove" apos) [a] [] cpos) none pos.line X.env = pure false := by rfl) : DS z X fr (.Expr (.Call (.Attribute o "remove" apos) [a] [] cpos) pos) (sRem i f) := by
  refine ds_imp (ps_expr (pe_bm PySem.F.plainAttrs_list PySem.F.slot_list_remove PySem.F.type_list_remove (mt_remD hu) ho (pa_cons ha pa_nil hs) hbase hfew hline hs hplain) hsw) fun B env σ H Dd I p => ?_
  unfold sRem at p
  split at p
  · rename_i ds0 he
    obtain ⟨a0, xs0, e1, _, hH0, _⟩ := I.ow he
    refine ⟨_, e1, .inl ⟨rfl, _, SqL.of hH0⟩, B, env, I, (R.post_bind p).imp (fun q hq w H1 I1 m1 b1 _ => ?_) fun _ _ q => q.xp⟩
    split at hq
    · rename_i ds he1
      split at hq
      · rename_i hc
        rw [Bool.and_eq_true] at hc
        split at hq
        · rename_i j hf
          obtain ⟨a, xs, e2, hO, hH, r⟩ := I1.ow he1
          rw [e1] at e2
          cases e2
          have m3 : Mv (B.O σ q.2) (B.O σ q.2) H1 (upd H1 a0 (.lst (xs.eraseIdx j))) := ⟨fun b u e n => by
            rw [upd_ne (show b ≠ a0 from fun q => n (q ▸ hO))]; exact e, fun _ w => .inl w, fun b e => by
            by_cases n1 : b = a0
            · rw [n1, upd_same] at e; cases e
            · rw [upd_ne n1] at e; exact e⟩
          obtain ⟨I3, m4⟩ := I1.write he1 rfl (s' := .ow (ds.eraseIdx j)) rfl e1 ⟨a0, xs.eraseIdx j, rfl, hO, upd_same, AtAll.mv m3 (r.eraseIdx j)⟩
          exact ⟨a0, w, q.1, xs, ds, j, rfl, rfl, hH, AtAll.dp r (SeqAt.canLay_of_shaped hc.1), b1.dp (SeqAt.canLay_of_shaped hc.2), hc.1, hc.2, hf, hq σ _ I3 (m1.trans m4)⟩
        · exact hq.elim
      · exact hq.elim
    · exact hq.elim
  · exact p.elim
end
end DL
namespace DL
open PySem PySem.Spec PyProof.Rows L2
/-- seen as plain -/
def sN (g : NF) : SF := fun env => match g ⟨env, [], []⟩ with
  | .ok (.rt d w) => if noDct d = true ∧ ownOk w.env = true then .ok (.rt d w.env) else .stuck
  | .ok (.nx w) => if ownOk w.env = true then .ok (.nx w.env) else .stuck
  | _ => .stuck
theorem spN_of_spD {K : PySem.W.Frag} {ca : Str → Addr} {np : List Nat} {n : Nat} {g : NF} {vs : List V} {H : Hp} {Q : VK} {E E' : XK} (st : StI K) (h : spD K ca np false (runD n (sN g)) vs H Q E) : spN K np [] (runN n g) vs H Q E' := by
  obtain ⟨es, O, ao, hp⟩ := h
  have hget : ∀ {i : Nat} {s : Sl}, (es.map some)[i]? = some (some s) ↔ es[i]? = some s := fun {i s} => by
    rw [List.getElem?_map]
    cases es[i]? <;> simp
  have harg : ∀ x, argO vs (es.map some) x ↔ argOwn vs es x := fun x => by
    constructor
    · rintro ⟨i, s, h1, h2, h3⟩
      exact ⟨i, s, hget.1 h1, h2, h3⟩
    · rintro ⟨i, s, h1, h2, h3⟩
      exact ⟨i, s, hget.2 h1, h2, h3⟩
  refine ⟨⟨es.map some, [], []⟩, O, [], ⟨by rw [List.length_map]; exact ao.len, ao.od, fun i s h => ao.arg i s (hget.1 h), fun i j a s t h1 h2 h3 h4 h5 h6 => ao.dist i j a s t (hget.1 h1) h2 h3 (hget.1 h4) h5 h6, fun i s h ho => ao.np i s (hget.1 h) ho, st, rfl, fun q hq => (by cases hq), fun q hq => (by cases hq), fun k u o h => (by simp at h), fun u hu => (by cases hu), (by simp [cells]), fun x _ => (by simp [cells])⟩, rfl, ?_⟩
  have hok : ∀ {w' : Wo} {H' : Hp} {O' : Addr → Prop}, RetN K O' H H' vs ⟨es.map some, [], []⟩ (w'.bk ⟨es.map some, [], []⟩) [] → HeapOk K O O' H H' vs es (backP es.length w'.env) := fun {w' H' O'} RN =>
    ⟨fun a o e n => RN.keep a o e (fun q => n ((harg a).1 q)) (by simp [cells]), RN.dom, fun i s h ho => by
      obtain ⟨s', v, h1, h2, h3, h4⟩ := RN.args i s (hget.2 h) ho
      have h1 : (w'.env.take (es.map some).length)[i]? = some (some s') := h1
      rw [List.length_map, List.getElem?_take, if_pos (List.getElem?_eq_some_iff.mp h).1] at h1
      exact ⟨s', v, backP_get (List.getElem?_eq_some_iff.mp h).1 h1, h2, h3, h4⟩⟩
  unfold runD sN at hp
  unfold runN
  have hp : R.post _ _ (match (match g ⟨es.map some ++ List.replicate (n - es.length) none, [], []⟩ with
    | .ok (.rt d w) => if noDct d = true ∧ ownOk w.env = true then .ok (.rt d w.env) else .stuck
    | .ok (.nx w) => if ownOk w.env = true then .ok (.nx w.env) else .stuck
    | _ => .stuck : R En Out) with
    | .ok (.rt d e) => .ok (d, backP es.length e)
    | .ok (.nx e) => .ok (.none, backP es.length e)
    | .err x e => .err x (backP es.length e)
    | _ => .stuck) := hp
  show R.post _ _ (match g ⟨es.map some ++ List.replicate (n - (es.map some).length) none, [], []⟩ with
    | .ok (.rt d w') => if noDct d = true ∧ ownOk w'.env = true then .ok (RO.d d, w'.bk ⟨es.map some, [], []⟩) else .stuck
    | .ok (.nx w') => if ownOk w'.env = true then .ok (RO.d .none, w'.bk ⟨es.map some, [], []⟩) else .stuck
    | .ok (.ro k w') => if ([] : List Ost).length ≤ k ∧ ownOk w'.env = true then (match w'.os[k]? with
      | some o => .ok (RO.o o, w'.bk ⟨es.map some, [], []⟩)
      | none => .stuck) else .stuck
    | _ => .stuck)
  rw [List.length_map]
  cases hg : g ⟨es.map some ++ List.replicate (n - es.length) none, [], []⟩ with
  | stuck => rw [hg] at hp; exact hp.elim
  | err x e => rw [hg] at hp; exact hp.elim
  | ok o =>
    rw [hg] at hp
    cases o with
    | ro k w' => exact hp.elim
    | nx w' =>
      dsimp only at hp ⊢
      by_cases hc : ownOk w'.env = true
      · rw [if_pos hc] at hp ⊢
        intro v H' O' RN VR
        obtain ⟨rfl, av⟩ := VR
        exact hp v H' ⟨hok RN, av, fun q => nomatch q⟩
      · rw [if_neg hc] at hp
        exact hp.elim
    | rt d w' =>
      dsimp only at hp ⊢
      by_cases hc : noDct d = true ∧ ownOk w'.env = true
      · rw [if_pos hc] at hp ⊢
        intro v H' O' RN VR
        obtain ⟨rfl, av⟩ := VR
        exact hp v H' ⟨hok RN, av, fun q => nomatch q⟩
      · rw [if_neg hc] at hp
        exact hp.elim
/-- .. and found by its name -/
theorem Stands.hasP {P : Program} {w : World} {K : PySem.W.Frag} {mg : Str → Option Value} {base : Heap} {ca : Str → Addr} {x : Str} {st : Stmt} {N ps : List Str} {k n : Nat} {np oi : List Nat} {g : NF} (ST : StI K) (S : Stands K mg x st ps) (sc : FnScope N ps (defScope st)) (hps : ps.length ≤ N.length) (hn : N.length = n) (hdis : ∀ i ∈ np, i ∉ oi)
    (hbody : ∀ (f : Addr) (cdv : Value) (A : Around) (outer : List Env) (s : Shared) (H : Hp) (E : XK), Room k (A.deeper (envOfC x (defScope st) s.heap.objs.size f cdv)) → A.guards = some [] →
      NSs ⟨ca, np, fun c d _ H => E c d H, fun _ _ _ _ _ => True⟩ (cxOf (L2.CX P w) P w K mg base N x (defScope st) f cdv A outer s H E) oi (defBody st) g) :
    Has P w K mg base ca x (k + 1) ps np false (runD n (sN g)) := by
  obtain ⟨f, fd, h1, h2, h3⟩ := S
  refine ⟨f, fd, h1, h2.kp, h3, FnG.weak (fun_okV (sp := spN K np [] (runN n g)) h2 sc hps fun cdv A outer s H E Q vs hr hgd hl hsp => ⟨_, hbody f cdv A outer s H E hr hgd, sem_defN hn (by rw [hl, ← hn]; exact hps) (fun q hq => by cases hq) hdis hsp⟩) fun vs H Q E h => spN_of_spD ST h, lk_of h2⟩
/-- positional ones, the keywords', those that lack -/
theorem ord_pkm : Ord fun us mv ws => us ++ (ws ++ mv) := ⟨fun a b c => vals_app a (vals_app c b), fun a b c => at_app a (at_app c b)⟩
def sw2 {α : Type} : List α → List α
  | [a, b] => [b, a]
  | l => l
theorem ord_sw2 : Ord fun us mv ws => us ++ (mv ++ sw2 ws) := by
  refine ⟨fun a b c => vals_app a (vals_app b ?_), fun a b c => at_app a (at_app b ?_)⟩
  · match c with
    | .nil => exact .nil
    | .cons x .nil => exact .cons x .nil
    | .cons x (.cons y .nil) => exact .cons y (.cons x .nil)
    | .cons x (.cons y (.cons u r)) => exact .cons x (.cons y (.cons u r))
  · match c with
    | .nil => exact .nil
    | .cons x .nil => exact .cons x .nil
    | .cons x (.cons y .nil) => exact .cons y (.cons x .nil)
    | .cons x (.cons y (.cons u r)) => exact .cons x (.cons y (.cons u r))
end DL
namespace DL
open PySem PySem.Spec PyProof.Rows L2
def n__wall_0 : En → Nat := fun _ => 1000000000000
def g__wall : SF := sWhile n__wall_0 (fBool (fC (.bool true))) (sPass)
def F__wall : FD := runD 1 g__wall
def g_is_whole : SF := sRet (fAndV (fIsi "int" (fVar 0)) (fUn notD (fIsi "bool" (fVar 0))))
def F_is_whole : FD := runD 1 g_is_whole
def g_is_from : SF := sRet (fAndV (fCallF 1 [] F_is_whole (cIm (fVar 0) (cNil))) (fOp geD (fVar 0) (fVar 1)))
def F_is_from : FD := runD 2 g_is_from
def g_is_within : SF := sRet (fAndV (fCallF 1 [] F_is_whole (cIm (fVar 0) (cNil))) (fChain leD leD (fVar 1) (fVar 0) (fVar 2)))
def F_is_within : FD := runD 3 g_is_within
def g_is_term : SF := sSeq (sIf (fOrT (fNotT (fBool (fIsi "tuple" (fVar 1)))) (fBool (fOp neD (fCall lenD (fCons (fVar 1) ((fun env => .ok ([], env))))) (fC (.int 4))))) (sRet (fC (.bool false))) (sNil)) (sSeq (sAsg (fVar 1) (tTuple 4 (tsCons (tN 2) (tsCons (tN 3) (tsCons (tN 4) (tsCons (tN 5) (tsNil))))))) (sSeq (sIf (fOrT (fNotT (fBool (fCallF 3 [] F_is_within (cIm (fVar 2) (cIm (fC (.int 0)) (cIm (fOp subD (fVar 0) (fC (.int 1))) (cNil))))))) (fNotT (fBool (fCallF 3 [] F_is_within (cIm (fVar 3) (cIm (fC (.int 1)) (cIm (fVar 0) (cNil)))))))) (sRet (fC (.bool false))) (sNil)) (sRet (fAndV (fCallF 2 [] F_is_from (cIm (fVar 4) (cIm (fC (.int 0)) (cNil)))) (fOrV (fOp isD (fVar 5) (fC .none)) (fCallF 2 [] F_is_from (cIm (fVar 5) (cIm (fC (.int 0)) (cNil)))))))))
def F_is_term : FD := runD 6 g_is_term
def g_M_init : En → R En (Int × List D) := iCons (sIf (fNotT (fBool (fCallF 3 [] F_is_within (cIm (fVar 1) (cIm (fC (.int 1)) (cIm (fC (.int 40)) (cNil))))))) (sRaise "NoPlaces") (sNil)) (iCons (sIf (fOrT (fNotT (fBool (fUn (isTy2 "list" "tuple") (fVar 2)))) (fNotT (fBool (fCall allD (fCons (fLc (fItems (fVar 2)) (tN 3) ((fun env => .ok (true, env))) (fCallF 2 [] F_is_term (cIm (fVar 1) (cIm (fVar 3) (cNil)))) [3]) ((fun env => .ok ([], env)))))))) (sRaise "NoTerms") (sNil)) (iEnd (fCall listD (fCons (fVar 2) ((fun env => .ok ([], env)))))))
def F_M_init : List D → R En (Int × List D) := inM 4 g_M_init
def g_M_look_at_number : SF := sIf (fNotT (fBool (fCallF 3 [] F_is_within (cIm (fVar 1) (cIm (fC (.int 0)) (cIm (fOp subD (fCall lenD (fCons (fUn nowD (fVar 0)) ((fun env => .ok ([], env))))) (fC (.int 1))) (cNil))))))) (sRaise "NoNumber") (sNil)
def F_M_look_at_number : FD := runD 2 g_M_look_at_number
def g_M_put : En → R En (List D) := wCons (sIf (fNotT (fBool (fCallF 2 [] F_is_term (cIm (fUn manyD (fVar 0)) (cIm (fVar 1) (cNil)))))) (sRaise "NoTerm") (sNil)) (wTake (fLst (fStar (fUn nowD (fVar 0)) (fCons (fVar 1) ((fun env => .ok ([], env)))))))
def F_M_put : List D → R En (List D) := wrM 2 g_M_put
def g_M_drop : En → R En (List D) := wCons (sExpr (fMeth F_M_look_at_number (fVar 0) (fCons (fVar 1) ((fun env => .ok ([], env)))))) (wTake (fOp addD (fSl slD (fUn nowD (fVar 0)) ((fun env => .ok (none, env))) (fPart (fVar 1))) (fSl slD (fUn nowD (fVar 0)) (fPart (fOp addD (fVar 1) (fC (.int 1)))) ((fun env => .ok (none, env))))))
def F_M_drop : List D → R En (List D) := wrM 2 g_M_drop
def g_M_change : En → R En (List D) := wCons (sExpr (fMeth F_M_look_at_number (fVar 0) (fCons (fVar 1) ((fun env => .ok ([], env)))))) (wCons (sIf (fAndT (fBool (fOp isntD (fVar 2) (fC .none))) (fNotT (fBool (fCallF 2 [] F_is_from (cIm (fVar 2) (cIm (fC (.int 0)) (cNil))))))) (sRaise "NoMost") (sNil)) (wCons (sIf (fAndT (fBool (fOp isntD (fVar 3) (fC .none))) (fAndT (fNotT (fBool (fCallF 2 [] F_is_from (cIm (fVar 3) (cIm (fC (.int 0)) (cNil)))))) (fNotT (fAndT (fBool (fIsi "str" (fVar 3))) (fBool (fOp eqD (fVar 3) (fC (.str "open")))))))) (sRaise "NoMost") (sNil)) (wCons (sAsg (fOp ixD (fUn nowD (fVar 0)) (fVar 1)) (tTuple 4 (tsCons (tN 4) (tsCons (tN 5) (tsCons (tN 6) (tsCons (tN 7) (tsNil))))))) (wCons (sSet 6 (fIf (fBool (fOp isD (fVar 2) (fC .none))) (fVar 6) (fVar 2))) (wCons (sIf (fBool (fOp isntD (fVar 3) (fC .none))) (sSet 7 (fIf (fBool (fIsi "str" (fVar 3))) (fC .none) (fVar 3))) (sNil)) (wTake (fLst (fStar (fSl slD (fUn nowD (fVar 0)) ((fun env => .ok (none, env))) (fPart (fVar 1))) (fCons (fTup (fCons (fVar 4) (fCons (fVar 5) (fCons (fVar 6) (fCons (fVar 7) ((fun env => .ok ([], env)))))))) (fStar (fSl slD (fUn nowD (fVar 0)) (fPart (fOp addD (fVar 1) (fC (.int 1)))) ((fun env => .ok (none, env)))) ((fun env => .ok ([], env)))))))))))))
def F_M_change : List D → R En (List D) := wrM 8 g_M_change
def g_M_turn : En → R En (List D) := wCons (sIf (fNotT (fBool (fCallF 1 [] F_is_whole (cIm (fVar 1) (cNil))))) (sRaise "NoTurn") (sNil)) (wTake (fLc (fItems (fUn nowD (fVar 0))) (tTuple 4 (tsCons (tN 2) (tsCons (tN 3) (tsCons (tN 4) (tsCons (tN 5) (tsNil)))))) ((fun env => .ok (true, env))) (fTup (fCons (fOp modD (fOp addD (fVar 2) (fVar 1)) (fUn manyD (fVar 0))) (fCons (fVar 3) (fCons (fVar 4) (fCons (fVar 5) ((fun env => .ok ([], env)))))))) [2, 3, 4, 5]))
def F_M_turn : List D → R En (List D) := wrM 6 g_M_turn
def g_M_ring : SF := sRet (fTup (fCons (fUn manyD (fVar 0)) (fCons (fCall tupleD (fCons (fUn nowD (fVar 0)) ((fun env => .ok ([], env))))) ((fun env => .ok ([], env))))))
def F_M_ring : FD := runD 1 g_M_ring
def g_M_len : SF := sRet (fCall lenD (fCons (fUn nowD (fVar 0)) ((fun env => .ok ([], env)))))
def F_M_len : FD := runD 1 g_M_len
def g_M_ior : En → R En (List D) := wCons (sIf (fOrT (fNotT (fBool (fUn isStD (fVar 1)))) (fBool (fOp neD (fUn manyD (fVar 1)) (fUn manyD (fVar 0))))) (sRaise "Unlike") (sNil)) (wTake (fOp addD (fUn nowD (fVar 0)) (fUn nowD (fVar 1))))
def F_M_ior : List D → R En (List D) := wrM 2 g_M_ior
def g_M_eq : SF := sSeq (sIf (fOrT (fNotT (fBool (fUn isStD (fVar 1)))) (fOrT (fBool (fOp neD (fUn manyD (fVar 1)) (fUn manyD (fVar 0)))) (fBool (fOp neD (fCall lenD (fCons (fUn nowD (fVar 1)) ((fun env => .ok ([], env))))) (fCall lenD (fCons (fUn nowD (fVar 0)) ((fun env => .ok ([], env))))))))) (sRet (fC (.bool false))) (sNil)) (sSeq (sAsg (fTup (fCons (fUn nowD (fVar 0)) (fCons (fUn nowD (fVar 1)) ((fun env => .ok ([], env)))))) (tTuple 2 (tsCons (tN 2) (tsCons (tN 3) (tsNil))))) (sRet (fCall allD (fCons (fLc (fItems (fVar 2)) (tN 4) ((fun env => .ok (true, env))) (fOp eqD (fMt countD (fVar 2) (fVar 4)) (fMt countD (fVar 3) (fVar 4))) [4]) ((fun env => .ok ([], env)))))))
def F_M_eq : FD := runD 5 g_M_eq
def g_law_mixed : SF := sSeq (sSet 2 (fOp modD (fCall intD (fCons (fOp addD (fOp addD (fOp mulD (fOp modD (fCall intD (fCons (fVar 0) ((fun env => .ok ([], env))))) (fC (.int 2147483647))) (fC (.int 48271))) (fOp mulD (fVar 1) (fC (.int 69621)))) (fC (.int 1048583))) ((fun env => .ok ([], env))))) (fC (.int 2147483629)))) (sSeq (sSet 2 (fOp modD (fCall intD (fCons (fOp mulD (fVar 2) (fVar 2)) ((fun env => .ok ([], env))))) (fC (.int 2147483587)))) (sRet (fOp modD (fCall intD (fCons (fOp mulD (fVar 2) (fOp addD (fVar 2) (fC (.int 2)))) ((fun env => .ok ([], env))))) (fC (.int 2147483579)))))
def F_law_mixed : FD := runD 3 g_law_mixed
def g_law_pile : SF := sSeq (sSet 2 (fC (.int 0))) (sSeq (sIf (fBool (fOp ltD (fVar 1) (fCall lenD (fCons (fVar 0) ((fun env => .ok ([], env))))))) (sSet 2 (fOp ixD (fVar 0) (fVar 1))) (sNil)) (sSeq (sIf (fBool (fOp geD (fVar 2) (fOp powD (fC (.int 10)) (fC (.int 18))))) (sRet (fLst (fCons (fOp modD (fCall intD (fCons (fOp subD (fVar 2) (fOp powD (fC (.int 10)) (fC (.int 18)))) ((fun env => .ok ([], env))))) (fOp mulD (fOp mulD (fOp mulD (fOp powD (fC (.int 10)) (fC (.int 60))) (fOp powD (fC (.int 10)) (fC (.int 60)))) (fOp powD (fC (.int 10)) (fC (.int 60)))) (fOp powD (fC (.int 10)) (fC (.int 60))))) ((fun env => .ok ([], env)))))) (sNil)) (sSeq (sSet 3 (fC (.int 0))) (sSeq (sFor (fWalk rangeD1 (fCons (fC (.int 24)) ((fun env => .ok ([], env))))) (tN 4) (sSet 3 (fOp addD (fOp mulD (fVar 3) (fC (.int 2147483579))) (fCallF 2 [] F_law_mixed (cIm (fVar 2) (cIm (fOp addD (fOp addD (fOp mulD (fC (.int 7)) (fVar 1)) (fOp mulD (fC (.int 100)) (fVar 4))) (fOp mulD (fVar 4) (fVar 4))) (cNil))))))) (sRet (fLst (fCons (fVar 3) ((fun env => .ok ([], env))))))))))
def F_law_pile : FD := runD 5 g_law_pile
def g_law_take : SF := sSeq (sSet 2 (fOp modD (fCall intD (fCons (fIxO 0 (fC (.int 0))) ((fun env => .ok ([], env))))) (fVar 1))) (sSeq (sSto 0 (fC (.int 0)) (fOp fdivD (fIxO 0 (fC (.int 0))) (fVar 1))) (sRet (fVar 2)))
def F_law_take : FD := runD 3 g_law_take
def g_law_order_of : SF := sSeq (sSetO 2 (fLst ((fun env => .ok ([], env))))) (sSeq (sFor (fWalk rangeD1 (fCons (fVar 1) ((fun env => .ok ([], env))))) (tN 3) (sIns 2 (fCallF 2 [0] F_law_take (cSl 0 (cIm (fOp addD (fVar 3) (fC (.int 1))) (cNil)))) (fVar 3))) (sRetO 2))
def F_law_order_of : FD := runD 4 g_law_order_of
def g_law_new_term : SF := sSeq (sPar 2 3 (fCons (fCallF 2 [0] F_law_take (cSl 0 (cIm (fVar 1) (cNil)))) (fCons (fOp addD (fC (.int 1)) (fCallF 2 [0] F_law_take (cSl 0 (cIm (fVar 1) (cNil))))) ((fun env => .ok ([], env)))))) (sRet (fTup (fCons (fVar 2) (fCons (fVar 3) (fCons (fCallF 2 [0] F_law_take (cSl 0 (cIm (fC (.int 3)) (cNil)))) (fCons (fOp ixD (fLst (fCons (fC .none) (fCons (fCallF 2 [0] F_law_take (cSl 0 (cIm (fC (.int 3)) (cNil)))) ((fun env => .ok ([], env)))))) (fCallF 2 [0] F_law_take (cSl 0 (cIm (fC (.int 2)) (cNil))))) ((fun env => .ok ([], env)))))))))
def F_law_new_term : FD := runD 4 g_law_new_term
def g_law_laid : NF := nSeq (nBind 3 (nMk F_M_init (gDfl (fCons (fVar 1) ((fun env => .ok ([], env))))))) (nSeq (nFor (fItems (fVar 2)) (tN 4) (nSeq (nS (sSet 5 (fCallF 2 [0] F_law_take (cSl 0 (cIm (fC (.int 3)) (cNil)))))) (nSeq (nIf (nT (fBool (fOp eqD (fVar 5) (fC (.int 0))))) (nSeq (nExpr (nWr 3 (some fun k => ((k : Int) - 1)) F_M_put (fCons (fTup (fCons (fC (.int 0)) (fCons (fC (.int 1)) (fCons (fC (.int 0)) (fCons (fC .none) ((fun env => .ok ([], env)))))))) ((fun env => .ok ([], env)))))) (nExpr (nWr 3 none F_M_drop (fCons (fOp subD (fCall lenSD (fCons (fVar 3) ((fun env => .ok ([], env))))) (fC (.int 1))) ((fun env => .ok ([], env))))))) (nNil)) (nSeq (nSet 6 (nWr 3 (some fun k => ((k : Int) - 1)) F_M_put (fCons (fTup (fCons (fOp ixD (fVar 4) (fC (.int 0))) (fCons (fOp ixD (fVar 4) (fC (.int 1))) (fCons (fC (.int 7)) (fCons (fC .none) ((fun env => .ok ([], env)))))))) ((fun env => .ok ([], env)))))) (nSeq (nIf (nT (fBool (fOp isD (fOp ixD (fVar 4) (fC (.int 3))) (fC .none)))) (nExpr (nWr 3 none F_M_change (gKw (fun us mv ws => us ++ (ws ++ mv)) [PyData.none] (fCons (fVar 6) ((fun env => .ok ([], env)))) (fCons (fOp ixD (fVar 4) (fC (.int 2))) ((fun env => .ok ([], env))))))) (nExpr (nWr 3 none F_M_change (gKw (fun us mv ws => us ++ (mv ++ sw2 ws)) [] (fCons (fVar 6) ((fun env => .ok ([], env)))) (fCons (fOp ixD (fVar 4) (fC (.int 3))) (fCons (fOp ixD (fVar 4) (fC (.int 2))) ((fun env => .ok ([], env))))))))) (nIf (nT (fBool (fOp eqD (fVar 5) (fC (.int 1))))) (nSeq (nExpr (nWr 3 none F_M_turn (fCons (fC (.int 1)) ((fun env => .ok ([], env)))))) (nExpr (nWr 3 none F_M_turn (fCons (fUn negD (fC (.int 1))) ((fun env => .ok ([], env))))))) (nNil))))))) (nRetO 3))
def F_law_laid : FN := runN 7 g_law_laid
def g_law_alike : SF := sSeq (sSetO 2 (fCall listD (fCons (fVar 1) ((fun env => .ok ([], env)))))) (sSeq (sFor (fItems (fVar 0)) (tN 3) (sSeq (sIf (tLend (fBool (fOp notinD (fVar 3) (fVar 2)))) (sRet (fC (.bool false))) (sNil)) (sRem 2 (fVar 3)))) (sRet (fOpL 2 eqD (fLst ((fun env => .ok ([], env)))))))
def F_law_alike : FD := runD 4 g_law_alike
def g_law_pair_good : SF := sSeq (sSet 4 (fCallF 2 [] F_law_alike (cIm (fVar 2) (cIm (fVar 3) (cNil))))) (sSeq (sSet 5 (fLst (fCons (fOp (eqXD F_M_eq) (fVar 0) (fVar 1)) (fCons (fOp (eqXD F_M_eq) (fVar 1) (fVar 0)) (fCons (fOp (eqXD F_M_eq) (fVar 0) (fVar 0)) ((fun env => .ok ([], env)))))))) (sSeq (sIf (fOrT (fBool (fOp neD (fVar 5) (fLst (fCons (fVar 4) (fCons (fVar 4) (fCons (fC (.bool true)) ((fun env => .ok ([], env))))))))) (fBool (fOp neD (fLc (fItems (fVar 5)) (tN 6) (fNotT (fBool (fIsi "bool" (fVar 6)))) (fVar 6) [6]) (fLst ((fun env => .ok ([], env))))))) (sRet (fC (.bool false))) (sNil)) (sRet (fAndV (fOp neD (fOp (neXD F_M_eq) (fVar 0) (fVar 1)) (fVar 4)) (fAndV (fOp eqD (fCall listSD (fCons (fVar 0) ((fun env => .ok ([], env))))) (fVar 2)) (fOp eqD (fCall listSD (fCons (fVar 1) ((fun env => .ok ([], env))))) (fVar 3)))))))
def F_law_pair_good : FD := runD 7 g_law_pair_good
def g_law_turns_good : NF := nSeq (nFor (fItems (fLst (fCons (fC (.int 1)) (fCons (fOp subD (fVar 0) (fC (.int 1))) (fCons (fOp addD (fVar 0) (fC (.int 2))) ((fun env => .ok ([], env)))))))) (tN 3) (nSeq (nS (sSet 4 (fLc (fItems (fVar 2)) (tN 6) ((fun env => .ok (true, env))) (fTup (fCons (fOp modD (fCall intD (fCons (fOp addD (fOp ixD (fVar 6) (fC (.int 0))) (fVar 3)) ((fun env => .ok ([], env))))) (fVar 0)) (fCons (fOp ixD (fVar 6) (fC (.int 1))) (fCons (fOp ixD (fVar 6) (fC (.int 2))) (fCons (fOp ixD (fVar 6) (fC (.int 3))) ((fun env => .ok ([], env)))))))) [6]))) (nSeq (nBind 5 (nMk F_M_init (fCons (fVar 0) (fCons (fVar 2) ((fun env => .ok ([], env))))))) (nSeq (nIf (nOr (nBool (nCmp isntD (nWr 1 none F_M_turn (fCons (fVar 3) ((fun env => .ok ([], env))))) (nE (fC .none)))) (nOr (nT (fNotT (fBool (fOp (eqXD F_M_eq) (fVar 1) (fMkZ F_M_init (fCons (fVar 0) (fCons (fVar 4) ((fun env => .ok ([], env)))))))))) (nT (fBool (fOp (neXD F_M_eq) (fVar 1) (fMkZ F_M_init (fCons (fVar 0) (fCons (fUn backD (fVar 4)) ((fun env => .ok ([], env))))))))))) (nS (sRet (fC (.bool false)))) (nNil)) (nIf (nOr (nT (fBool (fOp neD (fOp (eqXD F_M_eq) (fVar 1) (fVar 5)) (fCallF 2 [] F_law_alike (cIm (fVar 4) (cIm (fVar 2) (cNil))))))) (nOr (nBool (nCmp isntD (bkW 1) (nE (fC (.bool true))))) (nT (fBool (fOp (neXD F_M_eq) (fVar 1) (fVar 5)))))) (nS (sRet (fC (.bool false)))) (nNil)))))) (nS (sRet (fC (.bool true))))
def F_law_turns_good : FN := runN 7 g_law_turns_good
def g_law_apart_good : NF := nSeq (nBind 5 (nMk F_M_init (gDfl (fCons (fVar 0) ((fun env => .ok ([], env))))))) (nSeq (nAli 6 5) (nSeq (nIor 6 F_M_ior (fVar 1)) (nSeq (nS (sIf (fOrT (fNotT (fBool (fUn isStD (fVar 6)))) (fOrT (fNotT (fBool (fOp (eqXD F_M_eq) (fVar 5) (fVar 1)))) (fBool (fOp neD (fCall listSD (fCons (fVar 6) ((fun env => .ok ([], env))))) (fVar 3))))) (sRet (fC (.bool false))) (sNil))) (nSeq (nForP 7 8 5 1 1 5 (nSeq (nExpr (nWr 7 (some fun k => ((k : Int) - 1)) F_M_put (fCons (fTup (fCons (fC (.int 0)) (fCons (fVar 0) (fCons (fC (.int 40)) (fCons (fC .none) ((fun env => .ok ([], env)))))))) ((fun env => .ok ([], env)))))) (nSeq (nS (sIf (fOrT (fBool (fOp (eqXD F_M_eq) (fVar 7) (fVar 8))) (fOrT (fBool (fOp (eqXD F_M_eq) (fVar 8) (fVar 7))) (fBool (fOp neD (fCall listSD (fCons (fVar 8) ((fun env => .ok ([], env))))) (fVar 3))))) (sRet (fC (.bool false))) (sNil))) (nSeq (nIf (nOr (nBool (nCmp isntD (bkW 7) (nE (fC (.bool true))))) (nT (fBool (fOp (neXD F_M_eq) (fVar 7) (fVar 8))))) (nS (sRet (fC (.bool false)))) (nNil)) (nIf (nT (fBool (fOp neD (fVar 3) (fLst ((fun env => .ok ([], env))))))) (nSeq (nExpr (nWr 7 none F_M_change (gKw (fun us mv ws => us ++ (ws ++ mv)) [PyData.none] (fCons (fC (.int 0)) ((fun env => .ok ([], env)))) (fCons (fC (.int 41)) ((fun env => .ok ([], env))))))) (nSeq (nS (sIf (fOrT (fBool (fOp (eqXD F_M_eq) (fVar 7) (fVar 8))) (fBool (fOp neD (fCall listSD (fCons (fVar 8) ((fun env => .ok ([], env))))) (fVar 3)))) (sRet (fC (.bool false))) (sNil))) (nSeq (nIf (nOr (nBool (nCmp isntD (bkW 7) (nE (fC (.bool true))))) (nT (fNotT (fBool (fOp (eqXD F_M_eq) (fVar 7) (fVar 8)))))) (nS (sRet (fC (.bool false)))) (nNil)) (nSeq (nExpr (nWr 7 none F_M_drop (fCons (fC (.int 0)) ((fun env => .ok ([], env)))))) (nIf (nOr (nT (fBool (fOp (eqXD F_M_eq) (fVar 7) (fVar 8)))) (nOr (nBool (nCmp isntD (bkW 7) (nE (fC (.bool true))))) (nT (fBool (fOp (neXD F_M_eq) (fVar 7) (fVar 8)))))) (nS (sRet (fC (.bool false)))) (nNil)))))) (nNil)))))) (nSeq (nS (sSetO 9 (fLst ((fun env => .ok ([], env)))))) (nSeq (nForO 1 (tN 10) (nSeq (nS (sApp 9 (fVar 10))) (nSeq (nExpr (nWr 2 (some fun k => ((k : Int) - 1)) F_M_put (fCons (fVar 10) ((fun env => .ok ([], env)))))) (nExpr (bkW 2))))) (nRet (nAndV (nE (fOpL 9 eqD (fVar 3))) (nAndV (nCall 3 [] [(1, 0)] F_law_turns_good (cIm (fVar 0) (cOb 1 (cIm (fVar 3) (cNil))))) (nE (fCallF 4 [] F_law_pair_good (cIm (fVar 1) (cIm (fVar 2) (cIm (fVar 3) (cIm (fVar 4) (cNil))))))))))))))))
def F_law_apart_good : FN := runN 11 g_law_apart_good
def gN_law : NF := nSeq (nFor (fWalk rangeD1 (fCons (fCall maxD (fCons (fC (.int 2)) (fCons (fCall minD (fCons (fCall lenD (fCons (fVar 0) ((fun env => .ok ([], env))))) (fCons (fC (.int 8)) ((fun env => .ok ([], env)))))) ((fun env => .ok ([], env)))))) ((fun env => .ok ([], env))))) (tN 1) (nSeq (nS (sSetO 2 (fCallF 2 [] F_law_pile (cIm (fVar 0) (cIm (fVar 1) (cNil)))))) (nSeq (nS (sSet 3 (fOp ixD (fLst (fCons (fC (.int 1)) (fCons (fC (.int 2)) (fCons (fC (.int 4)) (fCons (fC (.int 9)) ((fun env => .ok ([], env)))))))) (fCallF 2 [0] F_law_take (cSl 2 (cIm (fC (.int 4)) (cNil))))))) (nSeq (nS (sSet 4 (fLc (fWalk rangeD1 (fCons (fCallF 2 [0] F_law_take (cSl 2 (cIm (fC (.int 7)) (cNil)))) ((fun env => .ok ([], env))))) (tN 10) ((fun env => .ok (true, env))) (fCallF 2 [0] F_law_new_term (cSl 2 (cIm (fVar 3) (cNil)))) [10]))) (nSeq (nS (sSet 5 (fLc (fItems (fCallF 2 [0] F_law_order_of (cSl 2 (cIm (fCall lenD (fCons (fVar 4) ((fun env => .ok ([], env))))) (cNil))))) (tN 10) ((fun env => .ok (true, env))) (fOp ixD (fVar 4) (fVar 10)) [10]))) (nSeq (nS (sSet 6 (fCallF 2 [0] F_law_take (cSl 2 (cIm (fC (.int 4)) (cNil)))))) (nSeq (nS (sIf (fBool (fOp eqD (fVar 6) (fC (.int 1)))) (sSet 5 (fSl slD (fVar 5) (fPart (fC (.int 1))) ((fun env => .ok (none, env))))) (sNil))) (nSeq (nS (sIf (fBool (fOp eqD (fVar 6) (fC (.int 2)))) (sSet 5 (fOp addD (fVar 5) (fLst (fCons (fCallF 2 [0] F_law_new_term (cSl 2 (cIm (fVar 3) (cNil)))) ((fun env => .ok ([], env))))))) (sNil))) (nSeq (nS (sIf (fAndT (fBool (fOp eqD (fVar 6) (fC (.int 3)))) (fBool (fOp neD (fVar 5) (fLst ((fun env => .ok ([], env))))))) (sSet 5 (fOp addD (fSl slD (fVar 5) (fPart (fC (.int 1))) ((fun env => .ok (none, env)))) (fLst (fCons (fOp ixD (fVar 5) (fUn negD (fC (.int 1)))) ((fun env => .ok ([], env))))))) (sNil))) (nSeq (nPar 7 8 (nCallO 3 [0] [] F_law_laid (cSl 2 (cIm (fVar 3) (cIm (fVar 4) (cNil))))) (nCallO 3 [0] [] F_law_laid (cSl 2 (cIm (fVar 3) (cIm (fVar 5) (cNil)))))) (nSeq (nIf (nOr (nT (fNotT (fBool (fCallF 4 [] F_law_pair_good (cIm (fVar 7) (cIm (fVar 8) (cIm (fVar 4) (cIm (fVar 5) (cNil))))))))) (nNot (nBool (nCall 5 [] [(1, 0), (2, 1)] F_law_apart_good (cIm (fVar 3) (cOb 7 (cOb 8 (cIm (fVar 4) (cIm (fVar 5) (cNil)))))))))) (nS (sRet (fC (.bool false)))) (nNil)) (nSeq (nBind 9 (nMk F_M_init (fCons (fOp addD (fVar 3) (fC (.int 1))) (fCons (fVar 4) ((fun env => .ok ([], env))))))) (nSeq (nS (sIf (fOrT (fBool (fOp (eqXD F_M_eq) (fVar 7) (fVar 9))) (fBool (fOp (eqXD F_M_eq) (fVar 9) (fVar 7)))) (sRet (fC (.bool false))) (sNil))) (nS (sIf (fBool (fOp neD (fLc (fItems (fLst (fCons (fVar 4) (fCons (fMeth F_M_ring (fVar 7) (fun env => .ok ([], env))) (fCons (fC .none) (fCons (fC (.int 0)) (fCons (fLst (fCons (fC (.int 0)) ((fun env => .ok ([], env))))) ((fun env => .ok ([], env)))))))))) (tN 11) (fBool (fOp (eqXD F_M_eq) (fVar 7) (fVar 11))) (fVar 11) [11]) (fLst ((fun env => .ok ([], env)))))) (sRet (fC (.bool false))) (sNil)))))))))))))))) (nS (sRet (fOp isD (fOp (eqXD F_M_eq) (fMkZ F_M_init (fCons (fC (.int 2)) (fCons (fLst (fCons (fTup (fCons (fC (.int 0)) (fCons (fC (.int 1)) (fCons (fC (.int 0)) (fCons (fC (.int 1)) ((fun env => .ok ([], env)))))))) ((fun env => .ok ([], env))))) ((fun env => .ok ([], env)))))) (fMkZ F_M_init (fCons (fC (.int 2)) (fCons (fLst (fCons (fTup (fCons (fC (.int 0)) (fCons (fC (.int 1)) (fCons (fC (.int 0)) (fCons (fC .none) ((fun env => .ok ([], env)))))))) ((fun env => .ok ([], env))))) ((fun env => .ok ([], env))))))) (fC (.bool false)))))
def g_law : SF := sN gN_law
def F_law : FD := runD 12 g_law
end DL
namespace DL
open PySem PySem.Spec PyProof.Rows L2
def topS (i : Nat) : Stmt := PySem.Challenge.pw_ringstints_k51_stints_beside_one_another.main.body.getD i (.Pass ⟨0, 0, 0, 0⟩)
structure Blt (mg : Str → Option Value) : Prop where
  len : mg "len" = none
  range : mg "range" = none
  int : mg "int" = none
  str : mg "str" = none
  tuple : mg "tuple" = none
  list : mg "list" = none
  sum : mg "sum" = none
  max : mg "max" = none
  min : mg "min" = none
  abs : mg "abs" = none
  all : mg "all" = none
  sorted : mg "sorted" = none
  repr : mg "repr" = none
  isinstance : mg "isinstance" = none
  bool : mg "bool" = none
  enumerate : mg "enumerate" = none
  zip : mg "zip" = none
  ValueError : mg "ValueError" = none
  iter : mg "iter" = none
section
variable {P : Program} {w : World} {K : PySem.W.Frag} {mg : Str → Option Value} {base : Heap}
abbrev s__wall : Stmt := topS 0
abbrev N__wall : List Str := ["k"]
theorem sc__wall : FnScope N__wall ["k"] (defScope s__wall) := ⟨rfl, rfl, rfl, by decide +kernel, rfl, by decide +kernel, by decide +kernel⟩
theorem ok__wall (T : Blt mg) (S : Stands K mg "_wall" s__wall ["k"]) : Has P w K mg base (caOf mg) "_wall" 1 ["k"] [] true F__wall :=
  S.has sc__wall (by decide) rfl fun f cdv A outer s H E hr hgd => by
    have tk := takes_of (X := cxOf (L2.CX P w) P w K mg base N__wall "_wall" (defScope s__wall) f cdv A outer s H E) (E := E) rfl rfl rfl rfl
    have po := passes_of (X := cxOf (L2.CX P w) P w K mg base N__wall "_wall" (defScope s__wall) f cdv A outer s H E) rfl
    exact dss_one (ds_while po (dt_val (de_bl)) (dss_one (ds_pass)))
abbrev s_is_whole : Stmt := topS 12
abbrev N_is_whole : List Str := ["thing"]
theorem sc_is_whole : FnScope N_is_whole ["thing"] (defScope s_is_whole) := ⟨rfl, rfl, rfl, by decide +kernel, rfl, by decide +kernel, by decide +kernel⟩
theorem ok_is_whole (T : Blt mg) (S : Stands K mg "is_whole" s_is_whole ["thing"]) : Has P w K mg base (caOf mg) "is_whole" 1 ["thing"] [] true F_is_whole :=
  S.has sc_is_whole (by decide) rfl fun f cdv A outer s H E hr hgd => by
    have tk := takes_of (X := cxOf (L2.CX P w) P w K mg base N_is_whole "is_whole" (defScope s_is_whole) f cdv A outer s H E) (E := E) rfl rfl rfl rfl
    have po := passes_of (X := cxOf (L2.CX P w) P w K mg base N_is_whole "is_whole" (defScope s_is_whole) f cdv A outer s H E) rfl
    exact dss_one (ds_ret (de_and (de_isi (T := "int") (de_var (pv 0)) rfl T.isinstance rfl T.int (by decide +kernel)) (de_one (de_not (de_isi (T := "bool") (de_var (pv 0)) rfl T.isinstance rfl T.bool (by decide +kernel))))))
abbrev s_is_from : Stmt := topS 13
abbrev N_is_from : List Str := ["thing", "low"]
theorem sc_is_from : FnScope N_is_from ["thing", "low"] (defScope s_is_from) := ⟨rfl, rfl, rfl, by decide +kernel, rfl, by decide +kernel, by decide +kernel⟩
theorem ok_is_from (T : Blt mg) (S : Stands K mg "is_from" s_is_from ["thing", "low"]) (h_is_whole : Has P w K mg base (caOf mg) "is_whole" 1 ["thing"] [] true F_is_whole) : Has P w K mg base (caOf mg) "is_from" 2 ["thing", "low"] [] true F_is_from :=
  S.has sc_is_from (by decide) rfl fun f cdv A outer s H E hr hgd => by
    have tk := takes_of (X := cxOf (L2.CX P w) P w K mg base N_is_from "is_from" (defScope s_is_from) f cdv A outer s H E) (E := E) rfl rfl rfl rfl
    have po := passes_of (X := cxOf (L2.CX P w) P w K mg base N_is_from "is_from" (defScope s_is_from) f cdv A outer s H E) rfl
    exact dss_one (ds_ret (de_and (de_callH h_is_whole hr (by decide) hgd rfl rfl tk (dc_im (de_var (pv 0)) (dc_nil))) (de_one (de_cmp od_ge (de_var (pv 0)) (de_var (pv 1)) (nomark _)))))
abbrev s_is_within : Stmt := topS 14
abbrev N_is_within : List Str := ["thing", "low", "high"]
theorem sc_is_within : FnScope N_is_within ["thing", "low", "high"] (defScope s_is_within) := ⟨rfl, rfl, rfl, by decide +kernel, rfl, by decide +kernel, by decide +kernel⟩
theorem ok_is_within (T : Blt mg) (S : Stands K mg "is_within" s_is_within ["thing", "low", "high"]) (h_is_whole : Has P w K mg base (caOf mg) "is_whole" 1 ["thing"] [] true F_is_whole) : Has P w K mg base (caOf mg) "is_within" 2 ["thing", "low", "high"] [] true F_is_within :=
  S.has sc_is_within (by decide) rfl fun f cdv A outer s H E hr hgd => by
    have tk := takes_of (X := cxOf (L2.CX P w) P w K mg base N_is_within "is_within" (defScope s_is_within) f cdv A outer s H E) (E := E) rfl rfl rfl rfl
    have po := passes_of (X := cxOf (L2.CX P w) P w K mg base N_is_within "is_within" (defScope s_is_within) f cdv A outer s H E) rfl
    exact dss_one (ds_ret (de_and (de_callH h_is_whole hr (by decide) hgd rfl rfl tk (dc_im (de_var (pv 0)) (dc_nil))) (de_one (de_chain od_le od_le (de_var (pv 1)) (de_var (pv 0)) (de_var (pv 2))))))
abbrev s_is_term : Stmt := topS 15
abbrev N_is_term : List Str := ["many", "thing", "first", "length", "least", "most"]
theorem sc_is_term : FnScope N_is_term ["many", "thing"] (defScope s_is_term) := ⟨rfl, rfl, rfl, by decide +kernel, rfl, by decide +kernel, by decide +kernel⟩
theorem ok_is_term (T : Blt mg) (S : Stands K mg "is_term" s_is_term ["many", "thing"]) (h_is_within : Has P w K mg base (caOf mg) "is_within" 2 ["thing", "low", "high"] [] true F_is_within) (h_is_from : Has P w K mg base (caOf mg) "is_from" 2 ["thing", "low"] [] true F_is_from) : Has P w K mg base (caOf mg) "is_term" 3 ["many", "thing"] [] true F_is_term :=
  S.has sc_is_term (by decide) rfl fun f cdv A outer s H E hr hgd => by
    have tk := takes_of (X := cxOf (L2.CX P w) P w K mg base N_is_term "is_term" (defScope s_is_term) f cdv A outer s H E) (E := E) rfl rfl rfl rfl
    have po := passes_of (X := cxOf (L2.CX P w) P w K mg base N_is_term "is_term" (defScope s_is_term) f cdv A outer s H E) rfl
    exact dss_cons (ds_if (PW.pt (dw_or (dt_not (dt_val (de_isi (T := "tuple") (de_var (pv 1)) rfl T.isinstance rfl T.tuple (by decide +kernel)))) (dw_or1 (dt_cmp (od_ne hr.units) (de_callB (cd_len) rfl T.len (by decide +kernel) (da_cons (de_var (pv 1)) (da_nil))) (de_int) (nomark _))))) (dss_one (ds_ret (de_bl))) (dss_nil)) (dss_cons (ds_asg (de_var (pv 1)) (dg_tup rfl (dgs_cons (dg_name (pg_name (i := 2) sc_is_term.nd rfl (.inl rfl)) (show 2 ∉ ([] : List Nat) by decide)) (dgs_cons (dg_name (pg_name (i := 3) sc_is_term.nd rfl (.inl rfl)) (show 3 ∉ ([] : List Nat) by decide)) (dgs_cons (dg_name (pg_name (i := 4) sc_is_term.nd rfl (.inl rfl)) (show 4 ∉ ([] : List Nat) by decide)) (dgs_cons (dg_name (pg_name (i := 5) sc_is_term.nd rfl (.inl rfl)) (show 5 ∉ ([] : List Nat) by decide)) (dgs_nil))))))) (dss_cons (ds_if (PW.pt (dw_or (dt_not (dt_val (de_callH h_is_within hr (by decide) hgd rfl rfl tk (dc_im (de_var (pv 2)) (dc_im (de_int) (dc_im (de_op od_sub (de_var (pv 0)) (de_int)) (dc_nil))))))) (dw_or1 (dt_not (dt_val (de_callH h_is_within hr (by decide) hgd rfl rfl tk (dc_im (de_var (pv 3)) (dc_im (de_int) (dc_im (de_var (pv 0)) (dc_nil)))))))))) (dss_one (ds_ret (de_bl))) (dss_nil)) (dss_one (ds_ret (de_and (de_callH h_is_from hr (by decide) hgd rfl rfl tk (dc_im (de_var (pv 4)) (dc_im (de_int) (dc_nil)))) (de_one (de_or (de_cmp od_is (de_var (pv 5)) (de_non) (nomark _)) (de_one (de_callH h_is_from hr (by decide) hgd rfl rfl tk (dc_im (de_var (pv 5)) (dc_im (de_int) (dc_nil))))))))))))
abbrev s_M_init : Stmt := clsS (topS 17) 0
abbrev N_M_init : List Str := ["self", "many", "terms", "term"]
theorem sc_M_init : FnScope N_M_init ["self", "many", "terms"] (defScope s_M_init) := ⟨rfl, rfl, rfl, by decide +kernel, rfl, by decide +kernel, by decide +kernel⟩
theorem okG_M_init (T : Blt mg) {f : Addr} {fd : FuncData} (S : StandsI K mg "Stints.__init__" (defArgs s_M_init) (defBody s_M_init) (defScope s_M_init) f fd) {t_MOST_PLACES : Tok} (g_MOST_PLACES : mg "MOST_PLACES" = some (.int 40 t_MOST_PLACES)) {C_NoPlaces : Addr} (x_NoPlaces : ExF K mg "NoPlaces" C_NoPlaces) {C_NoTerms : Addr} (x_NoTerms : ExF K mg "NoTerms" C_NoTerms) (h_is_within : Has P w K mg base (caOf mg) "is_within" 2 ["thing", "low", "high"] [] true F_is_within) (h_is_term : Has P w K mg base (caOf mg) "is_term" 3 ["many", "thing"] [] true F_is_term) : FnG P w K mg base 4 f fd ["self", "many", "terms"] (spIn K (caOf mg) F_M_init) :=
  S.hasG sc_M_init (by decide) rfl fun cdv A outer s H E hr hgd => by
    have tk := takes_of (X := cxOf (L2.CX P w) P w K mg base N_M_init "Stints.__init__" (defScope s_M_init) f cdv A outer s H E) (E := E) rfl rfl rfl rfl
    have po := passes_of (X := cxOf (L2.CX P w) P w K mg base N_M_init "Stints.__init__" (defScope s_M_init) f cdv A outer s H E) rfl
    exact dsi_cons (fr := false) (ds_if (dt_not (dt_val (de_callH h_is_within hr (by decide) hgd rfl rfl tk (dc_im (de_var (pv 1)) (dc_im (de_int) (dc_im ((de_glob (v := .int 40) rfl g_MOST_PLACES ⟨_, rfl⟩ (fun _ _ => .int _) (fun _ q => nomatch q))) (dc_nil))))))) (dss_one (ds_raiseF rfl tk x_NoPlaces rfl rfl)) (dss_nil)) (dsi_cons (fr := false) (ds_if (PW.pt (dw_or (dt_not (dt_val (de_isi2 (S := "list") (T := "tuple") (de_var (pv 2)) rfl T.isinstance rfl T.list (by decide +kernel) rfl T.tuple (by decide +kernel)))) (dw_or1 (dt_not (dt_val (de_callB (cd_all rfl) rfl T.all (by decide +kernel) (da_cons (de_lc (own := [("term", 3)]) rfl sc_M_init.nd (di_seq (de_var (pv 2))) (blkOk_by (own := [("term", 3)]) (N := N_M_init) (sc := defScope s_M_init) (by decide +kernel)) (fun _ _ _ _ _ => dg_name (pg_name (i := 3) sc_M_init.nd rfl (.inl rfl)) (show 3 ∉ ([0] : List Nat) by decide)) (fun _ _ _ _ _ => dts_nil) (fun _ _ _ _ _ => de_callH h_is_term hr (by decide) hgd rfl rfl takes_no (dc_im (de_var (pv 1)) (dc_im (de_var (pv 3)) (dc_nil)))) (by decide)) (da_nil)))))))) (dss_one (ds_raiseF rfl tk x_NoTerms rfl rfl)) (dss_nil)) (dsi_end (fr := true) (pv 0) (pv 1) (pv 0) (pv 0) (de_callTy cd_list rfl T.list (by decide +kernel) (da_cons (de_var (pv 2)) (da_nil)))))
theorem ok_M_init (T : Blt mg) {f : Addr} {fd : FuncData} (S : StandsI K mg "Stints.__init__" (defArgs s_M_init) (defBody s_M_init) (defScope s_M_init) f fd) {t_MOST_PLACES : Tok} (g_MOST_PLACES : mg "MOST_PLACES" = some (.int 40 t_MOST_PLACES)) {C_NoPlaces : Addr} (x_NoPlaces : ExF K mg "NoPlaces" C_NoPlaces) {C_NoTerms : Addr} (x_NoTerms : ExF K mg "NoTerms" C_NoTerms) (h_is_within : Has P w K mg base (caOf mg) "is_within" 2 ["thing", "low", "high"] [] true F_is_within) (h_is_term : Has P w K mg base (caOf mg) "is_term" 3 ["many", "thing"] [] true F_is_term) : HasI P w K mg base (caOf mg) 4 F_M_init :=
  S.has sc_M_init (by decide) rfl fun cdv A outer s H E hr hgd => by
    have tk := takes_of (X := cxOf (L2.CX P w) P w K mg base N_M_init "Stints.__init__" (defScope s_M_init) f cdv A outer s H E) (E := E) rfl rfl rfl rfl
    have po := passes_of (X := cxOf (L2.CX P w) P w K mg base N_M_init "Stints.__init__" (defScope s_M_init) f cdv A outer s H E) rfl
    exact dsi_cons (fr := false) (ds_if (dt_not (dt_val (de_callH h_is_within hr (by decide) hgd rfl rfl tk (dc_im (de_var (pv 1)) (dc_im (de_int) (dc_im ((de_glob (v := .int 40) rfl g_MOST_PLACES ⟨_, rfl⟩ (fun _ _ => .int _) (fun _ q => nomatch q))) (dc_nil))))))) (dss_one (ds_raiseF rfl tk x_NoPlaces rfl rfl)) (dss_nil)) (dsi_cons (fr := false) (ds_if (PW.pt (dw_or (dt_not (dt_val (de_isi2 (S := "list") (T := "tuple") (de_var (pv 2)) rfl T.isinstance rfl T.list (by decide +kernel) rfl T.tuple (by decide +kernel)))) (dw_or1 (dt_not (dt_val (de_callB (cd_all rfl) rfl T.all (by decide +kernel) (da_cons (de_lc (own := [("term", 3)]) rfl sc_M_init.nd (di_seq (de_var (pv 2))) (blkOk_by (own := [("term", 3)]) (N := N_M_init) (sc := defScope s_M_init) (by decide +kernel)) (fun _ _ _ _ _ => dg_name (pg_name (i := 3) sc_M_init.nd rfl (.inl rfl)) (show 3 ∉ ([0] : List Nat) by decide)) (fun _ _ _ _ _ => dts_nil) (fun _ _ _ _ _ => de_callH h_is_term hr (by decide) hgd rfl rfl takes_no (dc_im (de_var (pv 1)) (dc_im (de_var (pv 3)) (dc_nil)))) (by decide)) (da_nil)))))))) (dss_one (ds_raiseF rfl tk x_NoTerms rfl rfl)) (dss_nil)) (dsi_end (fr := true) (pv 0) (pv 1) (pv 0) (pv 0) (de_callTy cd_list rfl T.list (by decide +kernel) (da_cons (de_var (pv 2)) (da_nil)))))
abbrev s_M_take : Stmt := clsS (topS 17) 1
abbrev N_M_take : List Str := ["self", "terms"]
theorem sc_M_take : FnScope N_M_take ["self", "terms"] (defScope s_M_take) := ⟨rfl, rfl, rfl, by decide +kernel, rfl, by decide +kernel, by decide +kernel⟩
theorem ok_M_take (T : Blt mg) (S : StandsM K "take" "Stints.take" s_M_take ["self", "terms"]) : HasM P w K mg base "take" 1 ["self", "terms"] (spTake K) := take_ok S sc_M_take rfl rfl (.inl rfl) (.inl rfl)
abbrev s_M_look_at_number : Stmt := clsS (topS 17) 2
abbrev N_M_look_at_number : List Str := ["self", "t"]
theorem sc_M_look_at_number : FnScope N_M_look_at_number ["self", "t"] (defScope s_M_look_at_number) := ⟨rfl, rfl, rfl, by decide +kernel, rfl, by decide +kernel, by decide +kernel⟩
theorem ok_M_look_at_number (T : Blt mg) (S : StandsM K "look_at_number" "Stints.look_at_number" s_M_look_at_number ["self", "t"]) {C_NoNumber : Addr} (x_NoNumber : ExF K mg "NoNumber" C_NoNumber) (h_is_within : Has P w K mg base (caOf mg) "is_within" 2 ["thing", "low", "high"] [] true F_is_within) : HasM P w K mg base "look_at_number" 3 ["self", "t"] (spD K (caOf mg) [] true F_M_look_at_number) :=
  S.has sc_M_look_at_number (by decide) rfl fun f cdv A outer s H E hr hgd => by
    have tk := takes_of (X := cxOf (L2.CX P w) P w K mg base N_M_look_at_number "Stints.look_at_number" (defScope s_M_look_at_number) f cdv A outer s H E) (E := E) rfl rfl rfl rfl
    have po := passes_of (X := cxOf (L2.CX P w) P w K mg base N_M_look_at_number "Stints.look_at_number" (defScope s_M_look_at_number) f cdv A outer s H E) rfl
    exact dss_one (ds_if (dt_not (dt_val (de_callH h_is_within hr (by decide) hgd rfl rfl tk (dc_im (de_var (pv 1)) (dc_im (de_int) (dc_im (de_op od_sub (de_callB (cd_len) rfl T.len (by decide +kernel) (da_cons (de_now (de_var (pv 0))) (da_nil))) (de_int)) (dc_nil))))))) (dss_one (ds_raiseF rfl tk x_NoNumber rfl rfl)) (dss_nil))
abbrev s_M_put : Stmt := clsS (topS 17) 3
abbrev N_M_put : List Str := ["self", "term"]
theorem sc_M_put : FnScope N_M_put ["self", "term"] (defScope s_M_put) := ⟨rfl, rfl, rfl, by decide +kernel, rfl, by decide +kernel, by decide +kernel⟩
theorem ok_M_put (T : Blt mg) (S : StandsM K "put" "Stints.put" s_M_put ["self", "term"]) {C_NoTerm : Addr} (x_NoTerm : ExF K mg "NoTerm" C_NoTerm) (ST : StI K) (h_is_term : Has P w K mg base (caOf mg) "is_term" 3 ["many", "thing"] [] true F_is_term) (h_M_take : HasM P w K mg base "take" 1 ["self", "terms"] (spTake K)) : HasM P w K mg base "put" 4 ["self", "term"] (spWr K (caOf mg) (some fun k => .int (k - 1)) F_M_put) :=
  S.wr sc_M_put (by decide) rfl fun f cdv A outer s H E hr hgd => by
    have tk := takes_of (X := cxOf (L2.CX P w) P w K mg base N_M_put "Stints.put" (defScope s_M_put) f cdv A outer s H E) (E := E) rfl rfl rfl rfl
    have po := passes_of (X := cxOf (L2.CX P w) P w K mg base N_M_put "Stints.put" (defScope s_M_put) f cdv A outer s H E) rfl
    exact dsw_cons (fr := false) (ds_if (dt_not (dt_val (de_callH h_is_term hr (by decide) hgd rfl rfl tk (dc_im (de_many (de_var (pv 0))) (dc_im (de_var (pv 1)) (dc_nil)))))) (dss_one (ds_raiseF rfl tk x_NoTerm rfl rfl)) (dss_nil)) (dsw_takeLen (fr := true) h_M_take hr (by decide) hgd tk (pv 0) (pv 0) (de_lst (da_star (de_now (de_var (pv 0))) (da_cons (de_var (pv 1)) (da_nil)))) ST rfl T.len)
abbrev s_M_drop : Stmt := clsS (topS 17) 4
abbrev N_M_drop : List Str := ["self", "t"]
theorem sc_M_drop : FnScope N_M_drop ["self", "t"] (defScope s_M_drop) := ⟨rfl, rfl, rfl, by decide +kernel, rfl, by decide +kernel, by decide +kernel⟩
theorem ok_M_drop (T : Blt mg) (S : StandsM K "drop" "Stints.drop" s_M_drop ["self", "t"]) (ST : StI K) (h_M_look_at_number : HasM P w K mg base "look_at_number" 3 ["self", "t"] (spD K (caOf mg) [] true F_M_look_at_number)) (h_M_take : HasM P w K mg base "take" 1 ["self", "terms"] (spTake K)) : HasM P w K mg base "drop" 4 ["self", "t"] (spWr K (caOf mg) none F_M_drop) :=
  S.wr sc_M_drop (by decide) rfl fun f cdv A outer s H E hr hgd => by
    have tk := takes_of (X := cxOf (L2.CX P w) P w K mg base N_M_drop "Stints.drop" (defScope s_M_drop) f cdv A outer s H E) (E := E) rfl rfl rfl rfl
    have po := passes_of (X := cxOf (L2.CX P w) P w K mg base N_M_drop "Stints.drop" (defScope s_M_drop) f cdv A outer s H E) rfl
    exact dsw_cons (fr := false) (ds_expr (de_meth ST h_M_look_at_number hr (by decide) hgd tk (de_var (pv 0)) (da_cons (de_var (pv 1)) (da_nil)) rfl (len_cons len_nil))) (dsw_take (fr := true) h_M_take hr (by decide) hgd tk (pv 0) (de_op od_add (de_slice sd_sl (de_now (de_var (pv 0))) (do_none) (do_some (de_var (pv 1)))) (de_slice sd_sl (de_now (de_var (pv 0))) (do_some (de_op od_add (de_var (pv 1)) (de_int))) (do_none))) ST)
abbrev s_M_change : Stmt := clsS (topS 17) 5
abbrev N_M_change : List Str := ["self", "t", "least", "most", "first", "length", "low", "high"]
theorem sc_M_change : FnScope N_M_change ["self", "t", "least", "most"] (defScope s_M_change) := ⟨rfl, rfl, rfl, by decide +kernel, rfl, by decide +kernel, by decide +kernel⟩
theorem ok_M_change (T : Blt mg) (S : StandsK K "change" "Stints.change" s_M_change [("least", V.non), ("most", V.non)]) {C_NoMost : Addr} (x_NoMost : ExF K mg "NoMost" C_NoMost) (ST : StI K) (h_M_look_at_number : HasM P w K mg base "look_at_number" 3 ["self", "t"] (spD K (caOf mg) [] true F_M_look_at_number)) (h_is_from : Has P w K mg base (caOf mg) "is_from" 2 ["thing", "low"] [] true F_is_from) (h_M_take : HasM P w K mg base "take" 1 ["self", "terms"] (spTake K)) : HasMK P w K mg base "change" "Stints.change" s_M_change [("least", V.non), ("most", V.non)] 4 ["self", "t", "least", "most"] (spWr K (caOf mg) none F_M_change) :=
  S.wr sc_M_change (by decide) rfl fun f cdv A outer s H E hr hgd => by
    have tk := takes_of (X := cxOf (L2.CX P w) P w K mg base N_M_change "Stints.change" (defScope s_M_change) f cdv A outer s H E) (E := E) rfl rfl rfl rfl
    have po := passes_of (X := cxOf (L2.CX P w) P w K mg base N_M_change "Stints.change" (defScope s_M_change) f cdv A outer s H E) rfl
    exact dsw_cons (fr := false) (ds_expr (de_meth ST h_M_look_at_number hr (by decide) hgd tk (de_var (pv 0)) (da_cons (de_var (pv 1)) (da_nil)) rfl (len_cons len_nil))) (dsw_cons (fr := false) (ds_if (PW.pt (dw_and (dt_cmp od_isnt (de_var (pv 2)) (de_non) (nomark _)) (dw_and1 (dt_not (dt_val (de_callH h_is_from hr (by decide) hgd rfl rfl tk (dc_im (de_var (pv 2)) (dc_im (de_int) (dc_nil))))))))) (dss_one (ds_raiseF rfl tk x_NoMost rfl rfl)) (dss_nil)) (dsw_cons (fr := false) (ds_if (PW.pt (dw_and (dt_cmp od_isnt (de_var (pv 3)) (de_non) (nomark _)) (dw_and (dt_not (dt_val (de_callH h_is_from hr (by decide) hgd rfl rfl tk (dc_im (de_var (pv 3)) (dc_im (de_int) (dc_nil)))))) (dw_and1 (dt_not (PW.pt (dw_and (dt_val (de_isi (T := "str") (de_var (pv 3)) rfl T.isinstance rfl T.str (by decide +kernel))) (dw_and1 (dt_cmp (od_eq hr.units) (de_var (pv 3)) (de_str) (nomark _)))))))))) (dss_one (ds_raiseF rfl tk x_NoMost rfl rfl)) (dss_nil)) (dsw_cons (fr := false) (ds_asg (de_ix xd_ix (de_now (de_var (pv 0))) (de_var (pv 1)) (fun _ _ => rfl)) (dg_tup rfl (dgs_cons (dg_name (pg_name (i := 4) sc_M_change.nd rfl (.inl rfl)) (show 4 ∉ ([0] : List Nat) by decide)) (dgs_cons (dg_name (pg_name (i := 5) sc_M_change.nd rfl (.inl rfl)) (show 5 ∉ ([0] : List Nat) by decide)) (dgs_cons (dg_name (pg_name (i := 6) sc_M_change.nd rfl (.inl rfl)) (show 6 ∉ ([0] : List Nat) by decide)) (dgs_cons (dg_name (pg_name (i := 7) sc_M_change.nd rfl (.inl rfl)) (show 7 ∉ ([0] : List Nat) by decide)) (dgs_nil))))))) (dsw_cons (fr := false) (ds_set (i := 6) sc_M_change.nd rfl (.inl rfl) (de_if (dt_cmp od_is (de_var (pv 2)) (de_non) (nomark _)) (de_var (pv 6)) (de_var (pv 2))) (show 6 ∉ ([0] : List Nat) by decide)) (dsw_cons (fr := false) (ds_if (dt_cmp od_isnt (de_var (pv 3)) (de_non) (nomark _)) (dss_one (ds_set (i := 7) sc_M_change.nd rfl (.inl rfl) (de_if (dt_val (de_isi (T := "str") (de_var (pv 3)) rfl T.isinstance rfl T.str (by decide +kernel))) (de_non) (de_var (pv 3))) (show 7 ∉ ([0] : List Nat) by decide))) (dss_nil)) (dsw_take (fr := true) h_M_take hr (by decide) hgd tk (pv 0) (de_lst (da_star (de_slice sd_sl (de_now (de_var (pv 0))) (do_none) (do_some (de_var (pv 1)))) (da_cons (de_tup (da_cons (de_var (pv 4)) (da_cons (de_var (pv 5)) (da_cons (de_var (pv 6)) (da_cons (de_var (pv 7)) (da_nil)))))) (da_star (de_slice sd_sl (de_now (de_var (pv 0))) (do_some (de_op od_add (de_var (pv 1)) (de_int))) (do_none)) (da_nil))))) ST))))))
abbrev s_M_turn : Stmt := clsS (topS 17) 6
abbrev N_M_turn : List Str := ["self", "k", "first", "length", "low", "high"]
theorem sc_M_turn : FnScope N_M_turn ["self", "k"] (defScope s_M_turn) := ⟨rfl, rfl, rfl, by decide +kernel, rfl, by decide +kernel, by decide +kernel⟩
theorem ok_M_turn (T : Blt mg) (S : StandsM K "turn" "Stints.turn" s_M_turn ["self", "k"]) {C_NoTurn : Addr} (x_NoTurn : ExF K mg "NoTurn" C_NoTurn) (ST : StI K) (h_is_whole : Has P w K mg base (caOf mg) "is_whole" 1 ["thing"] [] true F_is_whole) (h_M_take : HasM P w K mg base "take" 1 ["self", "terms"] (spTake K)) : HasM P w K mg base "turn" 2 ["self", "k"] (spWr K (caOf mg) none F_M_turn) :=
  S.wr sc_M_turn (by decide) rfl fun f cdv A outer s H E hr hgd => by
    have tk := takes_of (X := cxOf (L2.CX P w) P w K mg base N_M_turn "Stints.turn" (defScope s_M_turn) f cdv A outer s H E) (E := E) rfl rfl rfl rfl
    have po := passes_of (X := cxOf (L2.CX P w) P w K mg base N_M_turn "Stints.turn" (defScope s_M_turn) f cdv A outer s H E) rfl
    exact dsw_cons (fr := false) (ds_if (dt_not (dt_val (de_callH h_is_whole hr (by decide) hgd rfl rfl tk (dc_im (de_var (pv 1)) (dc_nil))))) (dss_one (ds_raiseF rfl tk x_NoTurn rfl rfl)) (dss_nil)) (dsw_take (fr := true) h_M_take hr (by decide) hgd tk (pv 0) (de_lc (own := [("first", 2), ("length", 3), ("low", 4), ("high", 5)]) rfl sc_M_turn.nd (di_seq (de_now (de_var (pv 0)))) (blkOk_by (own := [("first", 2), ("length", 3), ("low", 4), ("high", 5)]) (N := N_M_turn) (sc := defScope s_M_turn) (by decide +kernel)) (fun _ _ _ _ _ => dg_tup rfl (dgs_cons (dg_name (pg_name (i := 2) sc_M_turn.nd rfl (.inl rfl)) (show 2 ∉ ([0] : List Nat) by decide)) (dgs_cons (dg_name (pg_name (i := 3) sc_M_turn.nd rfl (.inl rfl)) (show 3 ∉ ([0] : List Nat) by decide)) (dgs_cons (dg_name (pg_name (i := 4) sc_M_turn.nd rfl (.inl rfl)) (show 4 ∉ ([0] : List Nat) by decide)) (dgs_cons (dg_name (pg_name (i := 5) sc_M_turn.nd rfl (.inl rfl)) (show 5 ∉ ([0] : List Nat) by decide)) (dgs_nil)))))) (fun _ _ _ _ _ => dts_nil) (fun _ _ _ _ _ => de_tup (da_cons (de_op od_mod (de_op od_add (de_var (pv 2)) (de_var (pv 1))) (de_many (de_var (pv 0)))) (da_cons (de_var (pv 3)) (da_cons (de_var (pv 4)) (da_cons (de_var (pv 5)) (da_nil)))))) (by decide)) ST)
abbrev s_M_back : Stmt := clsS (topS 17) 7
abbrev N_M_back : List Str := ["self"]
theorem sc_M_back : FnScope N_M_back ["self"] (defScope s_M_back) := ⟨rfl, rfl, rfl, by decide +kernel, rfl, by decide +kernel, by decide +kernel⟩
theorem ok_M_back (T : Blt mg) (S : StandsM K "back" "Stints.back" s_M_back ["self"]) : HasM P w K mg base "back" 1 ["self"] (spBack K) := back_ok S sc_M_back T.len rfl rfl (.inl rfl) (fun _ _ _ _ _ _ _ => rfl)
abbrev s_M_ring : Stmt := clsS (topS 17) 8
abbrev N_M_ring : List Str := ["self"]
theorem sc_M_ring : FnScope N_M_ring ["self"] (defScope s_M_ring) := ⟨rfl, rfl, rfl, by decide +kernel, rfl, by decide +kernel, by decide +kernel⟩
theorem ok_M_ring (T : Blt mg) (S : StandsM K "ring" "Stints.ring" s_M_ring ["self"]) : HasM P w K mg base "ring" 1 ["self"] (spD K (caOf mg) [] true F_M_ring) :=
  S.has sc_M_ring (by decide) rfl fun f cdv A outer s H E hr hgd => by
    have tk := takes_of (X := cxOf (L2.CX P w) P w K mg base N_M_ring "Stints.ring" (defScope s_M_ring) f cdv A outer s H E) (E := E) rfl rfl rfl rfl
    have po := passes_of (X := cxOf (L2.CX P w) P w K mg base N_M_ring "Stints.ring" (defScope s_M_ring) f cdv A outer s H E) rfl
    exact dss_one (ds_ret (de_tup (da_cons (de_many (de_var (pv 0))) (da_cons (de_callTy cd_tuple rfl T.tuple (by decide +kernel) (da_cons (de_now (de_var (pv 0))) (da_nil))) (da_nil)))))
abbrev s_M_iter : Stmt := clsS (topS 17) 12
abbrev N_M_iter : List Str := ["self"]
theorem sc_M_iter : FnScope N_M_iter ["self"] (defScope s_M_iter) := ⟨rfl, rfl, rfl, by decide +kernel, rfl, by decide +kernel, by decide +kernel⟩
theorem ok_M_iter (T : Blt mg) (S : StandsM K "__iter__" "Stints.__iter__" s_M_iter ["self"]) : HasM P w K mg base "__iter__" 1 ["self"] (spIter K) := iter_ok S sc_M_iter T.iter rfl (.inl rfl) (fun _ _ _ _ _ _ _ => rfl)
theorem okI_M_iter (T : Blt mg) (S : StandsM K "__iter__" "Stints.__iter__" s_M_iter ["self"]) : HasIt P w K mg base 1 := it_ok S sc_M_iter T.iter rfl (.inl rfl) (fun _ _ _ _ _ _ _ => rfl)
abbrev s_M_len : Stmt := clsS (topS 17) 13
abbrev N_M_len : List Str := ["self"]
theorem sc_M_len : FnScope N_M_len ["self"] (defScope s_M_len) := ⟨rfl, rfl, rfl, by decide +kernel, rfl, by decide +kernel, by decide +kernel⟩
theorem ok_M_len (T : Blt mg) (S : StandsM K "__len__" "Stints.__len__" s_M_len ["self"]) : HasM P w K mg base "__len__" 1 ["self"] (spD K (caOf mg) [] true F_M_len) :=
  S.has sc_M_len (by decide) rfl fun f cdv A outer s H E hr hgd => by
    have tk := takes_of (X := cxOf (L2.CX P w) P w K mg base N_M_len "Stints.__len__" (defScope s_M_len) f cdv A outer s H E) (E := E) rfl rfl rfl rfl
    have po := passes_of (X := cxOf (L2.CX P w) P w K mg base N_M_len "Stints.__len__" (defScope s_M_len) f cdv A outer s H E) rfl
    exact dss_one (ds_ret (de_callB (cd_len) rfl T.len (by decide +kernel) (da_cons (de_now (de_var (pv 0))) (da_nil))))
abbrev s_M_ior : Stmt := clsS (topS 17) 15
abbrev N_M_ior : List Str := ["self", "other"]
theorem sc_M_ior : FnScope N_M_ior ["self", "other"] (defScope s_M_ior) := ⟨rfl, rfl, rfl, by decide +kernel, rfl, by decide +kernel, by decide +kernel⟩
theorem ok_M_ior (T : Blt mg) (S : StandsM K "__ior__" "Stints.__ior__" s_M_ior ["self", "other"]) {C_Unlike : Addr} (x_Unlike : ExF K mg "Unlike" C_Unlike) (ST : StI K) (SJ : StJ K mg) (h_M_take : HasM P w K mg base "take" 1 ["self", "terms"] (spTake K)) : HasM P w K mg base "__ior__" 2 ["self", "other"] (spWs K (caOf mg) F_M_ior) :=
  S.wrs sc_M_ior (by decide) rfl fun f cdv A outer s H E hr hgd => by
    have tk := takes_of (X := cxOf (L2.CX P w) P w K mg base N_M_ior "Stints.__ior__" (defScope s_M_ior) f cdv A outer s H E) (E := E) rfl rfl rfl rfl
    have po := passes_of (X := cxOf (L2.CX P w) P w K mg base N_M_ior "Stints.__ior__" (defScope s_M_ior) f cdv A outer s H E) rfl
    exact dsws_cons (fr := false) (ds_if (PW.pt (dw_or (dt_not (dt_val (de_isS SJ (de_var (pv 1)) rfl T.isinstance rfl))) (dw_or1 (dt_cmp (od_ne hr.units) (de_many (de_var (pv 1))) (de_many (de_var (pv 0))) (nomark _))))) (dss_one (ds_raiseF rfl tk x_Unlike rfl rfl)) (dss_nil)) (dsws_take (fr := true) h_M_take hr (by decide) hgd tk (pv 0) (pv 0) (de_op od_add (de_now (de_var (pv 0))) (de_now (de_var (pv 1)))) ST)
abbrev s_M_eq : Stmt := clsS (topS 17) 16
abbrev N_M_eq : List Str := ["self", "other", "one", "two", "term"]
theorem sc_M_eq : FnScope N_M_eq ["self", "other"] (defScope s_M_eq) := ⟨rfl, rfl, rfl, by decide +kernel, rfl, by decide +kernel, by decide +kernel⟩
theorem ok_M_eq (T : Blt mg) (S : StandsM K "__eq__" "Stints.__eq__" s_M_eq ["self", "other"]) (SJ : StJ K mg) : HasM P w K mg base "__eq__" 1 ["self", "other"] (spD K (caOf mg) [] true F_M_eq) :=
  S.has sc_M_eq (by decide) rfl fun f cdv A outer s H E hr hgd => by
    have tk := takes_of (X := cxOf (L2.CX P w) P w K mg base N_M_eq "Stints.__eq__" (defScope s_M_eq) f cdv A outer s H E) (E := E) rfl rfl rfl rfl
    have po := passes_of (X := cxOf (L2.CX P w) P w K mg base N_M_eq "Stints.__eq__" (defScope s_M_eq) f cdv A outer s H E) rfl
    exact dss_cons (ds_if (PW.pt (dw_or (dt_not (dt_val (de_isS SJ (de_var (pv 1)) rfl T.isinstance rfl))) (dw_or (dt_cmp (od_ne hr.units) (de_many (de_var (pv 1))) (de_many (de_var (pv 0))) (nomark _)) (dw_or1 (dt_cmp (od_ne hr.units) (de_callB (cd_len) rfl T.len (by decide +kernel) (da_cons (de_now (de_var (pv 1))) (da_nil))) (de_callB (cd_len) rfl T.len (by decide +kernel) (da_cons (de_now (de_var (pv 0))) (da_nil))) (nomark _)))))) (dss_one (ds_ret (de_bl))) (dss_nil)) (dss_cons (ds_asg (de_tup (da_cons (de_now (de_var (pv 0))) (da_cons (de_now (de_var (pv 1))) (da_nil)))) (dg_tup rfl (dgs_cons (dg_name (pg_name (i := 2) sc_M_eq.nd rfl (.inr rfl)) (show 2 ∉ ([] : List Nat) by decide)) (dgs_cons (dg_name (pg_name (i := 3) sc_M_eq.nd rfl (.inr rfl)) (show 3 ∉ ([] : List Nat) by decide)) (dgs_nil))))) (dss_one (ds_ret (de_callB (cd_all rfl) rfl T.all (by decide +kernel) (da_cons (de_lc (own := [("term", 4)]) rfl sc_M_eq.nd (di_seq (de_var (pv 2))) (blkOk_by (own := [("term", 4)]) (N := N_M_eq) (sc := defScope s_M_eq) (by decide +kernel)) (fun _ _ _ _ _ => dg_name (pg_name (i := 4) sc_M_eq.nd rfl (.inl rfl)) (show 4 ∉ ([] : List Nat) by decide)) (fun _ _ _ _ _ => dts_nil) (fun _ _ _ _ _ => de_cmp (od_eq hr.units) (de_count (u65 hr) (de_var (pv 2)) (de_var (pv 4))) (de_count (u65 hr) (de_var (pv 3)) (de_var (pv 4))) (nomark _)) (by decide)) (da_nil))))))
abbrev s_law_mixed : Stmt := topS 19
abbrev N_law_mixed : List Str := ["_law_cell", "_law_k", "_law_number"]
theorem sc_law_mixed : FnScope N_law_mixed ["_law_cell", "_law_k"] (defScope s_law_mixed) := ⟨rfl, rfl, rfl, by decide +kernel, rfl, by decide +kernel, by decide +kernel⟩
theorem ok_law_mixed (T : Blt mg) (S : Stands K mg "_law_mixed" s_law_mixed ["_law_cell", "_law_k"]) : Has P w K mg base (caOf mg) "_law_mixed" 1 ["_law_cell", "_law_k"] [] true F_law_mixed :=
  S.has sc_law_mixed (by decide) rfl fun f cdv A outer s H E hr hgd => by
    have tk := takes_of (X := cxOf (L2.CX P w) P w K mg base N_law_mixed "_law_mixed" (defScope s_law_mixed) f cdv A outer s H E) (E := E) rfl rfl rfl rfl
    have po := passes_of (X := cxOf (L2.CX P w) P w K mg base N_law_mixed "_law_mixed" (defScope s_law_mixed) f cdv A outer s H E) rfl
    exact dss_cons (ds_set (i := 2) sc_law_mixed.nd rfl (.inl rfl) (de_op od_mod (de_callTy cd_int rfl T.int (by decide +kernel) (da_cons (de_op od_add (de_op od_add (de_op od_mul (de_op od_mod (de_callTy cd_int rfl T.int (by decide +kernel) (da_cons (de_var (pv 0)) (da_nil))) (de_int)) (de_int)) (de_op od_mul (de_var (pv 1)) (de_int))) (de_int)) (da_nil))) (de_int)) (show 2 ∉ ([] : List Nat) by decide)) (dss_cons (ds_set (i := 2) sc_law_mixed.nd rfl (.inl rfl) (de_op od_mod (de_callTy cd_int rfl T.int (by decide +kernel) (da_cons (de_op od_mul (de_var (pv 2)) (de_var (pv 2))) (da_nil))) (de_int)) (show 2 ∉ ([] : List Nat) by decide)) (dss_one (ds_ret (de_op od_mod (de_callTy cd_int rfl T.int (by decide +kernel) (da_cons (de_op od_mul (de_var (pv 2)) (de_op od_add (de_var (pv 2)) (de_int))) (da_nil))) (de_int)))))
abbrev s_law_pile : Stmt := topS 20
abbrev N_law_pile : List Str := ["_law_script", "_law_k", "_law_cell", "_law_found", "_law_j"]
theorem sc_law_pile : FnScope N_law_pile ["_law_script", "_law_k"] (defScope s_law_pile) := ⟨rfl, rfl, rfl, by decide +kernel, rfl, by decide +kernel, by decide +kernel⟩
theorem ok_law_pile (T : Blt mg) (S : Stands K mg "_law_pile" s_law_pile ["_law_script", "_law_k"]) (h_law_mixed : Has P w K mg base (caOf mg) "_law_mixed" 1 ["_law_cell", "_law_k"] [] true F_law_mixed) : Has P w K mg base (caOf mg) "_law_pile" 2 ["_law_script", "_law_k"] [] true F_law_pile :=
  S.has sc_law_pile (by decide) rfl fun f cdv A outer s H E hr hgd => by
    have tk := takes_of (X := cxOf (L2.CX P w) P w K mg base N_law_pile "_law_pile" (defScope s_law_pile) f cdv A outer s H E) (E := E) rfl rfl rfl rfl
    have po := passes_of (X := cxOf (L2.CX P w) P w K mg base N_law_pile "_law_pile" (defScope s_law_pile) f cdv A outer s H E) rfl
    exact dss_cons (ds_set (i := 2) sc_law_pile.nd rfl (.inl rfl) (de_int) (show 2 ∉ ([] : List Nat) by decide)) (dss_cons (ds_if (dt_cmp od_lt (de_var (pv 1)) (de_callB (cd_len) rfl T.len (by decide +kernel) (da_cons (de_var (pv 0)) (da_nil))) (nomark _)) (dss_one (ds_set (i := 2) sc_law_pile.nd rfl (.inl rfl) (de_ix xd_ix (de_var (pv 0)) (de_var (pv 1)) (fun _ _ => rfl)) (show 2 ∉ ([] : List Nat) by decide))) (dss_nil)) (dss_cons (ds_if (dt_cmp od_ge (de_var (pv 2)) (de_op od_pow (de_int) (de_int)) (nomark _)) (dss_one (ds_ret (de_lst (da_cons (de_op od_mod (de_callTy cd_int rfl T.int (by decide +kernel) (da_cons (de_op od_sub (de_var (pv 2)) (de_op od_pow (de_int) (de_int))) (da_nil))) (de_op od_mul (de_op od_mul (de_op od_mul (de_op od_pow (de_int) (de_int)) (de_op od_pow (de_int) (de_int))) (de_op od_pow (de_int) (de_int))) (de_op od_pow (de_int) (de_int)))) (da_nil))))) (dss_nil)) (dss_cons (ds_set (i := 3) sc_law_pile.nd rfl (.inl rfl) (de_int) (show 3 ∉ ([] : List Nat) by decide)) (dss_cons (ds_for po rfl (di_range1 (by rfl) T.range (da_cons (de_int) (da_nil))) (dg_name (pg_name (i := 4) sc_law_pile.nd rfl (.inl rfl)) (show 4 ∉ ([] : List Nat) by decide)) (dss_one (ds_set (i := 3) sc_law_pile.nd rfl (.inl rfl) (de_op od_add (de_op od_mul (de_var (pv 3)) (de_int)) (de_callH h_law_mixed hr (by decide) hgd rfl rfl tk (dc_im (de_var (pv 2)) (dc_im (de_op od_add (de_op od_add (de_op od_mul (de_int) (de_var (pv 1))) (de_op od_mul (de_int) (de_var (pv 4)))) (de_op od_mul (de_var (pv 4)) (de_var (pv 4)))) (dc_nil))))) (show 3 ∉ ([] : List Nat) by decide)))) (dss_one (ds_ret (de_lst (da_cons (de_var (pv 3)) (da_nil)))))))))
abbrev s_law_take : Stmt := topS 21
abbrev N_law_take : List Str := ["_law_pile_here", "_law_size", "_law_digit"]
theorem sc_law_take : FnScope N_law_take ["_law_pile_here", "_law_size"] (defScope s_law_take) := ⟨rfl, rfl, rfl, by decide +kernel, rfl, by decide +kernel, by decide +kernel⟩
theorem ok_law_take (T : Blt mg) (S : Stands K mg "_law_take" s_law_take ["_law_pile_here", "_law_size"]) : Has P w K mg base (caOf mg) "_law_take" 1 ["_law_pile_here", "_law_size"] [0] false F_law_take :=
  S.has sc_law_take (by decide) rfl fun f cdv A outer s H E hr hgd => by
    have tk := takes_of (X := cxOf (L2.CX P w) P w K mg base N_law_take "_law_take" (defScope s_law_take) f cdv A outer s H E) (E := E) rfl rfl rfl rfl
    have po := passes_of (X := cxOf (L2.CX P w) P w K mg base N_law_take "_law_take" (defScope s_law_take) f cdv A outer s H E) rfl
    exact dss_cons (ds_set (i := 2) sc_law_take.nd rfl (.inl rfl) (de_op od_mod (de_callTy cd_int rfl T.int (by decide +kernel) (da_cons (de_ixO (pv 0) (de_int) (fun _ _ => rfl)) (da_nil))) (de_var (pv 1))) (show 2 ∉ ([0] : List Nat) by decide)) (dss_cons (ds_sto (pv 0) (de_int) (de_op od_fdiv (de_ixO (pv 0) (de_int) (fun _ _ => rfl)) (de_var (pv 1))) (pg_sub (pv 0) (de_int) set_list)) (dss_one (ds_ret (de_var (pv 2)))))
abbrev s_law_order_of : Stmt := topS 22
abbrev N_law_order_of : List Str := ["_law_pile_here", "_law_many", "_law_order", "_law_k"]
theorem sc_law_order_of : FnScope N_law_order_of ["_law_pile_here", "_law_many"] (defScope s_law_order_of) := ⟨rfl, rfl, rfl, by decide +kernel, rfl, by decide +kernel, by decide +kernel⟩
theorem ok_law_order_of (T : Blt mg) (S : Stands K mg "_law_order_of" s_law_order_of ["_law_pile_here", "_law_many"]) (h_law_take : Has P w K mg base (caOf mg) "_law_take" 1 ["_law_pile_here", "_law_size"] [0] false F_law_take) : Has P w K mg base (caOf mg) "_law_order_of" 2 ["_law_pile_here", "_law_many"] [0] true F_law_order_of :=
  S.has sc_law_order_of (by decide) rfl fun f cdv A outer s H E hr hgd => by
    have tk := takes_of (X := cxOf (L2.CX P w) P w K mg base N_law_order_of "_law_order_of" (defScope s_law_order_of) f cdv A outer s H E) (E := E) rfl rfl rfl rfl
    have po := passes_of (X := cxOf (L2.CX P w) P w K mg base N_law_order_of "_law_order_of" (defScope s_law_order_of) f cdv A outer s H E) rfl
    exact dss_cons (ds_setO (i := 2) sc_law_order_of.nd rfl (.inl rfl) (de_lst (da_nil)) (show 2 ∉ ([0] : List Nat) by decide)) (dss_cons (ds_for po rfl (di_range1 (by rfl) T.range (da_cons (de_var (pv 1)) (da_nil))) (dg_name (pg_name (i := 3) sc_law_order_of.nd rfl (.inl rfl)) (show 3 ∉ ([0] : List Nat) by decide)) (dss_one (ds_ins (pv 2) (de_callH h_law_take hr (by decide) hgd rfl rfl tk (dc_sl (pv 0) (dc_im (de_op od_add (de_var (pv 3)) (de_int)) (dc_nil)))) (de_var (pv 3))))) (dss_one (ds_retO (pv 2) (show 2 ∉ ([0] : List Nat) by decide))))
abbrev s_law_new_term : Stmt := topS 23
abbrev N_law_new_term : List Str := ["_law_pile_here", "_law_many", "_law_first", "_law_length"]
theorem sc_law_new_term : FnScope N_law_new_term ["_law_pile_here", "_law_many"] (defScope s_law_new_term) := ⟨rfl, rfl, rfl, by decide +kernel, rfl, by decide +kernel, by decide +kernel⟩
theorem ok_law_new_term (T : Blt mg) (S : Stands K mg "_law_new_term" s_law_new_term ["_law_pile_here", "_law_many"]) (h_law_take : Has P w K mg base (caOf mg) "_law_take" 1 ["_law_pile_here", "_law_size"] [0] false F_law_take) : Has P w K mg base (caOf mg) "_law_new_term" 2 ["_law_pile_here", "_law_many"] [0] true F_law_new_term :=
  S.has sc_law_new_term (by decide) rfl fun f cdv A outer s H E hr hgd => by
    have tk := takes_of (X := cxOf (L2.CX P w) P w K mg base N_law_new_term "_law_new_term" (defScope s_law_new_term) f cdv A outer s H E) (E := E) rfl rfl rfl rfl
    have po := passes_of (X := cxOf (L2.CX P w) P w K mg base N_law_new_term "_law_new_term" (defScope s_law_new_term) f cdv A outer s H E) rfl
    exact dss_cons (ds_par (i := 2) (j := 3) rfl sc_law_new_term.nd rfl rfl (by decide) rfl rfl (da_cons (de_callH h_law_take hr (by decide) hgd rfl rfl tk (dc_sl (pv 0) (dc_im (de_var (pv 1)) (dc_nil)))) (da_cons (de_op od_add (de_int) (de_callH h_law_take hr (by decide) hgd rfl rfl tk (dc_sl (pv 0) (dc_im (de_var (pv 1)) (dc_nil))))) (da_nil))) (show 2 ∉ ([0] : List Nat) by decide) (show 3 ∉ ([0] : List Nat) by decide)) (dss_one (ds_ret (de_tup (da_cons (de_var (pv 2)) (da_cons (de_var (pv 3)) (da_cons (de_callH h_law_take hr (by decide) hgd rfl rfl tk (dc_sl (pv 0) (dc_im (de_int) (dc_nil)))) (da_cons (de_ix xd_ix (de_lst (da_cons (de_non) (da_cons (de_callH h_law_take hr (by decide) hgd rfl rfl tk (dc_sl (pv 0) (dc_im (de_int) (dc_nil)))) (da_nil)))) (de_callH h_law_take hr (by decide) hgd rfl rfl tk (dc_sl (pv 0) (dc_im (de_int) (dc_nil)))) (fun _ _ => rfl)) (da_nil))))))))
abbrev s_law_laid : Stmt := topS 24
abbrev N_law_laid : List Str := ["_law_pile_here", "_law_many", "_law_terms", "_law_stints", "_law_term", "_law_way", "_law_number"]
theorem sc_law_laid : FnScope N_law_laid ["_law_pile_here", "_law_many", "_law_terms"] (defScope s_law_laid) := ⟨rfl, rfl, rfl, by decide +kernel, rfl, by decide +kernel, by decide +kernel⟩
theorem ok_law_laid (T : Blt mg) (S : Stands K mg "_law_laid" s_law_laid ["_law_pile_here", "_law_many", "_law_terms"]) (ST : StI K) (h_M_init1 : HasI1 P w K mg base (caOf mg) 4 F_M_init) (h_M_init : HasI P w K mg base (caOf mg) 4 F_M_init) (h_law_take : Has P w K mg base (caOf mg) "_law_take" 1 ["_law_pile_here", "_law_size"] [0] false F_law_take) (h_M_put : HasM P w K mg base "put" 4 ["self", "term"] (spWr K (caOf mg) (some fun k => .int (k - 1)) F_M_put)) (h_M_drop : HasM P w K mg base "drop" 4 ["self", "t"] (spWr K (caOf mg) none F_M_drop)) (h_M_len : HasM P w K mg base "__len__" 1 ["self"] (spD K (caOf mg) [] true F_M_len)) (h_M_change : HasMK P w K mg base "change" "Stints.change" s_M_change [("least", V.non), ("most", V.non)] 4 ["self", "t", "least", "most"] (spWr K (caOf mg) none F_M_change)) (h_M_turn : HasM P w K mg base "turn" 2 ["self", "k"] (spWr K (caOf mg) none F_M_turn)) : HasV P w K mg base "_law_laid" 9 ["_law_pile_here", "_law_many", "_law_terms"] (spN K [0] [] F_law_laid) :=
  S.hasN (ca := caOf mg) (oi := [3]) sc_law_laid (by decide) rfl (by decide) (by decide) fun f cdv A outer s H E hr hgd => by
    have tk := takes_of (X := cxOf (L2.CX P w) P w K mg base N_law_laid "_law_laid" (defScope s_law_laid) f cdv A outer s H E) (E := E) rfl rfl rfl rfl
    have po := passes_of (X := cxOf (L2.CX P w) P w K mg base N_law_laid "_law_laid" (defScope s_law_laid) f cdv A outer s H E) rfl
    exact nss_cons (ns_bind (i := 3) sc_law_laid.nd rfl (.inl rfl) (nm_make1 h_M_init1 hr (by decide) hgd tk rfl (da_cons (de_var (pv 1)) (da_nil)) (len_cons len_nil)) (show 3 ∈ ([3] : List Nat) by decide) (show 3 ∉ ([0] : List Nat) by decide)) (nss_cons (ns_for po rfl (di_seq (de_var (pv 2))) (dg_name (pg_name (i := 4) sc_law_laid.nd rfl (.inl rfl)) (show 4 ∉ ([3, 0] : List Nat) by decide)) (nss_cons (ns_plain (fr := false) (h := ds_set (i := 5) sc_law_laid.nd rfl (.inl rfl) (de_callH h_law_take hr (by decide) hgd rfl rfl tk (dc_sl (pv 0) (dc_im (de_int) (dc_nil)))) (show 5 ∉ ([3, 0] : List Nat) by decide))) (nss_cons (ns_if (nt_plain (dt_cmp (od_eq hr.units) (de_var (pv 5)) (de_int) (nomark _))) (nss_cons (ns_expr (ne_wr (ret := (some fun k => ((k : Int) - 1))) h_M_put hr (by decide) hgd tk (pv 3) (da_cons (de_tup (da_cons (de_int) (da_cons (de_int) (da_cons (de_int) (da_cons (de_non) (da_nil)))))) (da_nil)) ST rfl (len_cons len_nil))) (nss_one (ns_expr (ne_wr (ret := none) h_M_drop hr (by decide) hgd tk (pv 3) (da_cons (de_op od_sub (de_callB (cd_lenS h_M_len hr (by decide) hgd (fun _ _ _ => ⟨_, rfl⟩)) rfl T.len (by decide +kernel) (da_cons (de_var (pv 3)) (da_nil))) (de_int)) (da_nil)) ST rfl (len_cons len_nil))))) (nss_nil)) (nss_cons (ns_set (i := 6) sc_law_laid.nd rfl (.inl rfl) (ne_wr (ret := (some fun k => ((k : Int) - 1))) h_M_put hr (by decide) hgd tk (pv 3) (da_cons (de_tup (da_cons (de_ix xd_ix (de_var (pv 4)) (de_int) (fun _ _ => rfl)) (da_cons (de_ix xd_ix (de_var (pv 4)) (de_int) (fun _ _ => rfl)) (da_cons (de_int) (da_cons (de_non) (da_nil)))))) (da_nil)) ST rfl (len_cons len_nil)) (show 6 ∉ ([3, 0] : List Nat) by decide)) (nss_cons (ns_if (nt_plain (dt_cmp od_is (de_ix xd_ix (de_var (pv 4)) (de_int) (fun _ _ => rfl)) (de_non) (nomark _))) (nss_one (ns_expr (ne_wrK (ret := none) (ks := ["least"]) (fun us mv ws => us ++ (ws ++ mv)) [("most", V.non)] [PyData.none] ord_pkm (by decide +kernel) (by simp) (fun _ _ => (.cons .non .nil)) h_M_change hr (by decide) hgd tk (pv 3) (da_cons (de_var (pv 6)) (da_nil)) (dk_one (de_ix xd_ix (de_var (pv 4)) (de_int) (fun _ _ => rfl))) ST (len_cons len_nil) (len_cons len_nil) (fun us mv ws h1 h2 h3 => match us, h1, mv, h2, ws, h3 with | [_], _, [_], _, [_], _ => rfl) (fun D doc pm an cdv ct us mv ws h1 h2 h3 => match us, h1, mv, h2, ws, h3 with | [_, _], _, [_], _, [_], _ => ⟨_, _, _, _, _, _, rfl, rfl, rfl⟩)))) (nss_one (ns_expr (ne_wrK (ret := none) (ks := ["most", "least"]) (fun us mv ws => us ++ (mv ++ sw2 ws)) [] [] ord_sw2 (by decide +kernel) (by simp) (fun _ _ => .nil) h_M_change hr (by decide) hgd tk (pv 3) (da_cons (de_var (pv 6)) (da_nil)) (dk_cons (de_ix xd_ix (de_var (pv 4)) (de_int) (fun _ _ => rfl)) (dk_one (de_ix xd_ix (de_var (pv 4)) (de_int) (fun _ _ => rfl)))) ST (len_cons len_nil) (len_cons (len_cons len_nil)) (fun us mv ws h1 h2 h3 => match us, h1, mv, h2, ws, h3 with | [_], _, [], _, [_, _], _ => rfl) (fun D doc pm an cdv ct us mv ws h1 h2 h3 => match us, h1, mv, h2, ws, h3 with | [_, _], _, [], _, [_, _], _ => rfl))))) (nss_one (ns_if (nt_plain (dt_cmp (od_eq hr.units) (de_var (pv 5)) (de_int) (nomark _))) (nss_cons (ns_expr (ne_wr (ret := none) h_M_turn hr (by decide) hgd tk (pv 3) (da_cons (de_int) (da_nil)) ST rfl (len_cons len_nil))) (nss_one (ns_expr (ne_wr (ret := none) h_M_turn hr (by decide) hgd tk (pv 3) (da_cons (de_un ud_neg (de_int)) (da_nil)) ST rfl (len_cons len_nil))))) (nss_nil)))))))) (nss_one (ns_retO (pv 3))))
abbrev s_law_alike : Stmt := topS 25
abbrev N_law_alike : List Str := ["_law_some", "_law_more", "_law_rest", "_law_term"]
theorem sc_law_alike : FnScope N_law_alike ["_law_some", "_law_more"] (defScope s_law_alike) := ⟨rfl, rfl, rfl, by decide +kernel, rfl, by decide +kernel, by decide +kernel⟩
theorem ok_law_alike (T : Blt mg) (S : Stands K mg "_law_alike" s_law_alike ["_law_some", "_law_more"]) : Has P w K mg base (caOf mg) "_law_alike" 1 ["_law_some", "_law_more"] [] true F_law_alike :=
  S.has sc_law_alike (by decide) rfl fun f cdv A outer s H E hr hgd => by
    have tk := takes_of (X := cxOf (L2.CX P w) P w K mg base N_law_alike "_law_alike" (defScope s_law_alike) f cdv A outer s H E) (E := E) rfl rfl rfl rfl
    have po := passes_of (X := cxOf (L2.CX P w) P w K mg base N_law_alike "_law_alike" (defScope s_law_alike) f cdv A outer s H E) rfl
    exact dss_cons (ds_setO (i := 2) sc_law_alike.nd rfl (.inl rfl) (de_callTy cd_list rfl T.list (by decide +kernel) (da_cons (de_var (pv 1)) (da_nil))) (show 2 ∉ ([] : List Nat) by decide)) (dss_cons (ds_for po rfl (di_seq (de_var (pv 0))) (dg_name (pg_name (i := 3) sc_law_alike.nd rfl (.inl rfl)) (show 3 ∉ ([] : List Nat) by decide)) (dss_cons (ds_if (dt_lend (dt_cmp (od_notin (u65 hr)) (de_var (pv 3)) (de_var (pv 2)) rfl)) (dss_one (ds_ret (de_bl))) (dss_nil)) (dss_one (ds_rem (u65 hr) (pv 2) (de_var (pv 3)))))) (dss_one (ds_ret (de_eqL hr.units (pv 2) (de_lst (da_nil)) (nomark _)))))
abbrev s_law_pair_good : Stmt := topS 26
abbrev N_law_pair_good : List Str := ["_law_one", "_law_other", "_law_some", "_law_more", "_law_due", "_law_told", "_law_truth"]
theorem sc_law_pair_good : FnScope N_law_pair_good ["_law_one", "_law_other", "_law_some", "_law_more"] (defScope s_law_pair_good) := ⟨rfl, rfl, rfl, by decide +kernel, rfl, by decide +kernel, by decide +kernel⟩
theorem ok_law_pair_good (T : Blt mg) (S : Stands K mg "_law_pair_good" s_law_pair_good ["_law_one", "_law_other", "_law_some", "_law_more"]) (SNE : StNe K) (h_law_alike : Has P w K mg base (caOf mg) "_law_alike" 1 ["_law_some", "_law_more"] [] true F_law_alike) (h_M_eq : HasM P w K mg base "__eq__" 1 ["self", "other"] (spD K (caOf mg) [] true F_M_eq)) (h_M_iter : HasM P w K mg base "__iter__" 1 ["self"] (spIter K)) (h_M_len : HasM P w K mg base "__len__" 1 ["self"] (spD K (caOf mg) [] true F_M_len)) : Has P w K mg base (caOf mg) "_law_pair_good" 6 ["_law_one", "_law_other", "_law_some", "_law_more"] [] true F_law_pair_good :=
  S.has sc_law_pair_good (by decide) rfl fun f cdv A outer s H E hr hgd => by
    have tk := takes_of (X := cxOf (L2.CX P w) P w K mg base N_law_pair_good "_law_pair_good" (defScope s_law_pair_good) f cdv A outer s H E) (E := E) rfl rfl rfl rfl
    have po := passes_of (X := cxOf (L2.CX P w) P w K mg base N_law_pair_good "_law_pair_good" (defScope s_law_pair_good) f cdv A outer s H E) rfl
    exact dss_cons (ds_set (i := 4) sc_law_pair_good.nd rfl (.inl rfl) (de_callH h_law_alike hr (by decide) hgd rfl rfl tk (dc_im (de_var (pv 2)) (dc_im (de_var (pv 3)) (dc_nil)))) (show 4 ∉ ([] : List Nat) by decide)) (dss_cons (ds_set (i := 5) sc_law_pair_good.nd rfl (.inl rfl) (de_lst (da_cons (de_cmp (od_eqX h_M_eq hr (by decide) hgd) (de_var (pv 0)) (de_var (pv 1)) (nomark _)) (da_cons (de_cmp (od_eqX h_M_eq hr (by decide) hgd) (de_var (pv 1)) (de_var (pv 0)) (nomark _)) (da_cons (de_cmp (od_eqX h_M_eq hr (by decide) hgd) (de_var (pv 0)) (de_var (pv 0)) (nomark _)) (da_nil))))) (show 5 ∉ ([] : List Nat) by decide)) (dss_cons (ds_if (PW.pt (dw_or (dt_cmp (od_ne hr.units) (de_var (pv 5)) (de_lst (da_cons (de_var (pv 4)) (da_cons (de_var (pv 4)) (da_cons (de_bl) (da_nil))))) (nomark _)) (dw_or1 (dt_cmp (od_ne hr.units) (de_lc (own := [("_law_truth", 6)]) rfl sc_law_pair_good.nd (di_seq (de_var (pv 5))) (blkOk_by (own := [("_law_truth", 6)]) (N := N_law_pair_good) (sc := defScope s_law_pair_good) (by decide +kernel)) (fun _ _ _ _ _ => dg_name (pg_name (i := 6) sc_law_pair_good.nd rfl (.inl rfl)) (show 6 ∉ ([] : List Nat) by decide)) (fun _ _ _ _ _ => dts_one (dt_not (dt_val (de_isi (T := "bool") (de_var (pv 6)) rfl T.isinstance rfl T.bool (by decide +kernel))))) (fun _ _ _ _ _ => de_var (pv 6)) (by decide)) (de_lst (da_nil)) (nomark _))))) (dss_one (ds_ret (de_bl))) (dss_nil)) (dss_one (ds_ret (de_and (de_cmp (od_ne hr.units) (de_cmp (od_neX SNE h_M_eq hr (by decide) hgd) (de_var (pv 0)) (de_var (pv 1)) (nomark _)) (de_var (pv 4)) (nomark _)) (de_and (de_cmp (od_eq hr.units) (de_callTy (cd_listS rfl h_M_iter h_M_len hr (by decide) (by decide) hgd (fun _ _ _ => ⟨_, rfl⟩)) rfl T.list (by decide +kernel) (da_cons (de_var (pv 0)) (da_nil))) (de_var (pv 2)) (nomark _)) (de_one (de_cmp (od_eq hr.units) (de_callTy (cd_listS rfl h_M_iter h_M_len hr (by decide) (by decide) hgd (fun _ _ _ => ⟨_, rfl⟩)) rfl T.list (by decide +kernel) (da_cons (de_var (pv 1)) (da_nil))) (de_var (pv 3)) (nomark _)))))))))
abbrev s_law_turns_good : Stmt := topS 27
abbrev N_law_turns_good : List Str := ["_law_many", "_law_one", "_law_some", "_law_k", "_law_terms", "_law_kept", "_law_term"]
theorem sc_law_turns_good : FnScope N_law_turns_good ["_law_many", "_law_one", "_law_some"] (defScope s_law_turns_good) := ⟨rfl, rfl, rfl, by decide +kernel, rfl, by decide +kernel, by decide +kernel⟩
theorem ok_law_turns_good (T : Blt mg) (S : Stands K mg "_law_turns_good" s_law_turns_good ["_law_many", "_law_one", "_law_some"]) (ST : StI K) (SNE : StNe K) (h_M_init : HasI P w K mg base (caOf mg) 4 F_M_init) (h_M_turn : HasM P w K mg base "turn" 2 ["self", "k"] (spWr K (caOf mg) none F_M_turn)) (h_M_eq : HasM P w K mg base "__eq__" 1 ["self", "other"] (spD K (caOf mg) [] true F_M_eq)) (h_law_alike : Has P w K mg base (caOf mg) "_law_alike" 1 ["_law_some", "_law_more"] [] true F_law_alike) (h_M_back : HasM P w K mg base "back" 1 ["self"] (spBack K)) : HasV P w K mg base "_law_turns_good" 9 ["_law_many", "_law_one", "_law_some"] (spN K [] [(1, 0)] F_law_turns_good) :=
  S.hasN (ca := caOf mg) (oi := [1, 5]) sc_law_turns_good (by decide) rfl (by decide) (by decide) fun f cdv A outer s H E hr hgd => by
    have tk := takes_of (X := cxOf (L2.CX P w) P w K mg base N_law_turns_good "_law_turns_good" (defScope s_law_turns_good) f cdv A outer s H E) (E := E) rfl rfl rfl rfl
    have po := passes_of (X := cxOf (L2.CX P w) P w K mg base N_law_turns_good "_law_turns_good" (defScope s_law_turns_good) f cdv A outer s H E) rfl
    exact nss_cons (ns_for po rfl (di_seq (de_lst (da_cons (de_int) (da_cons (de_op od_sub (de_var (pv 0)) (de_int)) (da_cons (de_op od_add (de_var (pv 0)) (de_int)) (da_nil)))))) (dg_name (pg_name (i := 3) sc_law_turns_good.nd rfl (.inr rfl)) (show 3 ∉ ([1, 5] : List Nat) by decide)) (nss_cons (ns_plain (fr := false) (h := ds_setLc (i := 4) (own := [("_law_term", 6)]) rfl sc_law_turns_good.nd rfl rfl (sw_true rfl rfl rfl (by decide +kernel)) (di_seq (de_var (pv 2))) (blkOk_by (own := [("_law_term", 6)]) (N := N_law_turns_good) (sc := defScope s_law_turns_good) (by decide +kernel)) (fun _ _ _ _ _ => dg_name (pg_name (i := 6) sc_law_turns_good.nd rfl (.inl rfl)) (show 6 ∉ ([1, 5] : List Nat) by decide)) (fun _ _ _ _ _ => dts_nil) (fun _ _ _ _ _ => de_tup (da_cons (de_op od_mod (de_callTy cd_int rfl T.int (by decide +kernel) (da_cons (de_op od_add (de_ix xd_ix (de_var (pv 6)) (de_int) (fun _ _ => rfl)) (de_var (pv 3))) (da_nil))) (de_var (pv 0))) (da_cons (de_ix xd_ix (de_var (pv 6)) (de_int) (fun _ _ => rfl)) (da_cons (de_ix xd_ix (de_var (pv 6)) (de_int) (fun _ _ => rfl)) (da_cons (de_ix xd_ix (de_var (pv 6)) (de_int) (fun _ _ => rfl)) (da_nil)))))) (by decide) (show 4 ∉ ([1, 5] : List Nat) by decide))) (nss_cons (ns_bind (i := 5) sc_law_turns_good.nd rfl (.inl rfl) (nm_make h_M_init hr (by decide) hgd tk rfl (da_cons (de_var (pv 0)) (da_cons (de_var (pv 2)) (da_nil))) (len_cons (len_cons len_nil))) (show 5 ∈ ([1, 5] : List Nat) by decide) (show 5 ∉ ([] : List Nat) by decide)) (nss_cons (ns_if (PW.pt (nw_or (nt_cmp od_isnt (ne_wr (ret := none) h_M_turn hr (by decide) hgd tk (pv 1) (da_cons (de_var (pv 3)) (da_nil)) ST rfl (len_cons len_nil)) (ne_plain (fr := true) (de_non)) (nomark _)) (nw_or (nt_plain (dt_not (dt_cmp (od_eqX h_M_eq hr (by decide) hgd) (de_var (pv 1)) (de_makeZ h_M_init hr (by decide) hgd tk rfl ST (da_cons (de_var (pv 0)) (da_cons (de_var (pv 4)) (da_nil))) (len_cons (len_cons len_nil))) (nomark _)))) (nw_one' (nt_plain (dt_cmp (od_neX SNE h_M_eq hr (by decide) hgd) (de_var (pv 1)) (de_makeZ h_M_init hr (by decide) hgd tk rfl ST (da_cons (de_var (pv 0)) (da_cons (de_back (de_var (pv 4))) (da_nil))) (len_cons (len_cons len_nil))) (nomark _))))))) (nss_one (ns_plain (fr := false) (h := ds_ret (de_sh (de_bl))))) (nss_nil)) (nss_one (ns_if (PW.pt (nw_or (nt_plain (dt_cmp (od_ne hr.units) (de_cmp (od_eqX h_M_eq hr (by decide) hgd) (de_var (pv 1)) (de_var (pv 5)) (nomark _)) (de_callH h_law_alike hr (by decide) hgd rfl rfl tk (dc_im (de_var (pv 4)) (dc_im (de_var (pv 2)) (dc_nil)))) (nomark _))) (nw_or (nt_cmp od_isnt (ne_back h_M_back hr (by decide) hgd tk (pv 1) ST) (ne_plain (fr := true) (de_bl)) (nomark _)) (nw_one' (nt_plain (dt_cmp (od_neX SNE h_M_eq hr (by decide) hgd) (de_var (pv 1)) (de_var (pv 5)) (nomark _))))))) (nss_one (ns_plain (fr := false) (h := ds_ret (de_sh (de_bl))))) (nss_nil))))))) (nss_one (ns_plain (fr := false) (h := ds_ret (de_sh (de_bl)))))
abbrev s_law_apart_good : Stmt := topS 28
abbrev N_law_apart_good : List Str := ["_law_many", "_law_one", "_law_other", "_law_some", "_law_more", "_law_fresh", "_law_same", "_law_first", "_law_second", "_law_seen", "_law_term"]
theorem sc_law_apart_good : FnScope N_law_apart_good ["_law_many", "_law_one", "_law_other", "_law_some", "_law_more"] (defScope s_law_apart_good) := ⟨rfl, rfl, rfl, by decide +kernel, rfl, by decide +kernel, by decide +kernel⟩
theorem ok_law_apart_good (T : Blt mg) (S : Stands K mg "_law_apart_good" s_law_apart_good ["_law_many", "_law_one", "_law_other", "_law_some", "_law_more"]) (ST : StI K) (SJ : StJ K mg) (SNE : StNe K) (IT : HasIt P w K mg base 1) (h_M_init1 : HasI1 P w K mg base (caOf mg) 4 F_M_init) (h_M_init : HasI P w K mg base (caOf mg) 4 F_M_init) (h_M_ior : HasM P w K mg base "__ior__" 2 ["self", "other"] (spWs K (caOf mg) F_M_ior)) (h_M_eq : HasM P w K mg base "__eq__" 1 ["self", "other"] (spD K (caOf mg) [] true F_M_eq)) (h_M_iter : HasM P w K mg base "__iter__" 1 ["self"] (spIter K)) (h_M_len : HasM P w K mg base "__len__" 1 ["self"] (spD K (caOf mg) [] true F_M_len)) (h_M_put : HasM P w K mg base "put" 4 ["self", "term"] (spWr K (caOf mg) (some fun k => .int (k - 1)) F_M_put)) (h_M_back : HasM P w K mg base "back" 1 ["self"] (spBack K)) (h_M_change : HasMK P w K mg base "change" "Stints.change" s_M_change [("least", V.non), ("most", V.non)] 4 ["self", "t", "least", "most"] (spWr K (caOf mg) none F_M_change)) (h_M_drop : HasM P w K mg base "drop" 4 ["self", "t"] (spWr K (caOf mg) none F_M_drop)) (h_law_turns_good : HasV P w K mg base "_law_turns_good" 9 ["_law_many", "_law_one", "_law_some"] (spN K [] [(1, 0)] F_law_turns_good)) (h_law_pair_good : Has P w K mg base (caOf mg) "_law_pair_good" 6 ["_law_one", "_law_other", "_law_some", "_law_more"] [] true F_law_pair_good) : HasV P w K mg base "_law_apart_good" 14 ["_law_many", "_law_one", "_law_other", "_law_some", "_law_more"] (spN K [] [(1, 0), (2, 1)] F_law_apart_good) :=
  S.hasN (ca := caOf mg) (oi := [1, 2, 5, 6, 7, 8]) sc_law_apart_good (by decide) rfl (by decide) (by decide) fun f cdv A outer s H E hr hgd => by
    have tk := takes_of (X := cxOf (L2.CX P w) P w K mg base N_law_apart_good "_law_apart_good" (defScope s_law_apart_good) f cdv A outer s H E) (E := E) rfl rfl rfl rfl
    have po := passes_of (X := cxOf (L2.CX P w) P w K mg base N_law_apart_good "_law_apart_good" (defScope s_law_apart_good) f cdv A outer s H E) rfl
    exact nss_cons (ns_bind (i := 5) sc_law_apart_good.nd rfl (.inl rfl) (nm_make1 h_M_init1 hr (by decide) hgd tk rfl (da_cons (de_var (pv 0)) (da_nil)) (len_cons len_nil)) (show 5 ∈ ([1, 2, 5, 6, 7, 8] : List Nat) by decide) (show 5 ∉ ([] : List Nat) by decide)) (nss_cons (ns_ali (j := 6) (i := 5) sc_law_apart_good.nd rfl (.inl rfl) (pv 5) (show 6 ∈ ([1, 2, 5, 6, 7, 8] : List Nat) by decide) (show 6 ∉ ([] : List Nat) by decide)) (nss_cons (ns_ior (i := 6) h_M_ior SJ hr (by decide) hgd tk sc_law_apart_good.nd rfl (.inl rfl) (de_var (pv 1))) (nss_cons (ns_plain (fr := false) (h := ds_if (PW.pt (dw_or (dt_not (dt_val (de_isS SJ (de_var (pv 6)) rfl T.isinstance rfl))) (dw_or (dt_not (dt_cmp (od_eqX h_M_eq hr (by decide) hgd) (de_var (pv 5)) (de_var (pv 1)) (nomark _))) (dw_or1 (dt_cmp (od_ne hr.units) (de_callTy (cd_listS rfl h_M_iter h_M_len hr (by decide) (by decide) hgd (fun _ _ _ => ⟨_, rfl⟩)) rfl T.list (by decide +kernel) (da_cons (de_var (pv 6)) (da_nil))) (de_var (pv 3)) (nomark _)))))) (dss_one (ds_ret (de_sh (de_bl)))) (dss_nil))) (nss_cons (ns_forP (i := 7) (j := 8) po rfl sc_law_apart_good.nd rfl rfl (.inl rfl) (.inl rfl) (show 7 ∈ ([1, 2, 5, 6, 7, 8] : List Nat) by decide) (show 8 ∈ ([1, 2, 5, 6, 7, 8] : List Nat) by decide) (show 7 ∉ ([] : List Nat) by decide) (show 8 ∉ ([] : List Nat) by decide) (pv 5) (pv 1) (pv 1) (pv 5) (nss_cons (ns_expr (ne_wr (ret := (some fun k => ((k : Int) - 1))) h_M_put hr (by decide) hgd tk (pv 7) (da_cons (de_tup (da_cons (de_int) (da_cons (de_var (pv 0)) (da_cons (de_int) (da_cons (de_non) (da_nil)))))) (da_nil)) ST rfl (len_cons len_nil))) (nss_cons (ns_plain (fr := false) (h := ds_if (PW.pt (dw_or (dt_cmp (od_eqX h_M_eq hr (by decide) hgd) (de_var (pv 7)) (de_var (pv 8)) (nomark _)) (dw_or (dt_cmp (od_eqX h_M_eq hr (by decide) hgd) (de_var (pv 8)) (de_var (pv 7)) (nomark _)) (dw_or1 (dt_cmp (od_ne hr.units) (de_callTy (cd_listS rfl h_M_iter h_M_len hr (by decide) (by decide) hgd (fun _ _ _ => ⟨_, rfl⟩)) rfl T.list (by decide +kernel) (da_cons (de_var (pv 8)) (da_nil))) (de_var (pv 3)) (nomark _)))))) (dss_one (ds_ret (de_sh (de_bl)))) (dss_nil))) (nss_cons (ns_if (PW.pt (nw_or (nt_cmp od_isnt (ne_back h_M_back hr (by decide) hgd tk (pv 7) ST) (ne_plain (fr := true) (de_bl)) (nomark _)) (nw_one' (nt_plain (dt_cmp (od_neX SNE h_M_eq hr (by decide) hgd) (de_var (pv 7)) (de_var (pv 8)) (nomark _)))))) (nss_one (ns_plain (fr := false) (h := ds_ret (de_sh (de_bl))))) (nss_nil)) (nss_one (ns_if (nt_plain (dt_cmp (od_ne hr.units) (de_var (pv 3)) (de_lst (da_nil)) (nomark _))) (nss_cons (ns_expr (ne_wrK (ret := none) (ks := ["least"]) (fun us mv ws => us ++ (ws ++ mv)) [("most", V.non)] [PyData.none] ord_pkm (by decide +kernel) (by simp) (fun _ _ => (.cons .non .nil)) h_M_change hr (by decide) hgd tk (pv 7) (da_cons (de_int) (da_nil)) (dk_one (de_int)) ST (len_cons len_nil) (len_cons len_nil) (fun us mv ws h1 h2 h3 => match us, h1, mv, h2, ws, h3 with | [_], _, [_], _, [_], _ => rfl) (fun D doc pm an cdv ct us mv ws h1 h2 h3 => match us, h1, mv, h2, ws, h3 with | [_, _], _, [_], _, [_], _ => ⟨_, _, _, _, _, _, rfl, rfl, rfl⟩))) (nss_cons (ns_plain (fr := false) (h := ds_if (PW.pt (dw_or (dt_cmp (od_eqX h_M_eq hr (by decide) hgd) (de_var (pv 7)) (de_var (pv 8)) (nomark _)) (dw_or1 (dt_cmp (od_ne hr.units) (de_callTy (cd_listS rfl h_M_iter h_M_len hr (by decide) (by decide) hgd (fun _ _ _ => ⟨_, rfl⟩)) rfl T.list (by decide +kernel) (da_cons (de_var (pv 8)) (da_nil))) (de_var (pv 3)) (nomark _))))) (dss_one (ds_ret (de_sh (de_bl)))) (dss_nil))) (nss_cons (ns_if (PW.pt (nw_or (nt_cmp od_isnt (ne_back h_M_back hr (by decide) hgd tk (pv 7) ST) (ne_plain (fr := true) (de_bl)) (nomark _)) (nw_one' (nt_plain (dt_not (dt_cmp (od_eqX h_M_eq hr (by decide) hgd) (de_var (pv 7)) (de_var (pv 8)) (nomark _))))))) (nss_one (ns_plain (fr := false) (h := ds_ret (de_sh (de_bl))))) (nss_nil)) (nss_cons (ns_expr (ne_wr (ret := none) h_M_drop hr (by decide) hgd tk (pv 7) (da_cons (de_int) (da_nil)) ST rfl (len_cons len_nil))) (nss_one (ns_if (PW.pt (nw_or (nt_plain (dt_cmp (od_eqX h_M_eq hr (by decide) hgd) (de_var (pv 7)) (de_var (pv 8)) (nomark _))) (nw_or (nt_cmp od_isnt (ne_back h_M_back hr (by decide) hgd tk (pv 7) ST) (ne_plain (fr := true) (de_bl)) (nomark _)) (nw_one' (nt_plain (dt_cmp (od_neX SNE h_M_eq hr (by decide) hgd) (de_var (pv 7)) (de_var (pv 8)) (nomark _))))))) (nss_one (ns_plain (fr := false) (h := ds_ret (de_sh (de_bl))))) (nss_nil))))))) (nss_nil))))))) (nss_cons (ns_plain (fr := false) (h := ds_setO (i := 9) sc_law_apart_good.nd rfl (.inl rfl) (de_lst (da_nil)) (show 9 ∉ ([1, 2, 5, 6, 7, 8] : List Nat) by decide))) (nss_cons (ns_forO (i := 1) IT hr (by decide) hgd po rfl (pv 1) (dg_name (pg_name (i := 10) sc_law_apart_good.nd rfl (.inl rfl)) (show 10 ∉ ([1, 2, 5, 6, 7, 8] : List Nat) by decide)) (nss_cons (ns_plain (fr := false) (h := ds_app (pv 9) (de_var (pv 10)))) (nss_cons (ns_expr (ne_wr (ret := (some fun k => ((k : Int) - 1))) h_M_put hr (by decide) hgd tk (pv 2) (da_cons (de_var (pv 10)) (da_nil)) ST rfl (len_cons len_nil))) (nss_one (ns_expr (ne_back h_M_back hr (by decide) hgd tk (pv 2) ST)))))) (nss_one (ns_ret (ne_and (ne_plain (fr := true) (de_eqL hr.units (pv 9) (de_var (pv 3)) (nomark _))) (ne_and (ne_callN h_law_turns_good hr (by decide) hgd rfl rfl tk (dc_im (de_var (pv 0)) (dc_ob (pv 1) (dc_im (de_var (pv 3)) (dc_nil))))) (ne_one (ne_plain (fr := true) (de_callH h_law_pair_good hr (by decide) hgd rfl rfl tk (dc_im (de_var (pv 1)) (dc_im (de_var (pv 2)) (dc_im (de_var (pv 3)) (dc_im (de_var (pv 4)) (dc_nil))))))))))))))))))
abbrev s_law : Stmt := topS 29
abbrev N_law : List Str := ["_law_script", "_law_k", "_law_pile_here", "_law_many", "_law_some", "_law_more", "_law_way", "_law_one", "_law_other", "_law_wide", "_law_j", "_law_thing"]
theorem sc_law : FnScope N_law ["_law_script"] (defScope s_law) := ⟨rfl, rfl, rfl, by decide +kernel, rfl, by decide +kernel, by decide +kernel⟩
theorem ok_law (T : Blt mg) (S : Stands K mg "law" s_law ["_law_script"]) (ST : StI K) (h_law_pile : Has P w K mg base (caOf mg) "_law_pile" 2 ["_law_script", "_law_k"] [] true F_law_pile) (h_law_take : Has P w K mg base (caOf mg) "_law_take" 1 ["_law_pile_here", "_law_size"] [0] false F_law_take) (h_law_new_term : Has P w K mg base (caOf mg) "_law_new_term" 2 ["_law_pile_here", "_law_many"] [0] true F_law_new_term) (h_law_order_of : Has P w K mg base (caOf mg) "_law_order_of" 2 ["_law_pile_here", "_law_many"] [0] true F_law_order_of) (h_law_laid : HasV P w K mg base "_law_laid" 9 ["_law_pile_here", "_law_many", "_law_terms"] (spN K [0] [] F_law_laid)) (h_law_pair_good : Has P w K mg base (caOf mg) "_law_pair_good" 6 ["_law_one", "_law_other", "_law_some", "_law_more"] [] true F_law_pair_good) (h_law_apart_good : HasV P w K mg base "_law_apart_good" 14 ["_law_many", "_law_one", "_law_other", "_law_some", "_law_more"] (spN K [] [(1, 0), (2, 1)] F_law_apart_good)) (h_M_init : HasI P w K mg base (caOf mg) 4 F_M_init) (h_M_eq : HasM P w K mg base "__eq__" 1 ["self", "other"] (spD K (caOf mg) [] true F_M_eq)) (h_M_ring : HasM P w K mg base "ring" 1 ["self"] (spD K (caOf mg) [] true F_M_ring)) : Has P w K mg base (caOf mg) "law" 19 ["_law_script"] [] false F_law :=
  Stands.hasP (oi := [7, 8, 9]) ST S sc_law (by decide) rfl (by decide) fun f cdv A outer s H E hr hgd => by
    have tk := takes_of (X := cxOf (L2.CX P w) P w K mg base N_law "law" (defScope s_law) f cdv A outer s H E) (E := E) rfl rfl rfl rfl
    have po := passes_of (X := cxOf (L2.CX P w) P w K mg base N_law "law" (defScope s_law) f cdv A outer s H E) rfl
    exact nss_cons (ns_for po rfl (di_range1 (by rfl) T.range (da_cons (de_callB (cd_max rfl) rfl T.max (by decide +kernel) (da_cons (de_int) (da_cons (de_callB (cd_min rfl) rfl T.min (by decide +kernel) (da_cons (de_callB (cd_len) rfl T.len (by decide +kernel) (da_cons (de_var (pv 0)) (da_nil))) (da_cons (de_int) (da_nil)))) (da_nil)))) (da_nil))) (dg_name (pg_name (i := 1) sc_law.nd rfl (.inl rfl)) (show 1 ∉ ([7, 8, 9] : List Nat) by decide)) (nss_cons (ns_plain (fr := false) (h := ds_setO (i := 2) sc_law.nd rfl (.inr rfl) (de_callH h_law_pile hr (by decide) hgd rfl rfl tk (dc_im (de_var (pv 0)) (dc_im (de_var (pv 1)) (dc_nil)))) (show 2 ∉ ([7, 8, 9] : List Nat) by decide))) (nss_cons (ns_plain (fr := false) (h := ds_set (i := 3) sc_law.nd rfl (.inr rfl) (de_ix xd_ix (de_lst (da_cons (de_int) (da_cons (de_int) (da_cons (de_int) (da_cons (de_int) (da_nil)))))) (de_callH h_law_take hr (by decide) hgd rfl rfl tk (dc_sl (pv 2) (dc_im (de_int) (dc_nil)))) (fun _ _ => rfl)) (show 3 ∉ ([7, 8, 9] : List Nat) by decide))) (nss_cons (ns_plain (fr := false) (h := ds_set (i := 4) sc_law.nd rfl (.inr rfl) (de_lc (own := [("_law_j", 10)]) rfl sc_law.nd (di_range1 (by rfl) T.range (da_cons (de_callH h_law_take hr (by decide) hgd rfl rfl tk (dc_sl (pv 2) (dc_im (de_int) (dc_nil)))) (da_nil))) (blkOk_by (own := [("_law_j", 10)]) (N := N_law) (sc := defScope s_law) (by decide +kernel)) (fun _ _ _ _ _ => dg_name (pg_name (i := 10) sc_law.nd rfl (.inl rfl)) (show 10 ∉ ([7, 8, 9] : List Nat) by decide)) (fun _ _ _ _ _ => dts_nil) (fun _ _ _ _ _ => de_callH h_law_new_term hr (by decide) hgd rfl rfl takes_no (dc_sl (pv 2) (dc_im (de_var (pv 3)) (dc_nil)))) (by decide)) (show 4 ∉ ([7, 8, 9] : List Nat) by decide))) (nss_cons (ns_plain (fr := false) (h := ds_setLc (i := 5) (own := [("_law_j", 10)]) rfl sc_law.nd rfl rfl (sw_true rfl rfl rfl (by decide +kernel)) (di_seq (de_callH h_law_order_of hr (by decide) hgd rfl rfl tk (dc_sl (pv 2) (dc_im (de_callB (cd_len) rfl T.len (by decide +kernel) (da_cons (de_var (pv 4)) (da_nil))) (dc_nil))))) (blkOk_by (own := [("_law_j", 10)]) (N := N_law) (sc := defScope s_law) (by decide +kernel)) (fun _ _ _ _ _ => dg_name (pg_name (i := 10) sc_law.nd rfl (.inl rfl)) (show 10 ∉ ([7, 8, 9] : List Nat) by decide)) (fun _ _ _ _ _ => dts_nil) (fun _ _ _ _ _ => de_ix xd_ix (de_var (pv 4)) (de_var (pv 10)) (fun _ _ => rfl)) (by decide) (show 5 ∉ ([7, 8, 9] : List Nat) by decide))) (nss_cons (ns_plain (fr := false) (h := ds_set (i := 6) sc_law.nd rfl (.inl rfl) (de_callH h_law_take hr (by decide) hgd rfl rfl tk (dc_sl (pv 2) (dc_im (de_int) (dc_nil)))) (show 6 ∉ ([7, 8, 9] : List Nat) by decide))) (nss_cons (ns_plain (fr := false) (h := ds_if (dt_cmp (od_eq hr.units) (de_var (pv 6)) (de_int) (nomark _)) (dss_one (ds_set (i := 5) sc_law.nd rfl (.inl rfl) (de_slice sd_sl (de_var (pv 5)) (do_some (de_int)) (do_none)) (show 5 ∉ ([7, 8, 9] : List Nat) by decide))) (dss_nil))) (nss_cons (ns_plain (fr := false) (h := ds_if (dt_cmp (od_eq hr.units) (de_var (pv 6)) (de_int) (nomark _)) (dss_one (ds_set (i := 5) sc_law.nd rfl (.inl rfl) (de_op od_add (de_var (pv 5)) (de_lst (da_cons (de_callH h_law_new_term hr (by decide) hgd rfl rfl tk (dc_sl (pv 2) (dc_im (de_var (pv 3)) (dc_nil)))) (da_nil)))) (show 5 ∉ ([7, 8, 9] : List Nat) by decide))) (dss_nil))) (nss_cons (ns_plain (fr := false) (h := ds_if (PW.pt (dw_and (dt_cmp (od_eq hr.units) (de_var (pv 6)) (de_int) (nomark _)) (dw_and1 (dt_cmp (od_ne hr.units) (de_var (pv 5)) (de_lst (da_nil)) (nomark _))))) (dss_one (ds_set (i := 5) sc_law.nd rfl (.inl rfl) (de_op od_add (de_slice sd_sl (de_var (pv 5)) (do_some (de_int)) (do_none)) (de_lst (da_cons (de_ix xd_ix (de_var (pv 5)) (de_un ud_neg (de_int)) (fun _ _ => rfl)) (da_nil)))) (show 5 ∉ ([7, 8, 9] : List Nat) by decide))) (dss_nil))) (nss_cons (ns_parC (i := 7) (j := 8) rfl sc_law.nd rfl rfl (.inr rfl) (.inl rfl) (show 7 ∈ ([7, 8, 9] : List Nat) by decide) (show 8 ∈ ([7, 8, 9] : List Nat) by decide) (show 7 ∉ ([] : List Nat) by decide) (show 8 ∉ ([] : List Nat) by decide) (nm_callN h_law_laid hr (by decide) hgd rfl rfl tk (dc_sl (pv 2) (dc_im (de_var (pv 3)) (dc_im (de_var (pv 4)) (dc_nil))))) (nm_callN h_law_laid hr (by decide) hgd rfl rfl tk (dc_sl (pv 2) (dc_im (de_var (pv 3)) (dc_im (de_var (pv 5)) (dc_nil)))))) (nss_cons (ns_if (PW.pt (nw_or (nt_plain (dt_not (dt_val (de_callH h_law_pair_good hr (by decide) hgd rfl rfl tk (dc_im (de_var (pv 7)) (dc_im (de_var (pv 8)) (dc_im (de_var (pv 4)) (dc_im (de_var (pv 5)) (dc_nil))))))))) (nw_one' (nt_not (nt_val (ne_callN h_law_apart_good hr (by decide) hgd rfl rfl tk (dc_im (de_var (pv 3)) (dc_ob (pv 7) (dc_ob (pv 8) (dc_im (de_var (pv 4)) (dc_im (de_var (pv 5)) (dc_nil)))))))))))) (nss_one (ns_plain (fr := false) (h := ds_ret (de_sh (de_bl))))) (nss_nil)) (nss_cons (ns_bind (i := 9) sc_law.nd rfl (.inl rfl) (nm_make h_M_init hr (by decide) hgd tk rfl (da_cons (de_op od_add (de_var (pv 3)) (de_int)) (da_cons (de_var (pv 4)) (da_nil))) (len_cons (len_cons len_nil))) (show 9 ∈ ([7, 8, 9] : List Nat) by decide) (show 9 ∉ ([] : List Nat) by decide)) (nss_cons (ns_plain (fr := false) (h := ds_if (PW.pt (dw_or (dt_cmp (od_eqX h_M_eq hr (by decide) hgd) (de_var (pv 7)) (de_var (pv 9)) (nomark _)) (dw_or1 (dt_cmp (od_eqX h_M_eq hr (by decide) hgd) (de_var (pv 9)) (de_var (pv 7)) (nomark _))))) (dss_one (ds_ret (de_sh (de_bl)))) (dss_nil))) (nss_one (ns_plain (fr := false) (h := ds_if (dt_cmp (od_ne hr.units) (de_lc (own := [("_law_thing", 11)]) rfl sc_law.nd (di_seq (de_lst (da_cons (de_var (pv 4)) (da_cons (de_meth0 ST h_M_ring hr (by decide) hgd tk (de_var (pv 7))) (da_cons (de_non) (da_cons (de_int) (da_cons (de_lst (da_cons (de_int) (da_nil))) (da_nil)))))))) (blkOk_by (own := [("_law_thing", 11)]) (N := N_law) (sc := defScope s_law) (by decide +kernel)) (fun _ _ _ _ _ => dg_name (pg_name (i := 11) sc_law.nd rfl (.inl rfl)) (show 11 ∉ ([7, 8, 9] : List Nat) by decide)) (fun _ _ _ _ _ => dts_one (dt_cmp (od_eqX h_M_eq hr (by decide) hgd) (de_var (pv 7)) (de_var (pv 11)) (nomark _))) (fun _ _ _ _ _ => de_var (pv 11)) (by decide)) (de_lst (da_nil)) (nomark _)) (dss_one (ds_ret (de_sh (de_bl)))) (dss_nil))))))))))))))))) (nss_one (ns_plain (fr := false) (h := ds_ret (de_sh (de_cmp od_is (de_cmp (od_eqX h_M_eq hr (by decide) hgd) (de_makeZ h_M_init hr (by decide) hgd tk rfl ST (da_cons (de_int) (da_cons (de_lst (da_cons (de_tup (da_cons (de_int) (da_cons (de_int) (da_cons (de_int) (da_cons (de_int) (da_nil)))))) (da_nil))) (da_nil))) (len_cons (len_cons len_nil))) (de_makeZ h_M_init hr (by decide) hgd tk rfl ST (da_cons (de_int) (da_cons (de_lst (da_cons (de_tup (da_cons (de_int) (da_cons (de_int) (da_cons (de_int) (da_cons (de_non) (da_nil)))))) (da_nil))) (da_nil))) (len_cons (len_cons len_nil))) (nomark _)) (de_bl) (nomark _))))))
end
end DL
namespace DL
open PySem PySem.Spec PyProof.Rows L2
local macro_rules | `(tactic| walk_at "mir0") => `(tactic| first
  | with_reducible refine es_seq ?_
  | with_reducible refine es_set ?_
  | with_reducible refine es_ret ?_
  | with_reducible refine ev_var rfl ?_
  | with_reducible refine ev_c ?_
  | with_reducible refine ev_op ?_
  | with_reducible refine ev_nil ?_
  | with_reducible refine ev_ok ?_
  | with_reducible refine ev_cons ?_
  | with_reducible refine ev_star ?_
  | with_reducible refine ev_ca ?_
  | with_reducible refine ev_cNil ?_
  | with_reducible refine ev_cIm ?_
  | with_reducible refine ev_cSl rfl rfl ?_
  | with_reducible refine ev_call ?_
  | (with_reducible apply callAs_mk); (focus repeat (first | exact res_nil | apply res_im | ((apply res_sl); rfl; rfl))); rfl; exact of_decide_eq_true rfl; rfl
  | with_reducible refine ev_bool ?_
  | with_reducible refine ev_notT ?_
  | with_reducible refine ev_andT ?_
  | with_reducible refine ev_orT ?_
  | with_reducible refine ev_andV ?_
  | with_reducible refine ev_orV ?_
  | with_reducible refine ev_if ?_
  | with_reducible refine ev_un ?_
  | with_reducible refine ev_chain ?_
  | with_reducible refine ev_tup ?_
  | with_reducible refine ev_lst ?_
  | with_reducible refine ⟨Nat.le_trans (Nat.le_of_ble_eq_true rfl) (sizeLine_lt 1000 (by decide)), ?_⟩
  | with_reducible refine ev_isi ?_
  | with_reducible refine ev_isE ?_
  | with_reducible refine ev_mt ?_
  | with_reducible refine ev_ixO rfl ?_
  | with_reducible refine ev_lenO rfl ?_
  | with_reducible refine ev_reprO rfl ?_
  | with_reducible refine ev_isiO rfl ?_
  | with_reducible refine ev_opL rfl ?_
  | with_reducible refine ev_opR ?_
  | with_reducible refine ev_items ?_
  | with_reducible refine ev_lend rfl ?_
  | with_reducible refine ev_lendF rfl ?_
  | with_reducible refine ev_walk ?_
  | with_reducible refine ev_sl ?_
  | with_reducible refine ev_part ?_
  | with_reducible refine es_nil ?_
  | with_reducible refine es_expr ?_
  | with_reducible refine es_retN ?_
  | with_reducible refine es_retO rfl ?_
  | with_reducible refine es_asg ?_
  | with_reducible refine es_setO ?_
  | with_reducible refine es_frz rfl ?_
  | with_reducible refine es_app rfl ?_
  | with_reducible refine es_sto ?_
  | with_reducible refine es_augS rfl ?_
  | with_reducible refine es_aug rfl ?_
  | with_reducible refine es_par ?_
  | with_reducible refine es_par3 ?_
  | with_reducible refine es_for ?_
  | with_reducible refine es_raise ?_
  | with_reducible refine es_while ?_
  | with_reducible refine Par2.mk ?_
  | with_reducible refine Par3.mk ?_
  | with_reducible refine tt_mk ?_
  | with_reducible refine nt_mk ?_
  | with_reducible refine nf_mk ?_
  | with_reducible refine ff_mk ?_)
local macro_rules | `(tactic| walk_at "mir2") => `(tactic| first
  | with_reducible refine ev_o (addD_int _ _) ?_
  | with_reducible refine ev_o (subD_int _ _) ?_
  | with_reducible refine ev_o (negD_int _) ?_
  | with_reducible refine ev_o (intD_int _) ?_
  | with_reducible refine ev_o (ltD_int _ _) ?_
  | with_reducible refine ev_o (leD_int _ _) ?_
  | with_reducible refine ev_o (gtD_int _ _) ?_
  | with_reducible refine ev_o (geD_int _ _) ?_
  | with_reducible refine ev_o (neD_int _ _) ?_
  | with_reducible refine ev_o (eqD_int _ _) ?_
  | with_reducible refine ev_o (lenD_lmap _ _) ?_
  | with_reducible refine ev_o (lenD_tmap _ _) ?_
  | with_reducible refine ev_o (lenD_list _) ?_
  | with_reducible refine ev_o (lenD_tuple _) ?_
  | with_reducible refine ev_o (itemsD_list _) ?_
  | with_reducible refine ev_o (itemsD_tuple _) ?_
  | with_reducible refine ev_o (notD_bool _) ?_
  | with_reducible refine ev_o (modD_pos (by omega)) ?_
  | with_reducible refine ev_o (fdivD_pos (by omega) (by omega)) ?_
  | with_reducible refine ev_o (mulD_l (by omega) (by omega)) ?_
  | with_reducible refine ev_o (mulD_r (by omega) (by omega)) ?_
  | with_reducible refine ev_o (rangeD1_int (by omega) (by omega)) ?_
  | with_reducible refine ev_o (rangeD2_int (by omega) (by omega) (by omega) (by omega)) ?_
  | with_reducible refine ev_o (tupleD_list _) ?_
  | with_reducible refine ev_o (listD_list _) ?_
  | with_reducible refine ev_o (listD_tuple _) ?_
  | with_reducible refine ev_o (maxD2 _ _) ?_
  | with_reducible refine ev_o (minD2 _ _) ?_
  | refine ev_o rfl ?_
  | (with_reducible apply ex_mk); rfl)
local macro_rules | `(tactic| walk_at "mir1") => `(tactic| first | walk_at "mir0" | with_reducible refine es_if ?_ | with_reducible refine es_tryK ?_)
local macro_rules | `(tactic| walk_at "mir") => `(tactic| repeat' (first | walk_at "mir1" | walk_at "mir2"))
local macro_rules | `(tactic| walk_at "mirn") => `(tactic| repeat' (first | walk_at "mir0" | walk_at "mir2"))
def wholeD : D → Bool
  | .int _ => true
  | _ => false
def withinD (d : D) (lo hi : Int) : Bool := match d with
  | .int i => decide (lo ≤ i) && decide (i ≤ hi)
  | _ => false
def fromD (d : D) (lo : Int) : Bool := match d with
  | .int i => decide (lo ≤ i)
  | _ => false
theorem F_is_whole_eq (d : D) : F_is_whole [.im d] = .ok (.bool (wholeD d), [.im d]) := by cases d <;> rfl
theorem F_is_within_eq (d : D) (lo hi : Int) : F_is_within [.im d, .im (.int lo), .im (.int hi)] = .ok (.bool (withinD d lo hi), [.im d, .im (.int lo), .im (.int hi)]) := by
  refine ev_eqs (ev_fun ?_)
  unfold g_is_within
  walk_at "mir"
  refine ev_of (F_is_whole_eq d) ?_
  walk_at "mir"
  cases d with
  | int i =>
    refine ⟨fun _ => ?_, fun h => nomatch h⟩
    walk_at "mir"
    refine ⟨fun h => ?_, fun h => ?_⟩
    · walk_at "mir"
      simp only [withinD, h, Bool.true_and, true_and]; rfl
    · simp only [withinD, h, Bool.false_and, true_and]; rfl
  | _ => exact ⟨(fun h => nomatch h), fun _ => ⟨rfl, rfl⟩⟩
theorem F_is_within_true {i lo hi : Int} (h1 : lo ≤ i) (h2 : i ≤ hi) : F_is_within [.im (.int i), .im (.int lo), .im (.int hi)] = .ok (.bool true, [.im (.int i), .im (.int lo), .im (.int hi)]) := by
  rw [F_is_within_eq]; simp only [withinD, decide_eq_true h1, decide_eq_true h2, Bool.and_self]
theorem F_is_from_eq (d : D) (lo : Int) : F_is_from [.im d, .im (.int lo)] = .ok (.bool (fromD d lo), [.im d, .im (.int lo)]) := by
  refine ev_eqs (ev_fun ?_)
  unfold g_is_from
  walk_at "mir"
  refine ev_of (F_is_whole_eq d) ?_
  walk_at "mir"
  cases d with
  | int i =>
    refine ⟨fun _ => ?_, fun h => nomatch h⟩
    walk_at "mir"
    exact ⟨rfl, rfl⟩
  | _ => exact ⟨(fun h => nomatch h), fun _ => ⟨rfl, rfl⟩⟩
/-- a term, for m places -/
def termD (m : Int) (d : D) : Bool := match d with
  | .tuple [a, b, c, e] => withinD a 0 (m - 1) && withinD b 1 m && fromD c 0 && (match e with | .none => true | _ => fromD e 0)
  | _ => false
theorem isTy_tuple_of {d : D} : isTy "tuple" d = some (.bool (match d with | .tuple _ => true | _ => false)) := by cases d <;> rfl
theorem F_is_term_eq (m : Int) (d : D) : ∃ s, F_is_term [.im (.int m), .im d] = .ok (.bool (termD m d), s) := by
  suffices h : Ev (F_is_term [.im (.int m), .im d]) (fun x t => x = .bool (termD m d)) fun _ _ => False by
    obtain ⟨x, t, e, rfl⟩ := ev_eq h; exact ⟨t, e⟩
  refine ev_fun ?_
  unfold g_is_term
  walk_at "mir"
  refine ev_o isTy_tuple_of ?_
  walk_at "mir"
  cases d with
  | tuple xs =>
    refine ⟨(fun h => nomatch h), fun _ => ?_⟩
    walk_at "mir"
    refine ⟨fun h => ?_, fun h => ?_⟩
    · walk_at "mir"
      match xs, h with
      | [], _ => rfl
      | [_], _ => rfl
      | [_, _], _ => rfl
      | [_, _, _], _ => rfl
      | [_, _, _, _], h => simp at h
      | _ :: _ :: _ :: _ :: _ :: _, _ => rfl
    · have hl : (xs.length : Int) = 4 := by simpa using h
      match xs, hl with
      | [], hl => simp at hl
      | [_], hl => simp at hl
      | [_, _], hl => simp at hl
      | [_, _, _], hl => simp at hl
      | _ :: _ :: _ :: _ :: _ :: r, hl => simp at hl; omega
      | [a, b, c, e], _ =>
      walk_at "mir"
      refine ev_of (F_is_within_eq _ _ _) ?_
      walk_at "mir"
      refine ⟨fun h1 => ?_, fun h1 => ?_⟩
      · walk_at "mir"
        simp only [termD]
        rw [Bool.not_eq_true'] at h1
        rw [h1]; rfl
      · rw [Bool.not_eq_false'] at h1
        walk_at "mir"
        refine ev_of (F_is_within_eq _ _ _) ?_
        walk_at "mir"
        refine ⟨fun h2 => ?_, fun h2 => ?_⟩
        · walk_at "mir"
          rw [Bool.not_eq_true'] at h2
          simp only [termD]
          rw [h1, h2]; rfl
        · rw [Bool.not_eq_false'] at h2
          walk_at "mir"
          refine ev_of (F_is_from_eq _ _) ?_
          walk_at "mir"
          simp only [termD, h1, h2, Bool.true_and]
          refine ⟨fun h3 => ?_, fun h3 => ?_⟩
          · walk_at "mir"
            simp only [h3, Bool.true_and]
            cases e <;> (walk_at "mir"; first | rfl | exact ev_of (F_is_from_eq _ _) rfl)
          · simp only [h3, Bool.false_and]
  | _ =>
    refine ⟨(fun h => ?_), fun h => nomatch h⟩
    walk_at "mir"
    rfl
theorem allD_map (f : D → Bool) (ds : List D) : allD [.list (ds.map fun x => .bool (f x))] = some (.bool (ds.all f)) := by
  rw [show (ds.map fun x => PyData.bool (f x)) = (ds.map f).map .bool by rw [List.map_map]; rfl, allD_list, List.all_map]; rfl
/-- a term -/
structure Tm where
  s : Int
  l : Int
  lo : Int
  hi : Option Int
def oI : Option Int → D
  | none => .none
  | some i => .int i
def Tm.d (t : Tm) : D := .tuple [.int t.s, .int t.l, .int t.lo, oI t.hi]
structure Tm.ok (m : Int) (t : Tm) : Prop where
  s0 : 0 ≤ t.s
  s1 : t.s < m
  l0 : 1 ≤ t.l
  l1 : t.l ≤ m
  lo0 : 0 ≤ t.lo
  hi0 : ∀ h, t.hi = some h → 0 ≤ h
def rgD (m : Int) (ts : List Tm) : D := .tuple [.int m, .tuple (ts.map Tm.d)]
def lI (xs : List Int) : D := .list (xs.map .int)
theorem termD_ok {m : Int} {t : Tm} (h : t.ok m) : termD m t.d = true := by
  obtain ⟨a, b, c, d, e, f⟩ := h
  simp only [Tm.d, termD, withinD, fromD, decide_eq_true (show (0 : Int) ≤ t.s from a), decide_eq_true (show t.s ≤ m - 1 by omega), decide_eq_true (show 1 ≤ t.l from c), decide_eq_true d, decide_eq_true e, Bool.true_and]
  cases hh : t.hi with
  | none => rfl
  | some h => simp only [oI, fromD, decide_eq_true (f h hh)]
/-- the places of a stretch -/
def plc (n s l : Int) : List Int := (List.range l.toNat).map fun k => (s + (k : Nat)) % n
theorem rangeL_get {lo : Int} {n k : Nat} {d : D} (h : (rangeL lo n)[k]? = some d) : k < n ∧ d = .int (lo + k) := by
  simp only [rangeL, List.getElem?_map, Option.map_eq_some_iff] at h
  obtain ⟨a, ha, rfl⟩ := h
  rw [List.getElem?_eq_some_iff] at ha
  obtain ⟨h1, h2⟩ := ha
  simp only [List.length_range] at h1
  simp only [List.getElem_range] at h2
  subst h2
  exact ⟨h1, rfl⟩
theorem rangeL_length (lo : Int) (n : Nat) : (rangeL lo n).length = n := by simp [rangeL]
/-- the stones in a stretch -/
def stn (xs : List Int) (s l : Int) : Int := ((plc xs.length s l).map fun p => xs.getD p.toNat 0).sum
theorem atI_int {xs : List Int} {p : Int} (h0 : 0 ≤ p) (h1 : p < xs.length) : atI (xs.map PyData.int) p = some (.int (xs.getD p.toNat 0)) := by
  refine atI_nat' h0 ?_
  rw [List.getElem?_map, List.getElem?_eq_getElem (by omega), List.getD_eq_getElem?_getD, List.getElem?_eq_getElem (by omega)]
  rfl
def badT (t : Tm) (v : Int) : Bool := decide (v < t.lo) || (match t.hi with | some h => decide (h < v) | none => false)
def brk1 (xs : List Int) (ts : List Tm) (k : Nat) : List D := match ts[k]? with
  | some t => if badT t (stn xs t.s t.l) = true then [.tuple [.int k, .int (stn xs t.s t.l)]] else []
  | none => []
def brkN (xs : List Int) (ts : List Tm) (k : Nat) : List D := (List.range k).flatMap (brk1 xs ts)
def brk (xs : List Int) (ts : List Tm) : List D := brkN xs ts ts.length
theorem F_law_mixed_eq (v s : Int) : ∃ r t, 0 ≤ r ∧ F_law_mixed [.im (.int v), .im (.int s)] = .ok (.int r, t) := by
  suffices h : Ev (F_law_mixed [.im (.int v), .im (.int s)]) (fun x t => ∃ r, x = .int r ∧ 0 ≤ r) fun _ _ => False by
    obtain ⟨x, t, e, r, rfl, h⟩ := ev_eq h; exact ⟨r, t, h, e⟩
  refine ev_fun ?_
  unfold g_law_mixed
  walk_at "mir"
  exact Int.emod_nonneg _ (by decide)
theorem F_law_pile_eq (ns : List Int) {k : Int} (hk : 0 ≤ k) : ∃ p t, 0 ≤ p ∧ F_law_pile [.im (lI ns), .im (.int k)] = .ok (.list [.int p], t) := by
  suffices h : Ev (F_law_pile [.im (lI ns), .im (.int k)]) (fun x t => ∃ p, x = .list [.int p] ∧ 0 ≤ p) fun _ _ => False by
    obtain ⟨x, t, e, r, rfl, h⟩ := ev_eq h; exact ⟨r, t, h, e⟩
  refine ev_fun ?_
  unfold g_law_pile lI
  have hcut : ∀ v, Es (sSeq (sIf (fBool (fOp geD (fVar 2) (fOp powD (fC (.int 10)) (fC (.int 18))))) (sRet (fLst (fCons (fOp modD (fCall intD (fCons (fOp subD (fVar 2) (fOp powD (fC (.int 10)) (fC (.int 18)))) ((fun env => .ok ([], env))))) (fOp mulD (fOp mulD (fOp mulD (fOp powD (fC (.int 10)) (fC (.int 60))) (fOp powD (fC (.int 10)) (fC (.int 60)))) (fOp powD (fC (.int 10)) (fC (.int 60)))) (fOp powD (fC (.int 10)) (fC (.int 60))))) ((fun env => .ok ([], env)))))) (sNil)) (sSeq (sSet 3 (fC (.int 0))) (sSeq (sFor (fWalk rangeD1 (fCons (fC (.int 24)) ((fun env => .ok ([], env))))) (tN 4) (sSet 3 (fOp addD (fOp mulD (fVar 3) (fC (.int 2147483579))) (fCallF 2 [] F_law_mixed (cIm (fVar 2) (cIm (fOp addD (fOp addD (fOp mulD (fC (.int 7)) (fVar 1)) (fOp mulD (fC (.int 100)) (fVar 4))) (fOp mulD (fVar 4) (fVar 4))) (cNil))))))) (sRet (fLst (fCons (fVar 3) ((fun env => .ok ([], env)))))))) [some (.im (lI ns)), some (.im (.int k)), some (.im (.int v)), none, none])
      (fun _ => ∃ p, PyData.none = .list [.int p] ∧ 0 ≤ p) (fun x e => ∃ p, x = .list [.int p] ∧ 0 ≤ p) (fun _ => False) (fun _ => False) fun _ _ => False := by
    intro v
    walk_at "mir"
    refine ⟨fun h => ?_, fun h => ?_⟩
    · walk_at "mir"
      have hp : (0 : Int) < 10 ^ Int.toNat 60 := by decide
      have hq := Int.mul_pos (Int.mul_pos (Int.mul_pos hp hp) hp) hp
      rw [Int.fmod_eq_emod_of_nonneg _ (Int.le_of_lt hq)]
      exact Int.emod_nonneg _ (by omega)
    · walk_at "mir"
      refine es_forK (fun j e => ∃ a c, 0 ≤ a ∧ e = [some (.im (lI ns)), some (.im (.int k)), some (.im (.int v)), some (.im (.int a)), c]) ⟨0, _, by decide, rfl⟩ ?_ ?_
      · rintro j d e hj ⟨a, c, ha, rfl⟩
        obtain ⟨hj, rfl⟩ := rangeL_get hj
        walk_at "mir"
        obtain ⟨r, t, hr, e⟩ := F_law_mixed_eq v (7 * k + 100 * (0 + (j : Int)) + (0 + (j : Int)) * (0 + (j : Int)))
        refine ev_of e ?_
        rw [back_ims rfl]
        walk_at "mir"
        exact ⟨_, _, by omega, rfl⟩
      · rintro e ⟨a, c, ha, rfl⟩
        walk_at "mir"
        exact ha
  walk_at "mir"
  refine ⟨fun h => ?_, fun h => ?_⟩
  · rw [decide_eq_true_eq] at h
    walk_at "mir"
    refine ev_o (atI_int hk h) ?_
    exact hcut _
  · exact es_nil (hcut _)
theorem F_law_take_eq {p k : Int} (h1 : 0 < k) (h2 : k < 1073741824) : F_law_take [.ow [.int p], .im (.int k)] = .ok (.int (p % k), [.ow [.int (p / k)], .im (.int k)]) := by
  refine ev_eqs (ev_fun ?_)
  unfold g_law_take
  walk_at "mir"
  exact ⟨rfl, rfl⟩
structure RawT (m : Int) (t : Tm) : Prop where
  s0 : 0 ≤ t.s
  s1 : t.s < m
  l0 : 1 ≤ t.l
  l1 : t.l ≤ m
  lo0 : 0 ≤ t.lo
  lo1 : t.lo ≤ 1000000
  hi0 : ∀ h, t.hi = some h → -1000000 ≤ h ∧ h ≤ 1000000
def hiOk (t : Tm) : Bool := match t.hi with
  | none => true
  | some h => decide (0 ≤ h)
theorem RawT.ok {m : Int} {t : Tm} (h : RawT m t) (q : hiOk t = true) : t.ok m := by
  refine ⟨h.s0, h.s1, h.l0, h.l1, h.lo0, fun i hi => ?_⟩
  unfold hiOk at q
  rw [hi] at q
  exact of_decide_eq_true q
structure Eg where
  u : Nat
  v : Nat
  w : Int
  t : Option Nat
  way : Int
  r : Int
def updF {α : Type} (f : Nat → α) (x : Nat) (a : α) : Nat → α := fun y => if y = x then a else f y
theorem updF_same {α : Type} {f : Nat → α} {x : Nat} {a : α} : updF f x a x = a := by unfold updF; rw [if_pos rfl]
theorem updF_ne {α : Type} {f : Nat → α} {x y : Nat} {a : α} (h : y ≠ x) : updF f x a y = f y := by unfold updF; rw [if_neg h]
/-- in round r, when the demands in done were looked at; rd, tm: the round, the time of a place's last rise -/
structure BF (es : List Eg) (r : Nat) (done : List Eg) (h : Nat → Int) (b : Nat → Option Eg) (rd tm : Nat → Nat) (clk : Nat) : Prop where
  rd_le : ∀ x, rd x ≤ r
  mem : ∀ x e, b x = some e → e ∈ es ∧ e.v = x
  one : ∀ x, b x = none → rd x = 0
  back : ∀ x e, b x = some e → rd x ≤ rd e.u + 1
  le : ∀ x e, b x = some e → h x ≤ h e.u + e.w
  lt : ∀ x e, b x = some e → tm x < tm e.u → h x < h e.u + e.w
  self : ∀ x e, b x = some e → e.u = x → 0 < e.w
  time : ∀ x, b x ≠ none → tm x < clk
  old : ∀ x, b x = none → tm x = 0
  pos : ∀ x, b x ≠ none → 0 < tm x
  clk0 : 0 < clk
  inj : ∀ x y, b x ≠ none → b y ≠ none → tm x = tm y → x = y
  prev : ∀ e ∈ es, rd e.u + 1 < r → h e.u + e.w ≤ h e.v
  cur : ∀ e ∈ done, rd e.u < r → h e.u + e.w ≤ h e.v
theorem BF.start (es : List Eg) (h : Nat → Int) : BF es 1 [] h (fun _ => none) (fun _ => 0) (fun _ => 0) 1 where
  rd_le := fun _ => Nat.zero_le _
  mem := fun _ _ q => nomatch q
  one := fun _ _ => rfl
  back := fun _ _ q => nomatch q
  le := fun _ _ q => nomatch q
  lt := fun _ _ q => nomatch q
  self := fun _ _ q => nomatch q
  time := fun _ q => absurd rfl q
  old := fun _ _ => rfl
  pos := fun _ q => absurd rfl q
  clk0 := Nat.one_pos
  inj := fun _ _ q => absurd rfl q
  prev := fun _ _ q => by omega
  cur := fun _ q => by simp at q
theorem BF.next {es done : List Eg} {r : Nat} {h : Nat → Int} {b : Nat → Option Eg} {rd tm : Nat → Nat} {clk : Nat} (I : BF es r done h b rd tm clk) (hd : ∀ e ∈ es, e ∈ done) : BF es (r + 1) [] h b rd tm clk :=
  ⟨fun x => Nat.le_succ_of_le (I.rd_le x), I.mem, I.one, I.back, I.le, I.lt, I.self, I.time, I.old, I.pos, I.clk0, I.inj, fun e he q => I.cur e (hd e he) (by omega), fun e he => by simp at he⟩
/-- walking back from a place that rose in the last round -/
def par (b : Nat → Option Eg) (x : Nat) : Nat := match b x with
  | some e => e.u
  | none => x
def bk (b : Nat → Option Eg) (x : Nat) : Nat → Nat
  | 0 => x
  | k + 1 => par b (bk b x k)
def oN : Option Nat → D
  | none => .none
  | some k => .int k
def Eg.d (e : Eg) : D := .tuple [.int e.u, .int e.v, .int e.w, oN e.t, .int e.way, .int e.r]
def oE : Option Eg → D
  | none => .none
  | some e => e.d
def hF (hs : List Int) (x : Nat) : Int := hs.getD x 0
def hC (φ : Nat → Int) (C : Int) (val : Nat → Option Int) (x : Nat) : Int := match val x with
  | some a => a
  | none => φ x - C
def Feas (es : List Eg) (g : Nat → Int) : Prop := ∀ e ∈ es, g e.u + e.w ≤ g e.v
structure HS (es : List Eg) (p : Nat) (φ : Nat → Int) (r : Nat) (done : List Eg) (val : Nat → Option Int) (b : Nat → Option Eg) (rd tm : Nat → Nat) (clk : Nat) : Prop where
  bf : ∃ C0, ∀ C, C0 ≤ C → BF es r done (hC φ C val) b rd tm clk
  low : ∀ g, Feas es g → ∀ x a, val x = some a → a ≤ g x - g p
  home : ∃ a, val p = some a ∧ 0 ≤ a
theorem HS.start {es : List Eg} {p : Nat} {φ : Nat → Int} : HS es p φ 1 [] (updF (fun _ => none) p (some 0)) (fun _ => none) (fun _ => 0) (fun _ => 0) 1 := by
  refine ⟨⟨0, fun C _ => BF.start es _⟩, fun g _ x a h => ?_, 0, updF_same, Int.le_refl _⟩
  by_cases q : x = p
  · rw [q, updF_same] at h; cases h; rw [q]; omega
  · rw [updF_ne q] at h; cases h
theorem HS.next {es done : List Eg} {p r : Nat} {φ : Nat → Int} {val : Nat → Option Int} {b : Nat → Option Eg} {rd tm : Nat → Nat} {clk : Nat} (I : HS es p φ r done val b rd tm clk) (hd : ∀ e ∈ es, e ∈ done) : HS es p φ (r + 1) [] val b rd tm clk := by
  obtain ⟨C0, h⟩ := I.bf
  exact ⟨⟨C0, fun C hC => (h C hC).next hd⟩, I.low, I.home⟩
def pre (xs : List Int) (k : Nat) : Int := (xs.take k).sum
theorem atI_last {ds : List D} {d : D} : atI (ds ++ [d]) (-1) = some d := by
  unfold atI ixN
  rw [List.length_append, List.length_singleton, if_neg (by decide), if_pos (by omega)]
  show (ds ++ [d])[((-1 : Int) + ((ds.length + 1 : Nat) : Int)).toNat]? = some d
  rw [show ((-1 : Int) + ((ds.length + 1 : Nat) : Int)).toNat = ds.length by omega]
  simp
structure Op (op : Int → Int → Int) : Prop where
  one : ∀ a b, op a b = a ∨ op a b = b
  mono : ∀ a b c d, a ≤ c → b ≤ d → op a b ≤ op c d
  comm : ∀ a b, op a b = op b a
  add : ∀ a b c, op (a + c) (b + c) = op a b + c
theorem Op.same {op : Int → Int → Int} (o : Op op) (a : Int) : op a a = a := by rcases o.one a a with h | h <;> exact h
def hold (xs : List Int) (ts : List Tm) : Prop := ∀ t ∈ ts, badT t (stn xs t.s t.l) = false
def ascB (xs : List Int) : Bool := (xs.zip (xs.drop 1)).all fun p => decide (p.1 ≤ p.2)
def nI (us : List Nat) : List Int := us.map Int.ofNat
def cntP (ps : List Int) (q : Nat) : Int := ((ps.filter fun p => decide (p = (q : Int))).length : Nat)
def covT (m : Int) (ts : List Tm) (q j : Nat) : Int := match ts[j]? with
  | some t => cntP (plc m t.s t.l) q
  | none => 0
def covN (m : Int) (ts : List Tm) (us : List Nat) (q : Nat) : Int := (us.map (covT m ts q)).sum
def hiN (ts : List Tm) (j : Nat) : Option Int := match ts[j]? with
  | some t => t.hi
  | none => none
def loN (ts : List Tm) (j : Nat) : Int := match ts[j]? with
  | some t => t.lo
  | none => 0
def hiV (ts : List Tm) (j : Nat) : Int := (hiN ts j).getD 0
def capB (ts : List Tm) (ws : List Nat) : Bool := ws.all fun j => (hiN ts j).isSome
def fitB (n : Nat) (ts : List Tm) (us ws : List Nat) (r : Int) : Bool := (List.range n).all fun q => decide (covN n ts us q - covN n ts ws q ≤ r)
def sumB (ts : List Tm) (T : Int) (us ws : List Nat) (r : Int) : Bool := decide (r * T < (us.map (loN ts)).sum - (ws.map (hiV ts)).sum)
/-- a laying with a total that holds terms -/
structure LayOf (n : Nat) (T : Int) (ts : List Tm) (xs : List Int) : Prop where
  len : xs.length = n
  nn : ∀ x ∈ xs, 0 ≤ x
  sum : xs.sum = T
  hold : hold xs ts
/-- the latest and the earliest of all layings -/
structure Ends (n : Nat) (T : Int) (ts : List Tm) (xs ys : List Int) : Prop where
  a : LayOf n T ts xs
  b : LayOf n T ts ys
  low : ∀ zs, LayOf n T ts zs → ∀ k, pre xs k ≤ pre zs k
  up : ∀ zs, LayOf n T ts zs → ∀ k, pre zs k ≤ pre ys k
/-- a bar -/
structure Bar (n : Nat) (T : Int) (ts : List Tm) (us ws : List Nat) (r : Int) : Prop where
  up : ∀ j ∈ us, j < ts.length
  dn : ∀ j ∈ ws, j < ts.length
  ua : ascB (nI us) = true
  wa : ascB (nI ws) = true
  cap : capB ts ws = true
  fit : fitB n ts us ws r = true
  more : sumB ts T us ws r = true
theorem Bar.at {n : Nat} {T T' : Int} {ts : List Tm} {us ws : List Nat} {r : Int} (B : Bar n T ts us ws r) (h : r * T' ≤ r * T) : Bar n T' ts us ws r := by
  have m := of_decide_eq_true B.more
  exact ⟨B.up, B.dn, B.ua, B.wa, B.cap, B.fit, decide_eq_true (by omega)⟩
structure Gd (n w : Nat) (d : D) : Prop where
  nice : Nice n w d
  tx : TxOk d
structure GdL (n w : Nat) (ds : List D) : Prop where
  lay : PyData.canLayAll0 ds = true
  dep : PyData.depthAll ds ≤ n
  wt : PyData.weightAll ds ≤ w
  sh : PyData.showableAll ds = true
  ls : PyData.leavesShortAll 300 ds = true
  tx : ∀ d ∈ ds, TxOk d
theorem Gd.mono {n w n' w' : Nat} {d : D} (h : Gd n w d) (hn : n ≤ n') (hw : w ≤ w') : Gd n' w' d := ⟨h.nice.mono hn hw, h.tx⟩
theorem GdL.mono {n w n' w' : Nat} {d : List D} (h : GdL n w d) (hn : n ≤ n') (hw : w ≤ w') : GdL n' w' d := ⟨h.lay, Nat.le_trans h.dep hn, Nat.le_trans h.wt hw, h.sh, h.ls, h.tx⟩
theorem gd_none : Gd 0 0 .none := ⟨nice_none, sok_none⟩
theorem gd_bool (b : Bool) : Gd 0 0 (.bool b) := ⟨nice_bool b, sok_bool b⟩
theorem gd_int {i : Int} (h1 : -1000000000000000000000000000000 ≤ i) (h2 : i ≤ 1000000000000000000000000000000) : Gd 0 100 (.int i) := ⟨nice_small h1 h2, sok_int i⟩
theorem gdl_nil : GdL 0 0 [] := ⟨rfl, by simp [PyData.depthAll], by simp [PyData.weightAll], rfl, rfl, by simp⟩
theorem gdl_cons {n w n' w' : Nat} {d : D} {ds : List D} (h : Gd n w d) (h' : GdL n' w' ds) : GdL (max n n') (w + w' + 1) (d :: ds) := by
  refine ⟨by simp only [PyData.canLayAll0, h.nice.lay, h'.lay, Bool.and_self], ?_, ?_, by simp only [PyData.showableAll, h.nice.sh, h'.sh, Bool.and_self], by simp only [PyData.leavesShortAll, h.nice.ls, h'.ls, Bool.and_self], ?_⟩
  · have := h.nice.dep; have := h'.dep
    simp only [PyData.depthAll]; omega
  · have := h.nice.wt; have := h'.wt
    simp only [PyData.weightAll]; omega
  · intro x hx
    rcases List.mem_cons.mp hx with rfl | hx
    · exact h.tx
    · exact h'.tx x hx
theorem GdL.head {n w : Nat} {d : D} {ds : List D} (h : GdL n w (d :: ds)) : Gd n w d ∧ GdL n w ds := by
  have h1 := h.lay; have h2 := h.dep; have h3 := h.wt; have h4 := h.sh; have h5 := h.ls
  simp only [PyData.canLayAll0, PyData.depthAll, PyData.weightAll, PyData.showableAll, PyData.leavesShortAll, Bool.and_eq_true] at h1 h2 h3 h4 h5
  exact ⟨⟨⟨h1.1, by omega, by omega, h4.1, h5.1⟩, h.tx d (by simp)⟩, ⟨h1.2, by omega, by omega, h4.2, h5.2, fun x hx => h.tx x (by simp [hx])⟩⟩
theorem GdL.mem {n w : Nat} : ∀ {ds : List D} {d : D}, GdL n w ds → d ∈ ds → Gd n w d
  | [], _, _, h => by simp at h
  | x :: xs, d, g, h => by
    rcases List.mem_cons.mp h with rfl | h
    · exact g.head.1
    · exact g.head.2.mem h
theorem GdL.length {n w : Nat} : ∀ {ds : List D}, GdL n w ds → ds.length ≤ w
  | [], _ => by simp
  | x :: xs, g => by
    have h3 := g.wt
    simp only [PyData.weightAll] at h3
    have := GdL.length (ds := xs) (n := n) (w := w - PyData.weight x - 1) ⟨g.head.2.lay, g.head.2.dep, by omega, g.head.2.sh, g.head.2.ls, g.head.2.tx⟩
    simp only [List.length_cons]; omega
theorem gdl_append {n w n' w' : Nat} : ∀ {xs ys : List D}, GdL n w xs → GdL n' w' ys → GdL (max n n') (w + w') (xs ++ ys)
  | [], ys, _, h' => h'.mono (by omega) (by omega)
  | x :: xs, ys, h, h' => by
    have h3 := h.wt
    simp only [PyData.weightAll] at h3
    have e : GdL n (w - PyData.weight x - 1) xs := ⟨h.head.2.lay, h.head.2.dep, by omega, h.head.2.sh, h.head.2.ls, h.head.2.tx⟩
    have z := gdl_append e h'
    have c := gdl_cons (n := n) (w := PyData.weight x) (d := x) ⟨⟨h.head.1.nice.lay, h.head.1.nice.dep, Nat.le_refl _, h.head.1.nice.sh, h.head.1.nice.ls⟩, h.head.1.tx⟩ z
    exact c.mono (by omega) (by omega)
theorem gd_tuple {n w : Nat} {ds : List D} (h : GdL n w ds) : Gd (n + 1) w (.tuple ds) :=
  ⟨⟨by simp only [PyData.canLay0, h.lay], by have := h.dep; simp only [PyData.depth]; omega, by simpa only [PyData.weight] using h.wt, by simp only [PyData.showable, h.sh], by simp only [PyData.leavesShort, h.ls]⟩, sok_tuple h.tx⟩
theorem gd_list {n w : Nat} {ds : List D} (h : GdL n w ds) : Gd (n + 1) w (.list ds) :=
  ⟨⟨by simp only [PyData.canLay0, h.lay], by have := h.dep; simp only [PyData.depth]; omega, by simpa only [PyData.weight] using h.wt, by simp only [PyData.showable, h.sh], by simp only [PyData.leavesShort, h.ls]⟩, sok_list h.tx⟩
theorem gd_fin {n w n' w' : Nat} {d : D} (h : Gd n w d) (hn : n ≤ n') (hw : w ≤ w') : Gd n' w' d := h.mono hn hw
theorem gdl_fin {n w n' w' : Nat} {d : List D} (h : GdL n w d) (hn : n ≤ n') (hw : w ≤ w') : GdL n' w' d := h.mono hn hw
def strCk (x : Str) : Bool := PyData.strOk x && decide (x.cps.size ≤ 40) && (x.cps.toList.all fun c => decide (c < 16 ^ 8)) && PyData.strOk (reprText x)
theorem gd_str {x : Str} (h : strCk x = true) : Gd 0 40 (.str x) := by
  unfold strCk at h
  simp only [Bool.and_eq_true, decide_eq_true_eq] at h
  obtain ⟨⟨⟨h1, h2⟩, h3⟩, h4⟩ := h
  exact ⟨⟨by simpa only [PyData.canLay0] using h1, by simp [PyData.depth], by simpa only [PyData.weight] using h2, rfl, by simpa only [PyData.leavesShort] using h3⟩, h4⟩
theorem addD_list {xs ys : List D} (h : xs.length + ys.length ≤ 1000000) : addD (.list xs) (.list ys) = some (.list (xs ++ ys)) := by
  simp only [addD]; rw [if_pos (sizeLine_lt _ (by omega))]
theorem all_nil {P : D → Prop} : ∀ x ∈ ([] : List D), P x := by simp
theorem all_cons {P : D → Prop} {d : D} {ds : List D} (h : P d) (h' : ∀ x ∈ ds, P x) : ∀ x ∈ d :: ds, P x := by
  intro x hx
  rcases List.mem_cons.mp hx with rfl | hx
  · exact h
  · exact h' x hx
theorem all_append {P : D → Prop} {xs ys : List D} (h : ∀ x ∈ xs, P x) (h' : ∀ x ∈ ys, P x) : ∀ x ∈ xs ++ ys, P x := by
  intro x hx
  rcases List.mem_append.mp hx with hx | hx
  · exact h x hx
  · exact h' x hx
theorem tt_of {b : Bool} {X Y : Prop} (h : b = true) (x : X) : (b = true → X) ∧ (b = false → Y) := by subst h; exact tt_mk x
theorem ff_of {b : Bool} {X Y : Prop} (h : b = false) (y : Y) : (b = true → X) ∧ (b = false → Y) := by subst h; exact ff_mk y
theorem compF_inv {T : TF} {f : EF} {vs : List Nat} (I : Nat → List D → En → Prop) : ∀ {ds acc : List D} {env : En} {k : Nat}, I k acc env → acc.length + ds.length ≤ sizeLine →
    (∀ j d acc env, ds[j]? = some d → I (k + j) acc env → EvO (T d env) fun e1 => Ev (f e1) (fun r e3 => okVs e3 vs = true ∧ I (k + j + 1) (acc ++ [r]) (wipeE e3 vs)) fun _ _ => False) →
    ∃ acc' env', compF T (fun env => .ok (true, env)) f vs ds acc env = .ok (acc', env') ∧ I (k + ds.length) acc' env'
  | [], acc, env, k, h, _, _ => ⟨acc, env, rfl, h⟩
  | d :: ds, acc, env, k, h, hl, step => by
    obtain ⟨e1, a1, a2⟩ := step 0 d acc env rfl h
    obtain ⟨r, e3, b1, b2, b3⟩ := ev_eq a2
    simp only [List.length_cons] at hl
    obtain ⟨acc', env', c1, c2⟩ := compF_inv (T := T) (f := f) (vs := vs) I (ds := ds) (acc := acc ++ [r]) (env := wipeE e3 vs) (k := k + 1) b3 (by rw [List.length_append, List.length_singleton]; omega) fun j d' acc2 env2 hj hI => by
      have z := step (j + 1) d' acc2 env2 (by simpa using hj) (by rw [show k + (j + 1) = k + 1 + j by omega]; exact hI)
      rw [show k + (j + 1) + 1 = k + 1 + j + 1 by omega] at z
      exact z
    refine ⟨acc', env', ?_, by rw [List.length_cons, show k + (ds.length + 1) = k + 1 + ds.length by omega]; exact c2⟩
    unfold compF
    rw [a1, ofO_some, bind_ok, calm_ok, bind_ok]
    simp only [if_true]
    rw [b1, calm_ok, bind_ok]
    simp only
    rw [if_pos ⟨by omega, b2⟩, c1]
theorem ev_lcI {T : TF} {f : EF} {vs : List Nat} {l : En → R En (List D × En)} {env : En} {Q : D → En → Prop} {E : Exn → En → Prop} (I : En → Nat → List D → En → Prop) (q : Ev (l env) (fun ds e => okVs e vs = true ∧ ds.length ≤ sizeLine ∧ I e 0 [] (wipeE e vs) ∧
      (∀ j d acc env, ds[j]? = some d → I e j acc env → EvO (T d env) fun e1 => Ev (f e1) (fun r e3 => okVs e3 vs = true ∧ I e (j + 1) (acc ++ [r]) (wipeE e3 vs)) fun _ _ => False) ∧
      ∀ acc e', I e ds.length acc e' → Q (.list acc) (restE e e' vs)) E) : Ev (fLc l T (fun env => .ok (true, env)) f vs env) Q E := by
  refine ev_bind (ev_imp1 q fun ds e q => ?_)
  obtain ⟨h1, h2, h3, h4, h5⟩ := q
  simp only [h1, if_true]
  obtain ⟨acc, e', c1, c2⟩ := compF_inv (T := T) (f := f) (vs := vs) (I e) (ds := ds) (acc := []) (env := wipeE e vs) (k := 0) h3 (by simpa using h2) fun j d acc env hj hI => by
    rw [Nat.zero_add] at hI ⊢
    exact h4 j d acc env hj hI
  rw [c1, bind_ok]
  rw [Nat.zero_add] at c2
  exact ev_ok (h5 acc e' c2)
local macro_rules | `(tactic| walk_at "gd") => `(tactic| repeat (first
  | assumption
  | exact gd_none
  | exact gd_bool _
  | exact gd_int (by omega) (by omega)
  | exact gd_str (by decide +kernel)
  | exact gdl_nil
  | apply gd_tuple
  | apply gd_list
  | apply gdl_cons
  | apply gdl_append))
local macro_rules | `(tactic| walk_at "gdf") => `(tactic| ((apply gd_fin); (focus walk_at "gd"); decide; decide))
local macro_rules | `(tactic| walk_at "gdlf") => `(tactic| ((apply gdl_fin); (focus walk_at "gd"); decide; decide))
local macro_rules | `(tactic| walk_at "mir2") => `(tactic| with_reducible refine ev_o (addD_list (Nat.le_of_ble_eq_true rfl)) ?_)
local macro_rules | `(tactic| walk_at "gda") => `(tactic| repeat (first
  | assumption
  | exact all_nil
  | ((apply all_cons); (focus walk_at "gdf"))
  | apply all_append))
def Ip {α : Type} (r : R En α) (P : α → Prop) : Prop := ∃ x, r = .ok x ∧ P x
theorem ip_eq {α : Type} {r : R En α} {a : α} (h : Ip r fun x => x = a) : r = .ok a := by
  obtain ⟨x, e, rfl⟩ := h; exact e
theorem ip_icons {g : SF} {h : En → R En (Int × List D)} {env : En} {P : Int × List D → Prop} (q : Es (g env) (fun e => Ip (h e) P) (fun _ _ => False) (fun _ => False) (fun _ => False) fun _ _ => False) : Ip (iCons g h env) P := by
  have q := q.out
  unfold iCons
  cases hg : g env with
  | stuck => rw [hg] at q; exact q.elim
  | err x e => rw [hg] at q; exact q.elim
  | ok o =>
    rw [hg] at q
    cases o with
    | nx e => exact q
    | _ => exact q.elim
theorem ip_wcons {g : SF} {h : En → R En (List D)} {env : En} {P : List D → Prop} (q : Es (g env) (fun e => Ip (h e) P) (fun _ _ => False) (fun _ => False) (fun _ => False) fun _ _ => False) : Ip (wCons g h env) P := by
  have q := q.out
  unfold wCons
  cases hg : g env with
  | stuck => rw [hg] at q; exact q.elim
  | err x e => rw [hg] at q; exact q.elim
  | ok o =>
    rw [hg] at q
    cases o with
    | nx e => exact q
    | _ => exact q.elim
theorem ip_iend {f : EF} {env : En} {m : Int} {P : Int × List D → Prop} (h1 : env[1]? = some (some (.im (.int m)))) (ha : allIm env = true) (q : Ev (f env) (fun x _ => ∃ ds, x = .list ds ∧ P (m, ds)) fun _ _ => False) : Ip (iEnd f env) P := by
  obtain ⟨x, s, e, ds, rfl, p⟩ := ev_eq q
  unfold iEnd
  rw [h1]
  show Ip (if allIm env = true then (match f env with
    | .ok (.list ds, _) => .ok (m, ds)
    | _ => .stuck) else .stuck) P
  rw [if_pos ha, e]
  exact ⟨_, rfl, p⟩
theorem ip_wtake {f : EF} {env : En} {P : List D → Prop} (q : Ev (f env) (fun x _ => ∃ ds, x = .list ds ∧ noDctAll ds = true ∧ P ds) fun _ _ => False) : Ip (wTake f env) P := by
  obtain ⟨x, s, e, ds, rfl, n, p⟩ := ev_eq q
  unfold wTake
  rw [e]
  show Ip (if noDctAll ds = true then .ok ds else .stuck) P
  rw [if_pos n]
  exact ⟨_, rfl, p⟩
theorem noDct_oI (o : Option Int) : noDct (oI o) = true := by cases o <;> rfl
theorem noDct_tms : ∀ ts : List Tm, noDctAll (ts.map Tm.d) = true
  | [] => rfl
  | t :: ts => by
    show (noDct t.d && noDctAll (ts.map Tm.d)) = true
    rw [noDct_tms ts, Bool.and_true]
    simp [Tm.d, noDct, noDctAll, noDct_oI]
theorem F_M_init_eq {n : Int} {ts : List Tm} (h1 : 1 ≤ n) (h2 : n ≤ 40) (ht : ∀ t ∈ ts, t.ok n) (hs : ts.length ≤ 10000) : F_M_init [.int n, .tuple (ts.map Tm.d)] = .ok (n, ts.map Tm.d) := by
  refine ip_eq ?_
  show Ip (g_M_init [none, some (.im (.int n)), some (.im (.tuple (ts.map Tm.d))), none]) _
  unfold g_M_init
  refine ip_icons ?_
  walk_at "mir"
  refine ev_of (F_is_within_true h1 h2) ?_
  rw [back_ims rfl]
  walk_at "mir"
  refine ip_icons ?_
  walk_at "mir"
  refine ev_lcm (v := fun _ => .bool true) ?_
  walk_at "mirn"
  refine ⟨rfl, ?_, fun d hd => ?_, ?_⟩
  · rw [List.length_map]
    exact Nat.le_trans hs (Nat.le_trans (by decide) (sizeLine_lt 100000 (by decide)))
  · obtain ⟨t, hk, rfl⟩ := List.mem_map.mp hd
    walk_at "mirn"
    obtain ⟨s, e⟩ := F_is_term_eq n t.d
    rw [termD_ok (ht t hk)] at e
    refine ev_of e ?_
    rw [back_ims rfl]
    exact ⟨rfl, rfl, rfl⟩
  · refine ev_ok (ev_o (allD_map (f := fun _ => true) _) ?_)
    rw [show ((ts.map Tm.d).all fun _ => true) = true from List.all_eq_true.mpr fun _ _ => rfl]
    walk_at "mirn"
    refine ip_iend rfl rfl ?_
    walk_at "mirn"
    first | rfl | exact ⟨_, rfl, rfl⟩
/-- turned by k places -/
def rotT (n k : Int) (t : Tm) : Tm := { t with s := (t.s + k) % n }
theorem F_M_turn_eq {n k : Int} {ts : List Tm} (h1 : 1 ≤ n) (hs : ts.length ≤ 10000) (hn : n ≤ 40) : F_M_turn [stiD n (ts.map Tm.d) 0, .int k] = .ok ((ts.map (rotT n k)).map Tm.d) := by
  refine ip_eq ?_
  show Ip (g_M_turn [some (.im (stiD n (ts.map Tm.d) 0)), some (.im (.int k)), none, none, none, none]) _
  unfold g_M_turn
  refine ip_wcons ?_
  walk_at "mir"
  refine ev_of (F_is_whole_eq _) ?_
  rw [back_ims rfl]
  walk_at "mir"
  refine ⟨(fun h => by simp [wholeD] at h), fun _ => ?_⟩
  walk_at "mir"
  refine ip_wtake ?_
  refine ev_lcm (v := fun d => match d with
    | .tuple [.int a, b, c, e] => .tuple [.int ((a + k) % n), b, c, e]
    | _ => .none) ?_
  walk_at "mirn"
  refine ⟨rfl, ?_, fun d hd => ?_, ?_⟩
  · rw [List.length_map]
    exact Nat.le_trans hs (Nat.le_trans (by decide) (sizeLine_lt 100000 (by decide)))
  · obtain ⟨t, hk, rfl⟩ := List.mem_map.mp hd
    show EvO (tTuple 4 _ (.tuple [.int t.s, .int t.l, .int t.lo, oI t.hi]) _) _
    walk_at "mirn"
    exact ⟨rfl, rfl, rfl⟩
  · refine ⟨_, rfl, ?_, ?_⟩
    · rw [show (ts.map Tm.d).map _ = (ts.map (rotT n k)).map Tm.d from by rw [List.map_map, List.map_map]; rfl]
      exact noDct_tms _
    · rw [List.map_map, List.map_map]; rfl
theorem ev_meth {F : FD} {f : EF} {g : En → R En (List D × En)} {env : En} {Q : D → En → Prop} {E : Exn → En → Prop} (q : Ev (f env) (fun a e => (manyD a).isSome = true ∧ Ev (g e) (fun as e' => Ev (F (.im a :: as.map .im)) (fun d _ => Q d e') (fun x _ => E x e')) E) E) : Ev (fMeth F f g env) Q E := by
  refine ev_bind (ev_imp1 q fun a e q => ?_)
  obtain ⟨h1, q⟩ := q
  simp only [h1, if_true]
  refine ev_bind (ev_imp1 q fun as e' q => ?_)
  show Ev (match F (Sl.im a :: as.map Sl.im) with
    | .ok r => .ok (r.1, e')
    | .err x _ => .err x e'
    | .stuck => .stuck) Q E
  cases hf : F (.im a :: as.map .im) with
  | stuck => rw [hf] at q; exact q.1.elim
  | ok r => rw [hf] at q; exact ⟨q.1⟩
  | err x s => rw [hf] at q; exact ⟨q.1⟩
theorem noDct_ints : ∀ xs : List Int, noDctAll (xs.map PyData.int) = true
  | [] => rfl
  | x :: xs => by
    show (noDct (.int x) && noDctAll (xs.map PyData.int)) = true
    rw [noDct_ints xs]; rfl
theorem ev_gKw {gt : List D → List D → List D → List D} {md : List D} {g gk : En → R En (List D × En)} {env : En} {Q : List D → En → Prop} {E : Exn → En → Prop} (q : Ev (g env) (fun as e => Ev (gk e) (fun bs e => Q (gt as md bs) e) E) E) : Ev (gKw gt md g gk env) Q E :=
  ev_bind (ev_imp1 q fun _ _ q => ev_bind (ev_imp1 q fun _ _ q => ⟨q⟩))
theorem lenSD_eq {m c : Int} {ds : List D} (h : ds.length < 1000000) : lenSD [stiD m ds c] = some (.int ds.length) := if_pos h
theorem cutD_to (ds : List D) (k : Nat) (h : k ≤ ds.length) : cutD ds none (some (k : Int)) = ds.take k := by
  unfold cutD
  rw [HT.sIx_none, HT.sIx_nat, List.drop_zero, Nat.sub_zero, Nat.min_eq_left h]
theorem cutD_from (ds : List D) (k : Nat) (h : k ≤ ds.length) : cutD ds (some (k : Int)) none = ds.drop k := by
  unfold cutD
  rw [HT.sIx_none, HT.sIx_nat, Nat.min_eq_left h, List.take_of_length_le (by simp)]
theorem F_M_ring_any {n c : Int} {ts : List Tm} (hs : ts.length ≤ 10000) : ∃ t, F_M_ring [.im (stiD n (ts.map Tm.d) c)] = .ok (rgD n ts, t) := by
  suffices h : Ev (F_M_ring [.im (stiD n (ts.map Tm.d) c)]) (fun x s => x = rgD n ts) fun _ _ => False by
    obtain ⟨x, s, e, rfl⟩ := ev_eq h; exact ⟨s, e⟩
  refine ev_fun ?_
  unfold g_M_ring
  walk_at "mirn"
  rfl
theorem F_M_put_eq {n : Int} {ts : List Tm} {t : Tm} (ht : t.ok n) (hs : ts.length ≤ 10000) : F_M_put [stiD n (ts.map Tm.d) 0, t.d] = .ok ((ts ++ [t]).map Tm.d) := by
  obtain ⟨s, e⟩ := F_is_term_eq n t.d
  rw [termD_ok ht] at e
  refine ip_eq ?_
  show Ip (g_M_put [some (.im (stiD n (ts.map Tm.d) 0)), some (.im t.d)]) _
  generalize hd : t.d = td at e ⊢
  unfold g_M_put
  refine ip_wcons ?_
  walk_at "mir"
  refine ev_of e ?_
  rw [back_ims rfl]
  walk_at "mir"
  refine ip_wtake ?_
  walk_at "mirn"
  refine ⟨?_, _, rfl, ?_, ?_⟩
  · simp only [List.length_append, List.length_map, List.length_cons, List.length_nil]
    exact Nat.le_trans (show ts.length + (0 + 1) ≤ 100000 by omega) (sizeLine_lt _ (by decide))
  · have := noDct_tms (ts ++ [t])
    rw [List.map_append, List.map_cons, List.map_nil, hd] at this
    exact this
  · rw [List.map_append, List.map_cons, List.map_nil, hd]
theorem F_M_look_at_number_eq {n c k : Int} {ts : List Tm} (h0 : 0 ≤ k) (h1 : k < ts.length) : ∃ t, F_M_look_at_number [.im (stiD n (ts.map Tm.d) c), .im (.int k)] = .ok (.none, t) := by
  suffices h : Ev (F_M_look_at_number [.im (stiD n (ts.map Tm.d) c), .im (.int k)]) (fun x s => x = .none) fun _ _ => False by
    obtain ⟨x, s, e, rfl⟩ := ev_eq h; exact ⟨s, e⟩
  refine ev_fun ?_
  unfold g_M_look_at_number
  walk_at "mir"
  refine ev_of (F_is_within_true h0 (by omega)) ?_
  rw [back_ims rfl]
  walk_at "mir"
  rfl
structure Nw (m : R Wo OutN) (N : Wo → Prop) (P : D → Wo → Prop) (O : Nat → Wo → Prop) : Prop where
  out : match m with
    | .ok (.nx w) => N w
    | .ok (.rt d w) => P d w
    | .ok (.ro k w) => O k w
    | .err _ _ => False
    | .stuck => False
def Ow (m : R Wo Wo) (Q : Wo → Prop) : Prop := ∃ w, m = .ok w ∧ Q w
section
variable {N N' : Wo → Prop} {P P' : D → Wo → Prop} {O O' : Nat → Wo → Prop} {w : Wo} {g h : NF} {Q : D → Wo → Prop} {QT : Bool → Wo → Prop}
theorem nw_imp {m : R Wo OutN} (q : Nw m N P O) (hn : ∀ w, N w → N' w) (hp : ∀ d w, P d w → P' d w) (ho : ∀ k w, O k w → O' k w) : Nw m N' P' O' := by
  cases m with
  | stuck => exact ⟨q.1⟩
  | ok o => cases o with
    | nx w => exact ⟨hn _ q.1⟩
    | rt d w => exact ⟨hp _ _ q.1⟩
    | ro k w => exact ⟨ho _ _ q.1⟩
  | err x s => exact ⟨q.1⟩
theorem nw_imp1 {m : R Wo OutN} (q : Nw m N P O) (hn : ∀ w, N w → N' w) : Nw m N' P O := nw_imp q hn (fun _ _ h => h) fun _ _ h => h
theorem nw_seq (q : Nw (g w) (fun w => Nw (h w) N P O) P O) : Nw (nSeq g h w) N P O := by
  unfold nSeq
  revert q
  cases g w with
  | stuck => exact fun q => ⟨q.1⟩
  | ok o => cases o with
    | nx w => exact fun q => q.1
    | rt d w => exact fun q => ⟨q.1⟩
    | ro k w => exact fun q => ⟨q.1⟩
  | err x s => exact fun q => ⟨q.1⟩
theorem nw_nil (q : N w) : Nw (nNil w) N P O := ⟨q⟩
theorem nw_S {s : SF} {v : En} (hv : w.v = v) (q : Es (s v) (fun e => N (w.put e)) (fun d e => P d (w.put e)) (fun _ => False) (fun _ => False) fun _ _ => False) : Nw (nS s w) N P O := by
  unfold nS
  rw [hv]
  have q := q.out
  cases hs : s v with
  | stuck => rw [hs] at q; exact q.elim
  | err x e => rw [hs] at q; exact q.elim
  | ok o =>
    rw [hs] at q
    cases o with
    | nx e => exact ⟨q⟩
    | rt d e => exact ⟨q⟩
    | bk e => exact q.elim
    | ct e => exact q.elim
theorem ew_E {f : EF} {v : En} (hv : w.v = v) (q : Ev (f v) (fun d e => Q d (w.put e)) fun _ _ => False) : Ev (nE f w) Q fun _ _ => False := by
  unfold nE
  rw [hv]
  obtain ⟨d, e, he, q⟩ := ev_eq q
  rw [he]
  exact ⟨q⟩
theorem ew_T {f : En → R En (Bool × En)} {v : En} (hv : w.v = v) (q : Ev (f v) (fun d e => QT d (w.put e)) fun _ _ => False) : Ev (nT f w) QT fun _ _ => False := by
  unfold nT
  rw [hv]
  obtain ⟨d, e, he, q⟩ := ev_eq q
  rw [he]
  exact ⟨q⟩
theorem nw_if {t : Wo → R Wo (Bool × Wo)} (q : Ev (t w) (fun b w => (b = true → Nw (g w) N P O) ∧ (b = false → Nw (h w) N P O)) fun _ _ => False) : Nw (nIf t g h w) N P O := by
  unfold nIf
  obtain ⟨b, w', e, q⟩ := ev_eq q
  rw [e]
  cases b with
  | true => exact q.1 rfl
  | false => exact q.2 rfl
theorem ew_not {t : Wo → R Wo (Bool × Wo)} (q : Ev (t w) (fun b w => QT (!b) w) fun _ _ => False) : Ev (nNot t w) QT fun _ _ => False := by
  unfold nNot
  obtain ⟨b, w', e, q⟩ := ev_eq q
  rw [e]
  exact ⟨q⟩
theorem ew_or {t u : Wo → R Wo (Bool × Wo)} (q : Ev (t w) (fun b w => (b = true → QT true w) ∧ (b = false → Ev (u w) QT fun _ _ => False)) fun _ _ => False) : Ev (nOr t u w) QT fun _ _ => False := by
  unfold nOr
  obtain ⟨b, w', e, q⟩ := ev_eq q
  rw [e]
  cases b with
  | true => exact ⟨q.1 rfl⟩
  | false => exact q.2 rfl
theorem ew_bool {f : Wo → R Wo (D × Wo)} (q : Ev (f w) (fun d w => ∃ b, d = .bool b ∧ QT b w) fun _ _ => False) : Ev (nBool f w) QT fun _ _ => False := by
  unfold nBool
  obtain ⟨d, w', e, b, rfl, q⟩ := ev_eq q
  rw [e]
  exact ⟨q⟩
theorem ew_andV {f g : Wo → R Wo (D × Wo)} (q : Ev (f w) (fun d w => ∃ b, d = .bool b ∧ (b = true → Ev (g w) Q fun _ _ => False) ∧ (b = false → Q (.bool false) w)) fun _ _ => False) : Ev (nAndV f g w) Q fun _ _ => False := by
  unfold nAndV
  obtain ⟨d, w', e, b, rfl, q⟩ := ev_eq q
  rw [e]
  cases b with
  | true => exact q.1 rfl
  | false => exact ⟨q.2 rfl⟩
theorem ew_cmp {k : D → D → Option D} {f g : Wo → R Wo (D × Wo)} (q : Ev (f w) (fun a w => flatD a = true ∧ Ev (g w) (fun b w => EvO (k a b) fun r => ∃ c, r = .bool c ∧ Q (.bool c) w) fun _ _ => False) fun _ _ => False) : Ev (nCmp k f g w) Q fun _ _ => False := by
  unfold nCmp
  obtain ⟨a, w', e, hf, q⟩ := ev_eq q
  rw [e]
  show Ev (if flatD a = true then _ else _) Q _
  rw [if_pos hf]
  obtain ⟨b, w2, e, r, hr, c, rfl, q⟩ := ev_eq q
  rw [e]
  show Ev (match k a b with
    | some (.bool c) => .ok (.bool c, w2)
    | _ => .stuck) Q _
  rw [hr]
  exact ⟨q⟩
theorem nw_ret {f : Wo → R Wo (D × Wo)} (q : Ev (f w) P fun _ _ => False) : Nw (nRet f w) N P O := by
  unfold nRet
  obtain ⟨d, w', e, q⟩ := ev_eq q
  rw [e]
  exact ⟨q⟩
theorem nw_expr {f : Wo → R Wo (D × Wo)} (q : Ev (f w) (fun _ w => N w) fun _ _ => False) : Nw (nExpr f w) N P O := by
  unfold nExpr
  obtain ⟨d, w', e, q⟩ := ev_eq q
  rw [e]
  exact ⟨q⟩
theorem nw_set {i : Nat} {f : Wo → R Wo (D × Wo)} (q : Ev (f w) (fun d w => N ⟨w.env.set i (some (.im d)), w.os, w.al⟩) fun _ _ => False) : Nw (nSet i f w) N P O := by
  unfold nSet
  obtain ⟨d, w', e, q⟩ := ev_eq q
  rw [e]
  exact ⟨q⟩
theorem nw_retO {i k : Nat} (hk : w.al.lookup i = some k) (q : O k w) : Nw (nRetO i w) N P O := by
  unfold nRetO
  rw [hk]
  exact ⟨q⟩
theorem nw_ali {i j k : Nat} (hk : w.al.lookup i = some k) (q : N (w.bnd j k)) : Nw (nAli j i w) N P O := by
  unfold nAli
  rw [hk]
  exact ⟨q⟩
theorem nw_bnd {i : Nat} {f : Wo → R Wo Wo} (q : Ow (f w) fun w' => N (w'.bnd i (w'.os.length - 1))) : Nw (nBind i f w) N P O := by
  obtain ⟨w', e, q⟩ := q
  unfold nBind
  rw [e]
  exact ⟨q⟩
theorem nw_par {i j : Nat} {f g : Wo → R Wo Wo} (q : Ow (f w) fun w1 => Ow (g w1) fun w2 => N ((w2.bnd i (w1.os.length - 1)).bnd j (w2.os.length - 1))) : Nw (nPar i j f g w) N P O := by
  obtain ⟨w1, e, w2, e2, q⟩ := q
  unfold nPar
  rw [e, bind_ok, e2]
  exact ⟨q⟩
/-- a change; ds: the terms behind it -/
theorem ew_wr {i k : Nat} {ret : Option (Nat → Int)} {F : List D → R En (List D)} {gw : En → R En (List D × En)} {v : En} (hv : w.v = v) (hk : w.al.lookup i = some k)
    (q : Ev (gw v) (fun as e => ∃ o ds, w.os[k]? = some o ∧ (w.put e).env.all okSl = true ∧ o.past.length < 1000 ∧ F (stiD o.m o.now 0 :: as) = .ok ds ∧ noDctAll ds = true ∧ Q (retD ret ds.length) ⟨(w.put e).env, w.os.set k ⟨o.m, ds, o.past ++ [o.now]⟩, w.al⟩) fun _ _ => False) : Ev (nWr i ret F gw w) Q fun _ _ => False := by
  unfold nWr
  rw [hk, hv]
  obtain ⟨as, e, he, o, ds, h1, h2, h3, h4, h5, q⟩ := ev_eq q
  simp only
  rw [he]
  show Ev (wrW i ret F as (w.put e)) Q _
  unfold wrW
  rw [show (w.put e).al.lookup i = some k from hk]
  simp only
  rw [show (w.put e).os[k]? = some o from h1]
  simp only
  rw [if_pos ⟨h2, h3⟩, h4]
  simp only
  rw [if_pos h5]
  exact ⟨q⟩
theorem nw_ior {i k : Nat} {F : List D → R En (List D)} {f : EF} {v : En} (hv : w.v = v) (hk : w.al.lookup i = some k)
    (q : Ev (f v) (fun a e => ∃ o ds, w.os[k]? = some o ∧ (w.put e).env.all okSl = true ∧ o.past.length < 1000 ∧ F [stiD o.m o.now 0, a] = .ok ds ∧ noDctAll ds = true ∧ N ⟨(w.put e).env, w.os.set k ⟨o.m, ds, o.past ++ [o.now]⟩, w.al⟩) fun _ _ => False) : Nw (nIor i F f w) N P O := by
  unfold nIor
  rw [hk, hv]
  obtain ⟨a, e, he, o, ds, h1, h2, h3, h4, h5, q⟩ := ev_eq q
  simp only
  rw [he]
  show Nw ((wrW i none F [a] (w.put e)).bind _) N P O
  unfold wrW
  rw [show (w.put e).al.lookup i = some k from hk]
  simp only
  rw [show (w.put e).os[k]? = some o from h1]
  simp only
  rw [if_pos ⟨h2, h3⟩, h4]
  simp only
  rw [if_pos h5]
  exact ⟨q⟩
theorem ew_bk {i k : Nat} {o : Ost} {l : List D} {ps : List (List D)} (hk : w.al.lookup i = some k) (ho : w.os[k]? = some o) (hp : o.past = ps ++ [l]) (hok : w.env.all okSl = true)
    (q : Q (.bool true) ⟨w.env, w.os.set k ⟨o.m, l, ps⟩, w.al⟩) : Ev (bkW i w) Q fun _ _ => False := by
  unfold bkW
  rw [hk]
  simp only
  rw [ho]
  simp only
  rw [hp, List.getLast?_concat]
  simp only
  rw [if_pos hok, List.dropLast_concat]
  exact ⟨q⟩
theorem ow_mk {F : List D → R En (Int × List D)} {gw : En → R En (List D × En)} {v : En} {Q : Wo → Prop} (hv : w.v = v)
    (q : Ev (gw v) (fun as e => ∃ r, F as = .ok r ∧ noDctAll r.2 = true ∧ Q ⟨(w.put e).env, w.os ++ [⟨r.1, r.2, []⟩], w.al⟩) fun _ _ => False) : Ow (nMk F gw w) Q := by
  unfold nMk
  rw [hv]
  obtain ⟨as, e, he, r, h1, h2, q⟩ := ev_eq q
  rw [he]
  show Ow (mkW F as (w.put e)) Q
  unfold mkW
  rw [h1]
  simp only
  rw [if_pos h2]
  exact ⟨_, rfl, q⟩
/-- a call; es: the arguments, the objects left out -/
theorem cw_of {n : Nat} {np : List Nat} {pi : List (Nat × Nat)} {F : FN} {as : List PArg} {es : En} {ks : List Nat} (h1 : argE w as = some es) (h2 : argK w as = ks) (h3 : argP w 0 0 as = pi) (hc : as.length = n ∧ (slotsOf (hidP w as)).Nodup ∧ ks.Nodup ∧ okNpN np 0 es = true ∧ w.env.all okSl = true) {r : RO} {w' : Wo} (hF : F ⟨es, pickL w.os ks, pi⟩ = .ok (r, w')) :
    callW n np pi F as w = .ok (r, ⟨back (hidP w as) (w'.env.map fun s => s.getD (.im .none)) w.env, setM w.os ks w'.os ++ newO r, w.al⟩) := by
  unfold callW
  rw [h1, h2]
  simp only
  rw [if_pos ⟨hc.1, hc.2.1, hc.2.2.1, h3, hc.2.2.2.1, hc.2.2.2.2⟩, hF]
theorem ew_call {n : Nat} {np : List Nat} {pi : List (Nat × Nat)} {F : FN} {gc : En → R En (List PArg × En)} {v : En} (hv : w.v = v) (q : Ev (gc v) (fun as e => ∃ d w', callW n np pi F as (w.put e) = .ok (.d d, w') ∧ Q d w') fun _ _ => False) : Ev (nCall n np pi F gc w) Q fun _ _ => False := by
  unfold nCall
  rw [hv]
  obtain ⟨as, e, he, d, w', hc, q⟩ := ev_eq q
  rw [he]
  show Ev (match callW n np pi F as (w.put e) with
    | .ok (.d d, w') => .ok (d, w')
    | _ => .stuck) Q _
  rw [hc]
  exact ⟨q⟩
theorem ow_call {n : Nat} {np : List Nat} {pi : List (Nat × Nat)} {F : FN} {gc : En → R En (List PArg × En)} {v : En} {Q : Wo → Prop} (hv : w.v = v) (q : Ev (gc v) (fun as e => ∃ o w', callW n np pi F as (w.put e) = .ok (.o o, w') ∧ Q w') fun _ _ => False) : Ow (nCallO n np pi F gc w) Q := by
  unfold nCallO
  rw [hv]
  obtain ⟨as, e, he, o, w', hc, q⟩ := ev_eq q
  rw [he]
  show Ow (match callW n np pi F as (w.put e) with
    | .ok (.o _, w') => .ok w'
    | _ => .stuck) Q
  rw [hc]
  exact ⟨_, rfl, q⟩
theorem ev_cOb {j : Nat} {s : Sl} {env : En} {c : En → R En (List PArg × En)} {QC : List PArg → En → Prop} {E : Exn → En → Prop} (hj : env[j]? = some (some s)) (q : Ev (c env) (fun as e => QC (.sl j :: as) e) E) : Ev (cOb j c env) QC E := by
  unfold cOb
  rw [hj]
  exact ev_bind (ev_imp1 q fun _ _ q => ⟨q⟩)
/-- a loop over data: what holds before each turn; n: the number of objects, others are forgotten -/
theorem nw_forF {T : TF} {n : Nat} (I : Nat → Wo → Prop) : ∀ {ds : List D} {w : Wo} {k0 : Nat}, I k0 w →
    (∀ k d w, ds[k]? = some d → I (k0 + k) w → EvO (T d w.env) fun e => Nw (g (w.put e)) (fun w' => I (k0 + k + 1) (w'.cut n)) P O) → (∀ w, I (k0 + ds.length) w → N w) → Nw (nForF T g n ds w) N P O
  | [], w, k0, h0, _, h2 => ⟨h2 _ h0⟩
  | d :: ds, w, k0, h0, h1, h2 => by
    obtain ⟨e, q1, q2⟩ := h1 0 d w rfl h0
    unfold nForF
    rw [q1]
    simp only
    revert q2
    cases g (w.put e) with
    | stuck => exact fun q => ⟨q.1⟩
    | ok o => cases o with
      | nx w' =>
        intro q
        exact nw_forF I (ds := ds) (k0 := k0 + 1) q.1 (fun k d' e' hk hI => by
          have z := h1 (k + 1) d' e' (by simpa using hk) (by rw [show k0 + (k + 1) = k0 + 1 + k by omega]; exact hI)
          rw [show k0 + (k + 1) + 1 = k0 + 1 + k + 1 by omega] at z
          exact z) fun e he => h2 e (by rw [List.length_cons, show k0 + (ds.length + 1) = k0 + 1 + ds.length by omega]; exact he)
      | rt d w' => exact fun q => ⟨q.1⟩
      | ro k w' => exact fun q => ⟨q.1⟩
    | err x s => exact fun q => ⟨q.1⟩
theorem nw_for {gw : En → R En (List D × En)} {T : TF} (hok : w.env.all okSl = true) (q : Ev (gw w.env) (fun ds e => Nw (nForF T g w.os.length ds (w.put e)) N P O) fun _ _ => False) : Nw (nFor gw T g w) N P O := by
  unfold nFor
  rw [if_pos hok]
  obtain ⟨ds, e, he, q⟩ := ev_eq q
  rw [he]
  exact q
theorem nw_forO {i k : Nat} {o : Ost} {T : TF} (hk : w.al.lookup i = some k) (ho : w.os[k]? = some o) (q : Nw (nForF T g w.os.length o.now w) N P O) : Nw (nForO i T g w) N P O := by
  unfold nForO
  rw [hk]
  simp only
  rw [ho]
  exact q
theorem nw_forP {i j a b c d k1 k2 k3 k4 : Nat} (h1 : w.al.lookup a = some k1) (h2 : w.al.lookup b = some k2) (h3 : w.al.lookup c = some k3) (h4 : w.al.lookup d = some k4)
    (q : Nw (g ((w.bnd i k1).bnd j k2)) (fun w' => Nw (g (((w'.cut w.os.length).bnd i k3).bnd j k4)) (fun w' => N (w'.cut w.os.length)) P O) P O) : Nw (nForP i j a b c d g w) N P O := by
  unfold nForP
  rw [h1, h2, h3, h4]
  simp only
  unfold nForPF
  revert q
  cases g ((w.bnd i k1).bnd j k2) with
  | stuck => exact fun q => ⟨q.1⟩
  | err x s => exact fun q => ⟨q.1⟩
  | ok o => cases o with
    | rt d w' => exact fun q => ⟨q.1⟩
    | ro k w' => exact fun q => ⟨q.1⟩
    | nx w' =>
      intro q
      have q : Nw (g (((w'.cut w.os.length).bnd i k3).bnd j k4)) (fun w' => N (w'.cut w.os.length)) P O := q.1
      show Nw ((g (((w'.cut w.os.length).bnd i k3).bnd j k4)).bind fun o => match o with
        | .nx w' => nForPF i j g w.os.length [] (w'.cut w.os.length)
        | o => .ok o) N P O
      revert q
      cases g (((w'.cut w.os.length).bnd i k3).bnd j k4) with
      | stuck => exact fun q => ⟨q.1⟩
      | err x s => exact fun q => ⟨q.1⟩
      | ok o => cases o with
        | rt d w' => exact fun q => ⟨q.1⟩
        | ro k w' => exact fun q => ⟨q.1⟩
        | nx w' => exact fun q => ⟨q.1⟩
theorem runN_d {n : Nat} {F : NF} {d : D} {w' : Wo} (h : Nw (F ⟨w.env ++ List.replicate (n - w.env.length) none, w.os, w.al⟩) (fun _ => False) (fun d2 w2 => d2 = d ∧ noDct d2 = true ∧ ownOk w2.env = true ∧ w2.bk w = w') fun _ _ => False) : runN n F w = .ok (.d d, w') := by
  unfold runN
  revert h
  cases F ⟨w.env ++ List.replicate (n - w.env.length) none, w.os, w.al⟩ with
  | stuck => exact fun q => q.1.elim
  | err x s => exact fun q => q.1.elim
  | ok o => cases o with
    | nx w => exact fun q => q.1.elim
    | ro k w => exact fun q => q.1.elim
    | rt d2 w2 =>
      rintro ⟨rfl, h1, h2, rfl⟩
      simp only
      rw [if_pos ⟨h1, h2⟩]
theorem runN_o {n : Nat} {F : NF} {G : Ost → Wo → Prop} (h : Nw (F ⟨w.env ++ List.replicate (n - w.env.length) none, w.os, w.al⟩) (fun _ => False) (fun _ _ => False) fun k w2 => w.os.length ≤ k ∧ ownOk w2.env = true ∧ ∃ o, w2.os[k]? = some o ∧ G o (w2.bk w)) : ∃ o w', runN n F w = .ok (.o o, w') ∧ G o w' := by
  unfold runN
  revert h
  cases F ⟨w.env ++ List.replicate (n - w.env.length) none, w.os, w.al⟩ with
  | stuck => exact fun q => q.1.elim
  | err x s => exact fun q => q.1.elim
  | ok o => cases o with
    | nx w => exact fun q => q.1.elim
    | rt k w => exact fun q => q.1.elim
    | ro k w2 =>
      rintro ⟨h1, h2, o, h3, q⟩
      simp only
      rw [if_pos ⟨h1, h2⟩, h3]
      exact ⟨_, _, rfl, q⟩
end
instance : DecidableEq Tm := fun a b => decidable_of_iff (a.s = b.s ∧ a.l = b.l ∧ a.lo = b.lo ∧ a.hi = b.hi) ⟨fun h => by
  obtain ⟨a1, a2, a3, a4⟩ := a
  obtain ⟨b1, b2, b3, b4⟩ := b
  obtain ⟨h1, h2, h3, h4⟩ := h
  cases h1; cases h2; cases h3; cases h4; rfl, fun h => by rw [h]; exact ⟨rfl, rfl, rfl, rfl⟩⟩
theorem eqv_oI (a b : Option Int) : PyData.eqv (oI a) (oI b) = decide (a = b) := by
  cases a <;> cases b <;> simp [oI, PyData.eqv]
  rename_i x y
  by_cases h : x = y <;> simp [h]
theorem eqv_tm (s t : Tm) : PyData.eqv s.d t.d = decide (s = t) := by
  obtain ⟨a, b, c, d⟩ := s
  obtain ⟨a', b', c', d'⟩ := t
  simp only [Tm.d, PyData.eqv, PyData.eqvAll, eqv_oI, Tm.mk.injEq]
  by_cases h1 : a = a' <;> by_cases h2 : b = b' <;> by_cases h3 : c = c' <;> simp [h1, h2, h3]
theorem lay_tm (t : Tm) : PyData.canLay0 t.d = true := by
  simp only [Tm.d, PyData.canLay0, PyData.canLayAll0, Bool.true_and, Bool.and_true]
  cases t.hi <;> simp [oI, PyData.canLay0]
theorem dep_tm (t : Tm) : t.d.depth ≤ 1 := by
  simp only [Tm.d, PyData.depth, PyData.depthAll]
  cases t.hi <;> simp [oI, PyData.depth]
theorem lay_tms : ∀ ts : List Tm, PyData.canLayAll0 (ts.map Tm.d) = true
  | [] => by simp [PyData.canLayAll0]
  | t :: ts => by simp only [List.map_cons, PyData.canLayAll0, lay_tm, lay_tms ts, Bool.and_self]
theorem dep_tms : ∀ ts : List Tm, PyData.depthAll (ts.map Tm.d) ≤ 2
  | [] => by simp [PyData.depthAll]
  | t :: ts => by
    have h1 := dep_tm t
    have h2 := dep_tms ts
    rw [List.map_cons]
    unfold PyData.depthAll
    first | omega | exact Nat.max_le.mpr ⟨by omega, by omega⟩
theorem sh_tm (t : Tm) : SeqAt.shaped t.d = true := by
  have := dep_tm t
  unfold SeqAt.shaped
  rw [lay_tm, Bool.true_and, decide_eq_true_eq]; omega
theorem sh_tms (ts : List Tm) : SeqAt.shaped (.list (ts.map Tm.d)) = true := by
  have := dep_tms ts
  unfold SeqAt.shaped
  simp only [PyData.canLay0, lay_tms, Bool.true_and, decide_eq_true_eq]
  refine Nat.le_trans (show (PyData.list (ts.map Tm.d)).depth ≤ 3 from ?_) (show 3 ≤ 64 by decide)
  simp only [PyData.depth]; omega
theorem countD_tms (xs : List Tm) (t : Tm) : countD (.list (xs.map Tm.d)) t.d = some (.int (xs.count t : Nat)) := by
  unfold countD
  simp only
  rw [if_pos (by rw [sh_tms, sh_tm]; rfl), List.countP_map]
  congr 2
  unfold List.count
  congr 2
  funext u
  show PyData.eqv u.d t.d = (u == t)
  rw [eqv_tm]
  by_cases h : u = t <;> simp [h]
theorem any_tms (xs : List Tm) (t : Tm) : ((xs.map Tm.d).any fun z => PyData.eqv z t.d) = decide (t ∈ xs) := by
  rw [List.any_map]
  induction xs with
  | nil => simp
  | cons x xs ih =>
    rw [List.any_cons, ih]
    show (PyData.eqv x.d t.d || _) = _
    rw [eqv_tm]
    by_cases h : x = t
    · simp [h]
    · have h' : ¬ t = x := fun e => h e.symm
      simp [h, h']
theorem notinD_tms (t : Tm) (xs : List Tm) : notinD t.d (.list (xs.map Tm.d)) = some (.bool (!decide (t ∈ xs))) := by
  unfold notinD
  simp only
  rw [if_pos (by rw [sh_tms, sh_tm]; rfl), any_tms]
theorem eqvAll_tms : ∀ xs ys : List Tm, PyData.eqvAll (xs.map Tm.d) (ys.map Tm.d) = decide (xs = ys)
  | [], [] => by simp [PyData.eqvAll]
  | [], _ :: _ => by simp [PyData.eqvAll]
  | _ :: _, [] => by simp [PyData.eqvAll]
  | x :: xs, y :: ys => by
    simp only [List.map_cons, PyData.eqvAll, eqvAll_tms xs ys, eqv_tm, List.cons.injEq]
    simp [Bool.decide_and]
theorem eqD_tms (xs ys : List Tm) : eqD (.list (xs.map Tm.d)) (.list (ys.map Tm.d)) = some (.bool (decide (xs = ys))) := by
  unfold eqD
  rw [if_pos (by rw [sh_tms, sh_tms]; rfl), PyData.eqv, eqvAll_tms]
theorem neD_tms (xs ys : List Tm) : neD (.list (xs.map Tm.d)) (.list (ys.map Tm.d)) = some (.bool (!decide (xs = ys))) := by
  unfold neD
  rw [if_pos (by rw [sh_tms, sh_tms]; rfl), PyData.eqv, eqvAll_tms]
theorem find_tms (t : Tm) : ∀ (xs : List Tm), t ∈ xs → ∃ j, ((xs.map Tm.d).findIdx? fun w => PyData.eqv w t.d) = some j ∧ (xs.map Tm.d).eraseIdx j = (xs.erase t).map Tm.d
  | x :: xs, h => by
    rw [List.map_cons, List.findIdx?_cons, eqv_tm]
    by_cases e : x = t
    · subst e
      refine ⟨0, by simp, by simp⟩
    · have h' : t ∈ xs := by
        rcases List.mem_cons.mp h with h | h
        · exact absurd h.symm e
        · exact h
      obtain ⟨j, h1, h2⟩ := find_tms t xs h'
      refine ⟨j + 1, ?_, ?_⟩
      · rw [decide_eq_false e, h1]; rfl
      · rw [List.eraseIdx_cons_succ, h2, List.erase_cons_tail (by simpa using e), List.map_cons]
theorem perm_of_counts : ∀ {xs ys : List Tm}, ys.length ≤ xs.length → (∀ x ∈ xs, xs.count x ≤ ys.count x) → xs.Perm ys
  | [], ys, h, _ => by
    have : ys = [] := List.eq_nil_of_length_eq_zero (by simpa using h)
    rw [this]
  | x :: xs, ys, h, hc => by
    have h1 := hc x (List.mem_cons_self ..)
    rw [List.count_cons_self] at h1
    have hm : x ∈ ys := List.count_pos_iff.mp (by omega)
    have hl := List.length_erase_of_mem hm
    have hp := List.length_pos_of_mem hm
    have ih : xs.Perm (ys.erase x) := perm_of_counts (by rw [List.length_cons] at h; omega) fun y hy => by
      have h2 := hc y (List.mem_cons_of_mem _ hy)
      rw [List.count_cons] at h2
      rw [List.count_erase]
      omega
    exact (ih.cons x).trans (List.perm_cons_erase hm).symm
theorem perm_iff_c (xs ys : List Tm) : xs.Perm ys ↔ ys.length = xs.length ∧ ∀ x ∈ xs, xs.count x = ys.count x := by
  constructor
  · exact fun h => ⟨h.length_eq.symm, fun x _ => h.count_eq x⟩
  · exact fun h => perm_of_counts (by omega) fun x hx => by rw [h.2 x hx]; exact Nat.le_refl _
theorem F_M_eq_tms {n m c c' : Int} {xs ys : List Tm} (hs : xs.length ≤ 10000) : ∃ t, F_M_eq [.im (stiD n (xs.map Tm.d) c), .im (stiD m (ys.map Tm.d) c')] = .ok (.bool (decide (n = m ∧ xs.Perm ys)), t) := by
  suffices h : Ev (F_M_eq [.im (stiD n (xs.map Tm.d) c), .im (stiD m (ys.map Tm.d) c')]) (fun y s => y = .bool (decide (n = m ∧ xs.Perm ys))) fun _ _ => False by
    obtain ⟨y, s, e', rfl⟩ := ev_eq h; exact ⟨s, e'⟩
  refine ev_fun ?_
  unfold g_M_eq
  walk_at "mirn"
  refine es_if ?_
  walk_at "mirn"
  by_cases hn : m = n
  · subst hn
    refine ff_of (by simp) ?_
    walk_at "mirn"
    by_cases hl : ys.length = xs.length
    · refine ff_of (by simp [hl]) ?_
      walk_at "mirn"
      refine ev_lcm (v := fun d => match countD (.list (xs.map Tm.d)) d, countD (.list (ys.map Tm.d)) d with
        | some (.int a), some (.int b) => .bool (decide (a = b))
        | _, _ => .none) ?_
      walk_at "mirn"
      refine ⟨rfl, by rw [List.length_map]; exact Nat.le_trans hs (Nat.le_trans (by decide) (sizeLine_lt 100000 (by decide))), fun d hd => ?_, ?_⟩
      · obtain ⟨t, ht, rfl⟩ := List.mem_map.mp hd
        walk_at "mirn"
        refine ev_o (countD_tms _ _) ?_
        walk_at "mirn"
        refine ev_o (countD_tms _ _) ?_
        walk_at "mirn"
        rw [countD_tms, countD_tms]
        exact ⟨rfl, rfl, rfl⟩
      · have em : (xs.map Tm.d).map (fun d => match countD (.list (xs.map Tm.d)) d, countD (.list (ys.map Tm.d)) d with
          | some (.int a), some (.int b) => .bool (decide (a = b))
          | _, _ => .none) = (xs.map fun t => decide ((xs.count t : Int) = (ys.count t : Int))).map PyData.bool := by
          rw [List.map_map, List.map_map]
          refine List.map_congr_left fun t _ => ?_
          simp only [Function.comp, countD_tms]
        rw [em]
        refine ev_ok (ev_o (allD_list _) ?_)
        walk_at "mirn"
        congr 1
        rw [List.all_map, Bool.eq_iff_iff, List.all_eq_true, decide_eq_true_eq, perm_iff_c]
        constructor
        · intro h
          refine ⟨rfl, hl, fun x hx => ?_⟩
          have := of_decide_eq_true (h x hx)
          omega
        · rintro ⟨_, _, h⟩ x hx
          exact decide_eq_true (by rw [h x hx])
    · refine tt_of (by simp; omega) ?_
      walk_at "mirn"
      rw [decide_eq_false]
      rintro ⟨_, h⟩
      exact hl h.length_eq.symm
  · refine tt_of (by simp [hn]) ?_
    walk_at "mirn"
    rw [decide_eq_false]
    rintro ⟨h, _⟩
    exact hn h.symm
theorem F_M_eq_oth {n c : Int} {xs : List Tm} {d : D} (hd : isStD d = some (.bool false)) : ∃ t, F_M_eq [.im (stiD n (xs.map Tm.d) c), .im d] = .ok (.bool false, t) := by
  suffices h : Ev (F_M_eq [.im (stiD n (xs.map Tm.d) c), .im d]) (fun y s => y = .bool false) fun _ _ => False by
    obtain ⟨y, s, e', rfl⟩ := ev_eq h; exact ⟨s, e'⟩
  refine ev_fun ?_
  unfold g_M_eq
  walk_at "mirn"
  refine es_if ?_
  walk_at "mirn"
  refine ev_o hd ?_
  walk_at "mirn"
  rfl
theorem eqX_tms {n m c c' : Int} {xs ys : List Tm} (hs : xs.length ≤ 10000) : eqXD F_M_eq (stiD n (xs.map Tm.d) c) (stiD m (ys.map Tm.d) c') = some (.bool (decide (n = m ∧ xs.Perm ys))) := by
  obtain ⟨t, e⟩ := F_M_eq_tms (n := n) (m := m) (c := c) (c' := c') (ys := ys) hs
  unfold eqXD
  rw [if_pos ⟨rfl, .inl rfl⟩, e]
theorem neX_tms {n m c c' : Int} {xs ys : List Tm} (hs : xs.length ≤ 10000) : neXD F_M_eq (stiD n (xs.map Tm.d) c) (stiD m (ys.map Tm.d) c') = some (.bool (!decide (n = m ∧ xs.Perm ys))) := by
  unfold neXD
  rw [eqX_tms hs]; rfl
theorem eqX_oth {n c : Int} {xs : List Tm} {d : D} (hd : isStD d = some (.bool false)) (ho : othD d = true) : eqXD F_M_eq (stiD n (xs.map Tm.d) c) d = some (.bool false) := by
  obtain ⟨t, e⟩ := F_M_eq_oth (n := n) (c := c) (xs := xs) hd
  unfold eqXD
  rw [if_pos ⟨rfl, .inr ho⟩, e]
theorem sz_le {n : Nat} (h : n ≤ 100000) : n ≤ sizeLine := Nat.le_trans h (sizeLine_lt 100000 (by decide))
theorem addD_tms (xs ys : List Tm) (h : xs.length + ys.length ≤ 100000) : addD (.list (xs.map Tm.d)) (.list (ys.map Tm.d)) = some (.list ((xs ++ ys).map Tm.d)) := by
  rw [List.map_append]
  exact if_pos (by rw [List.length_map, List.length_map]; exact sz_le h)
theorem init_list {n : Int} {ts : List Tm} (h1 : 1 ≤ n) (h2 : n ≤ 40) (ht : ∀ t ∈ ts, t.ok n) (hs : ts.length ≤ 10000) : F_M_init [.int n, .list (ts.map Tm.d)] = .ok (n, ts.map Tm.d) := by
  refine ip_eq ?_
  show Ip (g_M_init [none, some (.im (.int n)), some (.im (.list (ts.map Tm.d))), none]) _
  unfold g_M_init
  refine ip_icons ?_
  walk_at "mir"
  refine ev_of (F_is_within_true h1 h2) ?_
  rw [back_ims rfl]
  walk_at "mir"
  refine ip_icons ?_
  walk_at "mir"
  refine ev_lcm (v := fun _ => .bool true) ?_
  walk_at "mirn"
  refine ⟨rfl, ?_, fun d hd => ?_, ?_⟩
  · rw [List.length_map]
    exact sz_le (by omega)
  · obtain ⟨t, hk, rfl⟩ := List.mem_map.mp hd
    walk_at "mirn"
    obtain ⟨s, e⟩ := F_is_term_eq n t.d
    rw [termD_ok (ht t hk)] at e
    refine ev_of e ?_
    rw [back_ims rfl]
    exact ⟨rfl, rfl, rfl⟩
  · refine ev_ok (ev_o (allD_map (f := fun _ => true) _) ?_)
    rw [show ((ts.map Tm.d).all fun _ => true) = true from List.all_eq_true.mpr fun _ _ => rfl]
    walk_at "mirn"
    refine ip_iend rfl rfl ?_
    walk_at "mirn"
    first | rfl | exact ⟨_, rfl, rfl⟩
theorem F_M_drop_at {n : Int} {xs ys : List Tm} {t : Tm} {k : Int} (hk : k = xs.length) (hs : xs.length + ys.length ≤ 10000) : F_M_drop [stiD n ((xs ++ t :: ys).map Tm.d) 0, .int k] = .ok ((xs ++ ys).map Tm.d) := by
  subst hk
  obtain ⟨s1, e1⟩ := F_M_look_at_number_eq (n := n) (c := 0) (k := (xs.length : Int)) (ts := xs ++ t :: ys) (by omega) (by rw [List.length_append, List.length_cons]; omega)
  have hlen : ((xs ++ t :: ys).map Tm.d).length = xs.length + ys.length + 1 := by simp; omega
  have c1 : cutD ((xs ++ t :: ys).map Tm.d) none (some (xs.length : Int)) = xs.map Tm.d := by
    rw [cutD_to _ _ (by rw [hlen]; omega), List.map_append, List.take_left' (by simp)]
  have c2 : cutD ((xs ++ t :: ys).map Tm.d) (some ((xs.length : Int) + 1)) none = ys.map Tm.d := by
    rw [show (xs.length : Int) + 1 = ((xs.length + 1 : Nat) : Int) by omega, cutD_from _ _ (by rw [hlen]; omega), List.map_append, List.map_cons, List.drop_append, List.drop_of_length_le (by simp)]
    simp
  refine ip_eq ?_
  show Ip (g_M_drop [some (.im (stiD n ((xs ++ t :: ys).map Tm.d) 0)), some (.im (.int xs.length))]) _
  generalize hL : (xs ++ t :: ys).map Tm.d = L at *
  unfold g_M_drop
  refine ip_wcons ?_
  walk_at "mir"
  refine ev_meth ?_
  walk_at "mir"
  refine ⟨rfl, ?_⟩
  walk_at "mir"
  refine ev_of e1 ?_
  refine ip_wtake ?_
  walk_at "mirn"
  rw [c1, c2]
  refine ev_o (addD_tms _ _ (by omega)) ?_
  exact ⟨_, rfl, noDct_tms _, rfl⟩
def orO (mo hi : Option Int) : Option Int := match mo with
  | none => hi
  | some m => some m
theorem F_M_change_at {n lo : Int} {xs ys : List Tm} {t : Tm} {k : Int} {mo : Option Int} (hk : k = xs.length) (h0 : 0 ≤ lo) (hm : ∀ m, mo = some m → 0 ≤ m) (hs : xs.length + ys.length ≤ 10000) :
    F_M_change [stiD n ((xs ++ t :: ys).map Tm.d) 0, .int k, .int lo, oI mo] = .ok ((xs ++ { t with lo := lo, hi := orO mo t.hi } :: ys).map Tm.d) := by
  subst hk
  obtain ⟨s1, e1⟩ := F_M_look_at_number_eq (n := n) (c := 0) (k := (xs.length : Int)) (ts := xs ++ t :: ys) (by omega) (by rw [List.length_append, List.length_cons]; omega)
  have hlen : ((xs ++ t :: ys).map Tm.d).length = xs.length + ys.length + 1 := by simp; omega
  have hix : ixD (.list ((xs ++ t :: ys).map Tm.d)) (.int (xs.length : Int)) = some t.d := by
    refine atI_nat' (by omega) ?_
    rw [Int.toNat_natCast, List.getElem?_map, List.getElem?_append_right (Nat.le_refl _), Nat.sub_self]
    rfl
  have c1 : cutD ((xs ++ t :: ys).map Tm.d) none (some (xs.length : Int)) = xs.map Tm.d := by
    rw [cutD_to _ _ (by rw [hlen]; omega), List.map_append, List.take_left' (by simp)]
  have c2 : cutD ((xs ++ t :: ys).map Tm.d) (some ((xs.length : Int) + 1)) none = ys.map Tm.d := by
    rw [show (xs.length : Int) + 1 = ((xs.length + 1 : Nat) : Int) by omega, cutD_from _ _ (by rw [hlen]; omega), List.map_append, List.map_cons, List.drop_append, List.drop_of_length_le (by simp)]
    simp
  have fin : ∀ u : Tm, ∀ d, d = u.d → (xs.map Tm.d ++ d :: (ys.map Tm.d ++ [])).length ≤ sizeLine ∧ ∃ ds, PyData.list (xs.map Tm.d ++ d :: (ys.map Tm.d ++ [])) = .list ds ∧ noDctAll ds = true ∧ ds = (xs ++ u :: ys).map Tm.d := by
    rintro u _ rfl
    refine ⟨?_, _, rfl, ?_, ?_⟩
    · simp only [List.length_append, List.length_map, List.length_cons, List.length_nil]
      exact sz_le (by omega)
    · have := noDct_tms (xs ++ u :: ys)
      rw [List.map_append, List.map_cons] at this
      rw [List.append_nil]; exact this
    · rw [List.append_nil, List.map_append, List.map_cons]
  refine ip_eq ?_
  show Ip (g_M_change [some (.im (stiD n ((xs ++ t :: ys).map Tm.d) 0)), some (.im (.int xs.length)), some (.im (.int lo)), some (.im (oI mo)), none, none, none, none]) _
  generalize hL : (xs ++ t :: ys).map Tm.d = L at *
  unfold g_M_change
  refine ip_wcons ?_
  walk_at "mir"
  refine ev_meth ?_
  walk_at "mir"
  refine ⟨rfl, ?_⟩
  walk_at "mir"
  refine ev_of e1 ?_
  refine ip_wcons ?_
  walk_at "mir"
  refine ev_of (F_is_from_eq _ _) ?_
  rw [back_ims rfl, show fromD (.int lo) 0 = true from decide_eq_true h0]
  walk_at "mir"
  cases mo with
  | none =>
    refine ip_wcons ?_
    walk_at "mir"
    refine ip_wcons ?_
    walk_at "mir"
    refine ev_o hix ?_
    show EvO (tTuple 4 _ (.tuple [.int t.s, .int t.l, .int t.lo, oI t.hi]) _) _
    walk_at "mir"
    refine ip_wcons ?_
    walk_at "mir"
    refine ip_wcons ?_
    walk_at "mir"
    refine ip_wtake ?_
    walk_at "mirn"
    rw [c1, c2]
    exact fin { t with lo := lo } _ rfl
  | some m =>
    dsimp only [oI]
    refine ip_wcons ?_
    walk_at "mir"
    refine ev_of (F_is_from_eq _ _) ?_
    rw [back_ims rfl, show fromD (.int m) 0 = true from decide_eq_true (hm m rfl)]
    walk_at "mir"
    refine ip_wcons ?_
    walk_at "mir"
    refine ev_o hix ?_
    show EvO (tTuple 4 _ (.tuple [.int t.s, .int t.l, .int t.lo, oI t.hi]) _) _
    walk_at "mir"
    refine ip_wcons ?_
    walk_at "mir"
    refine ip_wcons ?_
    walk_at "mir"
    refine ff_of rfl ?_
    walk_at "mir"
    refine ip_wtake ?_
    walk_at "mirn"
    rw [c1, c2]
    exact fin { t with lo := lo, hi := some m } _ rfl
theorem F_M_ior_eq {n c : Int} {xs ys : List Tm} (hs : xs.length + ys.length ≤ 10000) : F_M_ior [stiD n (xs.map Tm.d) 0, stiD n (ys.map Tm.d) c] = .ok ((xs ++ ys).map Tm.d) := by
  refine ip_eq ?_
  show Ip (g_M_ior [some (.im (stiD n (xs.map Tm.d) 0)), some (.im (stiD n (ys.map Tm.d) c))]) _
  unfold g_M_ior
  refine ip_wcons ?_
  walk_at "mirn"
  refine es_if ?_
  walk_at "mirn"
  refine ff_of (by simp) ?_
  walk_at "mirn"
  refine ip_wtake ?_
  walk_at "mirn"
  refine ev_o (addD_tms _ _ (by omega)) ?_
  exact ⟨_, rfl, noDct_tms _, rfl⟩
/-- a term for n places, small -/
structure T51 (n : Int) (t : Tm) : Prop where
  ok : t.ok n
  lo : t.lo ≤ 2
theorem F_law_new_term_eq {p n : Int} (hp : 0 ≤ p) (h1 : 1 ≤ n) (h2 : n ≤ 9) : ∃ t p', 0 ≤ p' ∧ T51 n t ∧ F_law_new_term [.ow [.int p], .im (.int n)] = .ok (t.d, [.ow [.int p'], .im (.int n)]) := by
  suffices h : Ev (F_law_new_term [.ow [.int p], .im (.int n)]) (fun x s => ∃ t p', x = Tm.d t ∧ 0 ≤ p' ∧ T51 n t ∧ s = [.ow [.int p'], .im (.int n)]) fun _ _ => False by
    obtain ⟨x, s, e, t, p', rfl, h, k, rfl⟩ := ev_eq h; exact ⟨t, p', h, k, e⟩
  refine ev_fun ?_
  unfold g_law_new_term
  walk_at "mir"
  refine ev_of (F_law_take_eq (p := p) (k := n) (by omega) (by omega)) ?_
  walk_at "mir"
  have a0 := Int.emod_nonneg p (show n ≠ 0 by omega)
  have a1 := Int.emod_lt_of_pos p (show 0 < n by omega)
  have p1 : 0 ≤ p / n := Int.ediv_nonneg hp (by omega)
  generalize p / n = p1v at p1 ⊢
  generalize p % n = av at a0 a1 ⊢
  refine ev_of (F_law_take_eq (p := p1v) (k := n) (by omega) (by omega)) ?_
  walk_at "mir"
  have b0 := Int.emod_nonneg p1v (show n ≠ 0 by omega)
  have b1 := Int.emod_lt_of_pos p1v (show 0 < n by omega)
  have p2 : 0 ≤ p1v / n := Int.ediv_nonneg p1 (by omega)
  generalize p1v / n = p2v at p2 ⊢
  generalize p1v % n = bv at b0 b1 ⊢
  refine ev_of (F_law_take_eq (p := p2v) (k := 3) (by omega) (by omega)) ?_
  walk_at "mir"
  have c0 := Int.emod_nonneg p2v (show (3 : Int) ≠ 0 by omega)
  have c1 := Int.emod_lt_of_pos p2v (show (0 : Int) < 3 by omega)
  have p3 : 0 ≤ p2v / 3 := Int.ediv_nonneg p2 (by omega)
  generalize p2v / 3 = p3v at p3 ⊢
  generalize p2v % 3 = cv at c0 c1 ⊢
  refine ev_of (F_law_take_eq (p := p3v) (k := 3) (by omega) (by omega)) ?_
  walk_at "mir"
  have d0 := Int.emod_nonneg p3v (show (3 : Int) ≠ 0 by omega)
  have p4 : 0 ≤ p3v / 3 := Int.ediv_nonneg p3 (by omega)
  generalize p3v / 3 = p4v at p4 ⊢
  generalize p3v % 3 = dv at d0 ⊢
  refine ev_of (F_law_take_eq (p := p4v) (k := 2) (by omega) (by omega)) ?_
  walk_at "mir"
  have e0 := Int.emod_nonneg p4v (show (2 : Int) ≠ 0 by omega)
  have e1 := Int.emod_lt_of_pos p4v (show (0 : Int) < 2 by omega)
  have p5 : 0 ≤ p4v / 2 := Int.ediv_nonneg p4 (by omega)
  generalize p4v / 2 = p5v at p5 ⊢
  generalize p4v % 2 = ev at e0 e1 ⊢
  rcases (show ev = 0 ∨ ev = 1 by omega) with rfl | rfl
  · walk_at "mir"
    exact ⟨⟨av, 1 + bv, cv, none⟩, p5v, rfl, p5, ⟨⟨a0, a1, by show 1 ≤ 1 + bv; omega, by show 1 + bv ≤ n; omega, c0, fun h e => nomatch e⟩, by show cv ≤ 2; omega⟩, rfl⟩
  · walk_at "mir"
    exact ⟨⟨av, 1 + bv, cv, some dv⟩, p5v, rfl, p5, ⟨⟨a0, a1, by show 1 ≤ 1 + bv; omega, by show 1 + bv ≤ n; omega, c0, fun h e => by cases e; exact d0⟩, by show cv ≤ 2; omega⟩, rfl⟩
theorem es_ins {N : En → Prop} {P : D → En → Prop} {B C : En → Prop} {E : Exn → En → Prop} {env : En} {f g : EF} {i : Nat} {ds0 : List D} (hi : env[i]? = some (some (.ow ds0)))
    (q : Ev (g env) (fun k e => Ev (f e) (fun d e => ∃ ds, e[i]? = some (some (.ow ds)) ∧ ∃ n : Int, k = .int n ∧ ds.length < sizeLine ∧ 0 ≤ n ∧ n < 2 ^ 63 ∧ N (e.set i (some (.ow (insD ds n.toNat d))))) E) E) : Es (sIns i g f env) N P B C E := by
  unfold sIns
  rw [hi]
  refine es_bind (ev_imp1 q fun k e q => es_bind (ev_imp1 q fun d e q => ?_))
  obtain ⟨ds, he, n, rfl, h1, h2, h3, q⟩ := q
  simp only [he]
  rw [if_pos ⟨h1, h2, h3⟩]
  exact ⟨q⟩
theorem F_law_order_of_eq {p : Int} {k : Nat} (hp : 0 ≤ p) (hk : k ≤ 100) : ∃ (L : List Int) (p' : Int), 0 ≤ p' ∧ L.length = k ∧ (∀ x ∈ L, 0 ≤ x ∧ x < k) ∧ F_law_order_of [.ow [.int p], .im (.int k)] = .ok (.list (L.map .int), [.ow [.int p'], .im (.int k)]) := by
  suffices h : Ev (F_law_order_of [.ow [.int p], .im (.int k)]) (fun x s => ∃ (L : List Int) (p' : Int), x = .list (L.map .int) ∧ 0 ≤ p' ∧ L.length = k ∧ (∀ x ∈ L, 0 ≤ x ∧ x < k) ∧ s = [.ow [.int p'], .im (.int k)]) fun _ _ => False by
    obtain ⟨x, s, e, L, p', rfl, h1, h2, h3, rfl⟩ := ev_eq h; exact ⟨L, p', h1, h2, h3, e⟩
  refine ev_fun ?_
  unfold g_law_order_of
  walk_at "mirn"
  refine es_forK (fun j e => ∃ (L : List Int) (p' : Int) (c : Option Sl), 0 ≤ p' ∧ L.length = j ∧ (∀ x ∈ L, 0 ≤ x ∧ x < j) ∧ e = [some (.ow [.int p']), some (.im (.int k)), some (.ow (L.map .int)), c]) ⟨[], p, none, hp, rfl, (fun x h => nomatch h), rfl⟩ ?_ ?_
  · rintro j d e hj ⟨L, p', c, h1, h2, h3, rfl⟩
    obtain ⟨hj, rfl⟩ := rangeL_get hj
    have hj : j < k := by omega
    rw [Int.zero_add]
    walk_at "mirn"
    refine es_ins rfl ?_
    walk_at "mirn"
    refine ev_of (F_law_take_eq (p := p') (k := (j : Int) + 1) (by omega) (by omega)) ?_
    have a0 := Int.emod_nonneg p' (show (j : Int) + 1 ≠ 0 by omega)
    have a1 := Int.emod_lt_of_pos p' (show (0 : Int) < (j : Int) + 1 by omega)
    have p1 : 0 ≤ p' / ((j : Int) + 1) := Int.ediv_nonneg h1 (by omega)
    generalize p' / ((j : Int) + 1) = p1v at p1 ⊢
    generalize p' % ((j : Int) + 1) = a at a0 a1 ⊢
    walk_at "mirn"
    refine ⟨?_, a0, by omega, L.take a.toNat ++ (j : Int) :: L.drop a.toNat, p1v, some (.im (.int j)), p1, ?_, ?_, ?_⟩
    · exact Nat.lt_of_succ_le (sizeLine_lt _ (by rw [List.length_map]; omega))
    · rw [List.length_append, List.length_cons, List.length_take, List.length_drop]; omega
    · intro x hx
      rcases List.mem_append.mp hx with hx | hx
      · have := h3 x (List.mem_of_mem_take hx)
        exact ⟨this.1, by omega⟩
      · rcases List.mem_cons.mp hx with rfl | hx
        · exact ⟨by omega, by omega⟩
        · have := h3 x (List.mem_of_mem_drop hx)
          exact ⟨this.1, by omega⟩
    · unfold insD
      rw [List.map_append, List.map_cons, List.map_take, List.map_drop, List.append_assoc]
      rfl
  · rintro e ⟨L, p', c, h1, h2, h3, rfl⟩
    rw [rangeL_length] at h2 h3
    rw [Int.toNat_natCast] at h2 h3
    walk_at "mirn"
    exact ⟨L, p', rfl, h1, h2, h3, rfl⟩
theorem es_rem {N : En → Prop} {P : D → En → Prop} {B C : En → Prop} {E : Exn → En → Prop} {env : En} {f : EF} {i : Nat} {ds0 : List D} (hi : env[i]? = some (some (.ow ds0)))
    (q : Ev (f env) (fun d e => ∃ ds, e[i]? = some (some (.ow ds)) ∧ (SeqAt.shaped (.list ds) && SeqAt.shaped d) = true ∧ ∃ j, (ds.findIdx? fun w => PyData.eqv w d) = some j ∧ N (e.set i (some (.ow (ds.eraseIdx j))))) E) : Es (sRem i f env) N P B C E := by
  unfold sRem
  rw [hi]
  refine es_bind (ev_imp1 q fun d e q => ?_)
  obtain ⟨ds, he, h1, j, h2, q⟩ := q
  simp only [he]
  rw [if_pos h1, h2]
  exact ⟨q⟩
theorem F_law_alike_eq {xs ys : List Tm} (hx : xs.length ≤ 1000) (hy : ys.length ≤ 1000) : ∃ s, F_law_alike [.im (.list (xs.map Tm.d)), .im (.list (ys.map Tm.d))] = .ok (.bool (decide (xs.Perm ys)), s) := by
  suffices h : Ev (F_law_alike [.im (.list (xs.map Tm.d)), .im (.list (ys.map Tm.d))]) (fun x s => x = .bool (decide (xs.Perm ys))) fun _ _ => False by
    obtain ⟨x, s, e, rfl⟩ := ev_eq h; exact ⟨s, e⟩
  refine ev_fun ?_
  unfold g_law_alike
  walk_at "mirn"
  generalize hX : PyData.list (xs.map Tm.d) = X
  generalize hY : PyData.list (ys.map Tm.d) = Y
  refine es_forK (fun j e => ∃ (r : List Tm) (c : Option Sl), (xs.Perm ys ↔ (xs.drop j).Perm r) ∧ e = [some (.im X), some (.im Y), some (.ow (r.map Tm.d)), c]) ⟨ys, none, by rw [List.drop_zero], rfl⟩ ?_ ?_
  · rintro j d e hj ⟨r, c, h1, rfl⟩
    rw [List.getElem?_map, Option.map_eq_some_iff] at hj
    obtain ⟨t, hj, rfl⟩ := hj
    rw [List.getElem?_eq_some_iff] at hj
    obtain ⟨hl, hj⟩ := hj
    rw [List.drop_eq_getElem_cons hl, hj] at h1
    walk_at "mirn"
    refine es_if ?_
    refine ev_lend rfl ?_
    show Ev (fBool (fOp notinD (fVar 3) (fVar 2)) [some (.im X), some (.im Y), some (.im (.list (r.map Tm.d))), some (.im t.d)]) _ _
    walk_at "mirn"
    refine ev_o (notinD_tms _ _) ?_
    walk_at "mirn"
    by_cases hm : t ∈ r
    · refine ff_of (by simp [hm]) ?_
      walk_at "mirn"
      refine es_rem rfl ?_
      walk_at "mirn"
      obtain ⟨i, f1, f2⟩ := find_tms t r hm
      refine ⟨by rw [sh_tms, sh_tm]; rfl, i, f1, r.erase t, some (.im t.d), ?_, by rw [f2]; rfl⟩
      rw [h1]
      constructor
      · intro h
        have := h.trans (List.perm_cons_erase hm)
        exact List.Perm.cons_inv this
      · intro h
        exact (h.cons t).trans (List.perm_cons_erase hm).symm
    · refine tt_of (by simp [hm]) ?_
      walk_at "mirn"
      rw [decide_eq_false]
      intro h
      exact hm ((h1.1 h).subset (List.mem_cons_self ..))
  · rintro e ⟨r, c, h1, rfl⟩
    rw [List.length_map, List.drop_length] at h1
    walk_at "mirn"
    refine ev_o (eqD_tms r []) ?_
    congr 1
    rw [decide_eq_decide, h1]
    constructor
    · rintro rfl; exact .nil
    · intro h; exact List.nil_perm.mp h
theorem listSD_eq {m c : Int} {ds : List D} (h : ds.length < 1000000) : listSD [stiD m ds c] = some (.list ds) := if_pos h
theorem F_law_pair_good_eq {n c c' : Int} {xs ys : List Tm} (hx : xs.length ≤ 1000) (hy : ys.length ≤ 1000) : ∃ s, F_law_pair_good [.im (stiD n (xs.map Tm.d) c), .im (stiD n (ys.map Tm.d) c'), .im (.list (xs.map Tm.d)), .im (.list (ys.map Tm.d))] = .ok (.bool true, s) := by
  suffices h : Ev (F_law_pair_good [.im (stiD n (xs.map Tm.d) c), .im (stiD n (ys.map Tm.d) c'), .im (.list (xs.map Tm.d)), .im (.list (ys.map Tm.d))]) (fun x s => x = .bool true) fun _ _ => False by
    obtain ⟨x, s, e, rfl⟩ := ev_eq h; exact ⟨s, e⟩
  obtain ⟨s1, e1⟩ := F_law_alike_eq hx hy
  have q1 := eqX_tms (n := n) (m := n) (c := c) (c' := c') (xs := xs) (ys := ys) (by omega)
  have q2 := eqX_tms (n := n) (m := n) (c := c') (c' := c) (xs := ys) (ys := xs) (by omega)
  have q3 := eqX_tms (n := n) (m := n) (c := c) (c' := c) (xs := xs) (ys := xs) (by omega)
  have q4 := neX_tms (n := n) (m := n) (c := c) (c' := c') (xs := xs) (ys := ys) (by omega)
  have l1 := listSD_eq (m := n) (c := c) (ds := xs.map Tm.d) (by rw [List.length_map]; omega)
  have l2 := listSD_eq (m := n) (c := c') (ds := ys.map Tm.d) (by rw [List.length_map]; omega)
  have r1 := eqD_tms xs xs
  have r2 := eqD_tms ys ys
  rw [decide_eq_true rfl] at r1 r2
  rw [show decide (n = n ∧ xs.Perm xs) = true from decide_eq_true ⟨rfl, .refl _⟩] at q3
  rw [show decide (n = n ∧ ys.Perm xs) = decide (xs.Perm ys) by
    rw [decide_eq_decide]; exact ⟨fun h => h.2.symm, fun h => ⟨rfl, h.symm⟩⟩] at q2
  rw [show decide (n = n ∧ xs.Perm ys) = decide (xs.Perm ys) by
    rw [decide_eq_decide]; exact ⟨fun h => h.2, fun h => ⟨rfl, h⟩⟩] at q1 q4
  generalize decide (xs.Perm ys) = due at e1 q1 q2 q4
  generalize PyData.list (xs.map Tm.d) = LX at e1 l1 r1 ⊢
  generalize PyData.list (ys.map Tm.d) = LY at e1 l2 r2 ⊢
  generalize stiD n (xs.map Tm.d) c = X at q1 q2 q3 q4 l1 ⊢
  generalize stiD n (ys.map Tm.d) c' = Y at q1 q2 q4 l2 ⊢
  refine ev_fun ?_
  unfold g_law_pair_good
  walk_at "mirn"
  refine ev_of e1 ?_
  rw [back_ims rfl]
  walk_at "mirn"
  refine ev_o q1 ?_
  walk_at "mirn"
  refine ev_o q2 ?_
  walk_at "mirn"
  refine ev_o q3 ?_
  walk_at "mirn"
  refine es_if ?_
  walk_at "mirn"
  refine ff_of (by cases due <;> rfl) ?_
  walk_at "mirn"
  refine ev_lc (b := fun _ => false) (v := id) (P0 := fun _ _ => True) ?_
  walk_at "mirn"
  refine ⟨rfl, sz_le (Nat.le_of_ble_eq_true rfl), fun d hd => ?_, ?_⟩
  · have hb : ∃ b, d = .bool b := by
      simp only [List.mem_cons, List.not_mem_nil, or_false] at hd
      rcases hd with rfl | rfl | rfl <;> exact ⟨_, rfl⟩
    obtain ⟨b, rfl⟩ := hb
    walk_at "mirn"
    exact ⟨rfl, fun h => (nomatch h), fun _ => ⟨rfl, rfl⟩⟩
  · rw [List.filter_eq_nil_iff.mpr (by simp), List.map_nil]
    walk_at "mirn"
    refine ff_of rfl ?_
    walk_at "mirn"
    refine ev_o q4 ?_
    walk_at "mirn"
    refine tt_of (by cases due <;> rfl) ?_
    walk_at "mirn"
    refine ev_o l1 ?_
    walk_at "mirn"
    refine ev_o r1 ?_
    walk_at "mirn"
    refine ev_o l2 ?_
    walk_at "mirn"
    refine ev_o r2 ?_
    walk_at "mirn"
    rfl
theorem nw_at {h : NF} {w w' : Wo} {N : Wo → Prop} {P : D → Wo → Prop} {O : Nat → Wo → Prop} (e : w = w') (q : Nw (h w') N P O) : Nw (h w) N P O := by rw [e]; exact q
theorem ew_at {α : Type} {h : Wo → R Wo (α × Wo)} {w w' : Wo} {Q : α → Wo → Prop} {E : Exn → Wo → Prop} (e : w = w') (q : Ev (h w') Q E) : Ev (h w) Q E := by rw [e]; exact q
theorem ev_mkZ1 {F : List D → R En (Int × List D)} {g : En → R En (List D × En)} {env : En} {Q : D → En → Prop} {E : Exn → En → Prop} (q : Ev (g env) (fun a e => ∃ r, F a = .ok r ∧ Q (stiD r.1 r.2 (-1)) e) E) : Ev (fMkZ F g env) Q E := by
  refine ev_bind (ev_imp1 q fun a e q => ?_)
  obtain ⟨r, h, q⟩ := q
  show Ev (match F a with
    | .ok r => .ok (stiD r.1 r.2 (-1), e)
    | .err x _ => .err x e
    | .stuck => .stuck) Q E
  rw [h]
  exact ⟨q⟩
theorem rot_ok {n k : Int} {t : Tm} (h : t.ok n) : (rotT n k t).ok n := by
  have h0 := h.s0
  have h1 := h.s1
  exact ⟨Int.emod_nonneg _ (by omega), Int.emod_lt_of_pos _ (by omega), h.l0, h.l1, h.lo0, h.hi0⟩
theorem rot_oks {n k : Int} {ts : List Tm} (h : ∀ t ∈ ts, t.ok n) : ∀ t ∈ ts.map (rotT n k), t.ok n := by
  intro t ht
  obtain ⟨u, hu, rfl⟩ := List.mem_map.mp ht
  exact rot_ok (h u hu)
theorem okL (ts : List Tm) : noDct (.list (ts.map Tm.d)) = true := noDct_tms ts
theorem back_tms (ts : List Tm) : backD (.list (ts.map Tm.d)) = some (.list (ts.reverse.map Tm.d)) := by
  show some (PyData.list (ts.map Tm.d).reverse) = _
  rw [List.map_reverse]
theorem neD_bb (a : Bool) : neD (.bool a) (.bool a) = some (.bool false) := by cases a <;> rfl
theorem F_law_turns_good_eq {n : Int} {ts : List Tm} {ps : List (List D)} (h1 : 1 ≤ n) (h2 : n ≤ 40) (ht : ∀ t ∈ ts, t.ok n) (hs : ts.length ≤ 1000) (hp : ps.length < 900) :
    F_law_turns_good ⟨[some (.im (.int n)), none, some (.im (.list (ts.map Tm.d)))], [⟨n, ts.map Tm.d, ps⟩], [(1, 0)]⟩ = .ok (.d (.bool true), ⟨[some (.im (.int n)), none, some (.im (.list (ts.map Tm.d)))], [⟨n, ts.map Tm.d, ps⟩], []⟩) := by
  refine runN_d ?_
  have hL := okL ts
  have i0 := init_list h1 h2 ht (by omega)
  have nd := noDct_tms ts
  have alk : ∀ k : Int, ∃ s, F_law_alike [.im (.list ((ts.map (rotT n k)).map Tm.d)), .im (.list (ts.map Tm.d))] = .ok (.bool (decide ((ts.map (rotT n k)).Perm ts)), s) := fun k => F_law_alike_eq (by rw [List.length_map]; omega) hs
  have lcm : ∀ (k : Int), (ts.map Tm.d).map (fun d => match d with
    | .tuple [.int a, b, c, e] => .tuple [.int ((a + k) % n), b, c, e]
    | _ => .none) = (ts.map (rotT n k)).map Tm.d := fun k => by
    rw [List.map_map, List.map_map]; rfl
  generalize hLL : PyData.list (ts.map Tm.d) = L at hL i0 alk
  refine nw_seq ?_
  refine nw_at (w' := ⟨[some (.im (.int n)), none, some (.im L), none, none, none, none], [⟨n, ts.map Tm.d, ps⟩], [(1, 0)]⟩) rfl ?_
  refine nw_for (by simp [okSl, hL, noDct]) ?_
  walk_at "mirn"
  refine nw_forF (k0 := 0) (fun j w => ∃ c3 c4 : Option Sl, ownOk [c3, c4] = true ∧ w = ⟨[some (.im (.int n)), none, some (.im L), c3, c4, none, none], [⟨n, ts.map Tm.d, ps⟩], [(1, 0)]⟩) ⟨none, none, rfl, rfl⟩ ?_ ?_
  · rintro j d w hj ⟨c3, c4, o3, rfl⟩
    have hk : ∃ k : Int, d = .int k := by
      have := List.mem_of_getElem? hj
      simp only [List.mem_cons, List.not_mem_nil, or_false] at this
      rcases this with rfl | rfl | rfl <;> exact ⟨_, rfl⟩
    obtain ⟨k, rfl⟩ := hk
    have it := init_list h1 h2 (rot_oks (k := k) ht) (by rw [List.length_map]; omega)
    have ir := init_list h1 h2 (ts := (ts.map (rotT n k)).reverse) (fun t h => rot_oks (k := k) ht t (List.mem_reverse.mp h)) (by rw [List.length_reverse, List.length_map]; omega)
    have tu := F_M_turn_eq (n := n) (k := k) (ts := ts) h1 (by omega) h2
    have bk := back_tms (ts.map (rotT n k))
    have oR := okL (ts.map (rotT n k))
    have lR : (ts.map (rotT n k)).length ≤ 10000 := by rw [List.length_map]; omega
    obtain ⟨s1, a1⟩ := alk k
    have lcm := lcm k
    have ndR := noDct_tms (ts.map (rotT n k))
    have pR : ∀ rs : List Tm, decide (n = n ∧ rs.Perm rs.reverse) = true := fun rs => decide_eq_true ⟨rfl, (List.reverse_perm rs).symm⟩
    generalize ts.map (rotT n k) = rs at *
    generalize hRL : PyData.list (rs.map Tm.d) = LR at it bk oR a1
    refine ev_o rfl ?_
    refine nw_at (w' := ⟨[some (.im (.int n)), none, some (.im L), some (.im (.int k)), c4, none, none], [⟨n, ts.map Tm.d, ps⟩], [(1, 0)]⟩) rfl ?_
    refine nw_seq ?_
    refine nw_S (v := [some (.im (.int n)), some (.im (stiD n (ts.map Tm.d) ps.length)), some (.im L), some (.im (.int k)), c4, none, none]) rfl ?_
    walk_at "mirn"
    refine ev_lcm (v := fun d => match d with
      | .tuple [.int a, b, c, e] => .tuple [.int ((a + k) % n), b, c, e]
      | _ => .none) ?_
    walk_at "mirn"
    refine ev_o (r := ts.map Tm.d) (by rw [← hLL]; rfl) ?_
    refine ⟨rfl, ?_, fun d hd => ?_, ?_⟩
    · rw [List.length_map]; exact sz_le (by omega)
    · obtain ⟨t, hk, rfl⟩ := List.mem_map.mp hd
      show EvO (tN 6 (.tuple [.int t.s, .int t.l, .int t.lo, oI t.hi]) _) _
      walk_at "mirn"
      exact ⟨rfl, rfl, rfl⟩
    rw [lcm, hRL]
    refine nw_at (w' := ⟨[some (.im (.int n)), none, some (.im L), some (.im (.int k)), some (.im LR), none, none], [⟨n, ts.map Tm.d, ps⟩], [(1, 0)]⟩) rfl ?_
    refine nw_seq ?_
    refine nw_bnd (ow_mk (v := [some (.im (.int n)), some (.im (stiD n (ts.map Tm.d) ps.length)), some (.im L), some (.im (.int k)), some (.im LR), none, none]) rfl ?_)
    walk_at "mirn"
    refine ⟨_, i0, nd, ?_⟩
    refine nw_at (w' := ⟨[some (.im (.int n)), none, some (.im L), some (.im (.int k)), some (.im LR), none, none], [⟨n, ts.map Tm.d, ps⟩, ⟨n, ts.map Tm.d, []⟩], [(5, 1), (1, 0)]⟩) rfl ?_
    have ok1 : ([some (Sl.im (PyData.int n)), none, some (.im L), some (.im (.int k)), some (.im LR), none, none] : En).all okSl = true := by simp [okSl, hL, oR, noDct]
    refine nw_seq ?_
    refine nw_if ?_
    refine ew_or (ew_bool (ew_cmp ?_))
    refine ew_wr (v := [some (.im (.int n)), some (.im (stiD n (ts.map Tm.d) ps.length)), some (.im L), some (.im (.int k)), some (.im LR), some (.im (stiD n (ts.map Tm.d) 0)), none]) (k := 0) rfl rfl ?_
    walk_at "mirn"
    refine ⟨_, _, rfl, ok1, by show ps.length < 1000; omega, tu, ndR, rfl, ?_⟩
    refine ew_at (w' := ⟨[some (.im (.int n)), none, some (.im L), some (.im (.int k)), some (.im LR), none, none], [⟨n, rs.map Tm.d, ps ++ [ts.map Tm.d]⟩, ⟨n, ts.map Tm.d, []⟩], [(5, 1), (1, 0)]⟩) rfl ?_
    refine ew_E (v := [some (.im (.int n)), some (.im (stiD n (rs.map Tm.d) (ps ++ [ts.map Tm.d]).length)), some (.im L), some (.im (.int k)), some (.im LR), some (.im (stiD n (ts.map Tm.d) 0)), none]) rfl ?_
    walk_at "mirn"
    refine ew_or ?_
    refine ew_T (v := [some (.im (.int n)), some (.im (stiD n (rs.map Tm.d) (ps ++ [ts.map Tm.d]).length)), some (.im L), some (.im (.int k)), some (.im LR), some (.im (stiD n (ts.map Tm.d) 0)), none]) rfl ?_
    walk_at "mirn"
    refine ev_mkZ1 ?_
    walk_at "mirn"
    refine ⟨_, it, ?_⟩
    refine ev_o (eqX_tms lR) ?_
    walk_at "mirn"
    refine ff_of (by simp) ?_
    refine ew_T (v := [some (.im (.int n)), some (.im (stiD n (rs.map Tm.d) (ps ++ [ts.map Tm.d]).length)), some (.im L), some (.im (.int k)), some (.im LR), some (.im (stiD n (ts.map Tm.d) 0)), none]) rfl ?_
    walk_at "mirn"
    refine ev_mkZ1 ?_
    walk_at "mirn"
    refine ev_o bk ?_
    walk_at "mirn"
    refine ⟨_, ir, ?_⟩
    refine ev_o (neX_tms lR) ?_
    rw [pR]
    walk_at "mirn"
    refine nw_nil ?_
    refine nw_at (w' := ⟨[some (.im (.int n)), none, some (.im L), some (.im (.int k)), some (.im LR), none, none], [⟨n, rs.map Tm.d, ps ++ [ts.map Tm.d]⟩, ⟨n, ts.map Tm.d, []⟩], [(5, 1), (1, 0)]⟩) rfl ?_
    refine nw_if ?_
    refine ew_or ?_
    refine ew_T (v := [some (.im (.int n)), some (.im (stiD n (rs.map Tm.d) (ps ++ [ts.map Tm.d]).length)), some (.im L), some (.im (.int k)), some (.im LR), some (.im (stiD n (ts.map Tm.d) 0)), none]) rfl ?_
    walk_at "mirn"
    refine ev_o (eqX_tms lR) ?_
    rw [show decide (n = n ∧ rs.Perm ts) = decide (rs.Perm ts) by
      rw [decide_eq_decide]; exact ⟨fun h => h.2, fun h => ⟨rfl, h⟩⟩]
    walk_at "mirn"
    refine ev_of a1 ?_
    rw [back_ims rfl]
    refine ev_o (neD_bb _) ?_
    walk_at "mirn"
    refine ew_or (ew_bool (ew_cmp ?_))
    refine ew_at (w' := ⟨[some (.im (.int n)), none, some (.im L), some (.im (.int k)), some (.im LR), none, none], [⟨n, rs.map Tm.d, ps ++ [ts.map Tm.d]⟩, ⟨n, ts.map Tm.d, []⟩], [(5, 1), (1, 0)]⟩) rfl ?_
    refine ew_bk (k := 0) rfl rfl rfl ok1 ⟨rfl, ?_⟩
    refine ew_at (w' := ⟨[some (.im (.int n)), none, some (.im L), some (.im (.int k)), some (.im LR), none, none], [⟨n, ts.map Tm.d, ps⟩, ⟨n, ts.map Tm.d, []⟩], [(5, 1), (1, 0)]⟩) rfl ?_
    refine ew_E (v := [some (.im (.int n)), some (.im (stiD n (ts.map Tm.d) ps.length)), some (.im L), some (.im (.int k)), some (.im LR), some (.im (stiD n (ts.map Tm.d) 0)), none]) rfl ?_
    walk_at "mirn"
    refine ff_of rfl ?_
    refine ew_T (v := [some (.im (.int n)), some (.im (stiD n (ts.map Tm.d) ps.length)), some (.im L), some (.im (.int k)), some (.im LR), some (.im (stiD n (ts.map Tm.d) 0)), none]) rfl ?_
    walk_at "mirn"
    refine ev_o (neX_tms (by omega)) ?_
    rw [show decide (n = n ∧ ts.Perm ts) = true from decide_eq_true ⟨rfl, .refl _⟩]
    walk_at "mirn"
    refine nw_nil ⟨_, _, ?_, rfl⟩
    rfl
  · rintro w ⟨c3, c4, o3, rfl⟩
    refine nw_S (v := [some (.im (.int n)), some (.im (stiD n (ts.map Tm.d) ps.length)), some (.im L), c3, c4, none, none]) rfl ?_
    walk_at "mirn"
    exact ⟨rfl, rfl, by
      show ownOk [some (.im (.int n)), none, some (.im L), c3, c4, none, none] = true
      simpa [ownOk] using o3, rfl⟩
theorem ev_gD {g : En → R En (List D × En)} {env : En} {Q : List D → En → Prop} {E : Exn → En → Prop} (q : Ev (g env) (fun as e => Q (as ++ [.tuple []]) e) E) : Ev (gDfl g env) Q E := ev_bind (ev_imp1 q fun _ _ q => ⟨q⟩)
theorem ownOk_of {e : En} (h : e.all okSl = true) : ownOk e = true := by
  unfold ownOk
  rw [List.all_eq_true] at h ⊢
  intro s hs
  have := h s hs
  revert this
  cases s with
  | none => exact fun _ => rfl
  | some s => cases s <;> first | exact fun _ => rfl | exact fun h => h
theorem rot_back {n : Int} {t : Tm} (h : t.ok n) : rotT n (-1) (rotT n 1 t) = t := by
  obtain ⟨a, b, c, d⟩ := t
  have h0 : 0 ≤ a := h.s0
  have h1 : a < n := h.s1
  show (⟨((a + 1) % n + -1) % n, b, c, d⟩ : Tm) = ⟨a, b, c, d⟩
  rw [show ((a + 1) % n + -1) % n = a by
    rw [Int.emod_add_emod, show a + 1 + -1 = a by omega]
    exact Int.emod_eq_of_lt h0 h1]
theorem rots_back {n : Int} {ts : List Tm} (h : ∀ t ∈ ts, t.ok n) : (ts.map (rotT n 1)).map (rotT n (-1)) = ts := by
  rw [List.map_map]
  conv => rhs; rw [← List.map_id ts]
  exact List.map_congr_left fun t ht => rot_back (h t ht)
def midW (n : Int) (L : D) (xs : List Tm) (b : Nat) (f : D) (w : Wo) : Prop := ∃ (p : Int) (c5 c6 : Option Sl) (past : List (List D)), 0 ≤ p ∧ [c5, c6].all okSl = true ∧ past.length ≤ b ∧ w = ⟨[some (.ow [.int p]), some (.im (.int n)), some (.im L), none, some (.im f), c5, c6], [⟨n, xs.map Tm.d, past⟩], [(3, 0)]⟩
theorem all_ok7 {p n : Int} {L f : D} {c3 c5 c6 : Option Sl} (hL : noDct L = true) (hf : noDct f = true) (h3 : okSl c3 = true) (h : [c5, c6].all okSl = true) : ([some (.ow [.int p]), some (.im (.int n)), some (.im L), c3, some (.im f), c5, c6] : En).all okSl = true := by
  simp only [List.all_cons, List.all_nil, Bool.and_true, Bool.and_eq_true] at h
  simp only [List.all_cons, List.all_nil, h.1, h.2, h3, Bool.and_true, Bool.true_and]
  simp only [okSl, noDct, noDctAll, hL, hf, Bool.and_true]
theorem noDct_tm (t : Tm) : noDct t.d = true := by
  have := noDct_tms [t]
  simpa [noDctAll] using this
/-- one turn of the loop -/
theorem laid_turn {n p : Int} {L : D} {xs : List Tm} {t : Tm} {c5 c6 : Option Sl} {past : List (List D)} {b : Nat} {P : D → Wo → Prop} {O : Nat → Wo → Prop} (h1 : 1 ≤ n) (h2 : n ≤ 40) (hx : ∀ t ∈ xs, t.ok n) (ht : t.ok n) (hl : xs.length ≤ 100) (hL : noDct L = true) (hp : 0 ≤ p) (hb : past.length ≤ b) (hb9 : b ≤ 900) (hc : [c5, c6].all okSl = true) :
    Nw (nSeq (nS (sSet 5 (fCallF 2 [0] F_law_take (cSl 0 (cIm (fC (.int 3)) (cNil)))))) (nSeq (nIf (nT (fBool (fOp eqD (fVar 5) (fC (.int 0))))) (nSeq (nExpr (nWr 3 (some fun k => ((k : Int) - 1)) F_M_put (fCons (fTup (fCons (fC (.int 0)) (fCons (fC (.int 1)) (fCons (fC (.int 0)) (fCons (fC .none) ((fun env => .ok ([], env)))))))) ((fun env => .ok ([], env)))))) (nExpr (nWr 3 none F_M_drop (fCons (fOp subD (fCall lenSD (fCons (fVar 3) ((fun env => .ok ([], env))))) (fC (.int 1))) ((fun env => .ok ([], env))))))) (nNil)) (nSeq (nSet 6 (nWr 3 (some fun k => ((k : Int) - 1)) F_M_put (fCons (fTup (fCons (fOp ixD (fVar 4) (fC (.int 0))) (fCons (fOp ixD (fVar 4) (fC (.int 1))) (fCons (fC (.int 7)) (fCons (fC .none) ((fun env => .ok ([], env)))))))) ((fun env => .ok ([], env)))))) (nSeq (nIf (nT (fBool (fOp isD (fOp ixD (fVar 4) (fC (.int 3))) (fC .none)))) (nExpr (nWr 3 none F_M_change (gKw (fun us mv ws => us ++ (ws ++ mv)) [PyData.none] (fCons (fVar 6) ((fun env => .ok ([], env)))) (fCons (fOp ixD (fVar 4) (fC (.int 2))) ((fun env => .ok ([], env))))))) (nExpr (nWr 3 none F_M_change (gKw (fun us mv ws => us ++ (mv ++ sw2 ws)) [] (fCons (fVar 6) ((fun env => .ok ([], env)))) (fCons (fOp ixD (fVar 4) (fC (.int 3))) (fCons (fOp ixD (fVar 4) (fC (.int 2))) ((fun env => .ok ([], env))))))))) (nIf (nT (fBool (fOp eqD (fVar 5) (fC (.int 1))))) (nSeq (nExpr (nWr 3 none F_M_turn (fCons (fC (.int 1)) ((fun env => .ok ([], env)))))) (nExpr (nWr 3 none F_M_turn (fCons (fUn negD (fC (.int 1))) ((fun env => .ok ([], env))))))) (nNil)))))
      ⟨[some (.ow [.int p]), some (.im (.int n)), some (.im L), none, some (.im t.d), c5, c6], [⟨n, xs.map Tm.d, past⟩], [(3, 0)]⟩) (midW n L (xs ++ [t]) (b + 6) t.d) P O := by
  have hd := noDct_tm t
  obtain ⟨ts0, tl, tlo, thi⟩ := t
  have hc6 : okSl c6 = true := by
    simp only [List.all_cons, List.all_nil, Bool.and_true, Bool.and_eq_true] at hc
    exact hc.2
  refine nw_seq ?_
  refine nw_S (v := [some (.ow [.int p]), some (.im (.int n)), some (.im L), some (.im (stiD n (xs.map Tm.d) past.length)), some (.im (Tm.d ⟨ts0, tl, tlo, thi⟩)), c5, c6]) rfl ?_
  walk_at "mirn"
  refine ev_of (F_law_take_eq (p := p) (k := 3) (by omega) (by omega)) ?_
  have p1 : 0 ≤ p / 3 := Int.ediv_nonneg hp (by omega)
  generalize p / 3 = p1v at p1 ⊢
  generalize p % 3 = way
  refine nw_at (w' := ⟨[some (.ow [.int p1v]), some (.im (.int n)), some (.im L), none, some (.im (Tm.d ⟨ts0, tl, tlo, thi⟩)), some (.im (.int way)), c6], [⟨n, xs.map Tm.d, past⟩], [(3, 0)]⟩) rfl ?_
  have okA : ∀ c, okSl c = true → ([some (.ow [.int p1v]), some (.im (.int n)), some (.im L), none, some (.im (Tm.d ⟨ts0, tl, tlo, thi⟩)), some (.im (.int way)), c] : En).all okSl = true := fun c h => all_ok7 hL hd rfl (by simp [okSl, noDct]; exact h)
  refine nw_seq (nw_imp1 (N := fun w => ∃ past', past'.length ≤ b + 2 ∧ w = ⟨[some (.ow [.int p1v]), some (.im (.int n)), some (.im L), none, some (.im (Tm.d ⟨ts0, tl, tlo, thi⟩)), some (.im (.int way)), c6], [⟨n, xs.map Tm.d, past'⟩], [(3, 0)]⟩) ?_ ?_)
  · refine nw_if ?_
    refine ew_T (v := [some (.ow [.int p1v]), some (.im (.int n)), some (.im L), some (.im (stiD n (xs.map Tm.d) past.length)), some (.im (Tm.d ⟨ts0, tl, tlo, thi⟩)), some (.im (.int way)), c6]) rfl ?_
    walk_at "mirn"
    refine ⟨fun _ => ?_, fun _ => nw_nil ⟨past, by omega, rfl⟩⟩
    refine nw_at (w' := ⟨[some (.ow [.int p1v]), some (.im (.int n)), some (.im L), none, some (.im (Tm.d ⟨ts0, tl, tlo, thi⟩)), some (.im (.int way)), c6], [⟨n, xs.map Tm.d, past⟩], [(3, 0)]⟩) rfl ?_
    refine nw_seq (nw_expr ?_)
    refine ew_wr (v := [some (.ow [.int p1v]), some (.im (.int n)), some (.im L), some (.im (stiD n (xs.map Tm.d) past.length)), some (.im (Tm.d ⟨ts0, tl, tlo, thi⟩)), some (.im (.int way)), c6]) (k := 0) rfl rfl ?_
    walk_at "mirn"
    have pu := F_M_put_eq (n := n) (ts := xs) (t := ⟨0, 1, 0, none⟩) ⟨by decide, by show (0 : Int) < n; omega, by decide, h1, by decide, fun _ h => nomatch h⟩ (by omega)
    refine ⟨_, _, rfl, okA _ hc6, by show past.length < 1000; omega, pu, noDct_tms _, ?_⟩
    refine nw_at (w' := ⟨[some (.ow [.int p1v]), some (.im (.int n)), some (.im L), none, some (.im (Tm.d ⟨ts0, tl, tlo, thi⟩)), some (.im (.int way)), c6], [⟨n, (xs ++ [(⟨0, 1, 0, none⟩ : Tm)]).map Tm.d, past ++ [xs.map Tm.d]⟩], [(3, 0)]⟩) rfl ?_
    refine nw_expr ?_
    refine ew_wr (v := [some (.ow [.int p1v]), some (.im (.int n)), some (.im L), some (.im (stiD n ((xs ++ [(⟨0, 1, 0, none⟩ : Tm)]).map Tm.d) (past ++ [xs.map Tm.d]).length)), some (.im (Tm.d ⟨ts0, tl, tlo, thi⟩)), some (.im (.int way)), c6]) (k := 0) rfl rfl ?_
    walk_at "mirn"
    refine ev_o (lenSD_eq (by rw [List.length_map, List.length_append]; simp; omega)) ?_
    walk_at "mirn"
    have dr := F_M_drop_at (n := n) (xs := xs) (ys := []) (t := ⟨0, 1, 0, none⟩) (k := (((xs ++ [(⟨0, 1, 0, none⟩ : Tm)]).map Tm.d).length : Int) - 1) (by rw [List.length_map, List.length_append]; simp) (by simp; omega)
    rw [List.append_nil] at dr
    refine ⟨_, _, rfl, okA _ hc6, ?_, dr, noDct_tms _, ?_⟩
    · show (past ++ [xs.map Tm.d]).length < 1000
      rw [List.length_append]; simp; omega
    · refine ⟨past ++ [xs.map Tm.d] ++ [(xs ++ [(⟨0, 1, 0, none⟩ : Tm)]).map Tm.d], ?_, rfl⟩
      simp only [List.length_append, List.length_cons, List.length_nil]; omega
  rintro w ⟨past1, hb1, rfl⟩
  refine nw_seq (nw_set ?_)
  refine ew_wr (v := [some (.ow [.int p1v]), some (.im (.int n)), some (.im L), some (.im (stiD n (xs.map Tm.d) past1.length)), some (.im (Tm.d ⟨ts0, tl, tlo, thi⟩)), some (.im (.int way)), c6]) (k := 0) rfl rfl ?_
  walk_at "mirn"
  have pu := F_M_put_eq (n := n) (ts := xs) (t := ⟨ts0, tl, 7, none⟩) ⟨ht.s0, ht.s1, ht.l0, ht.l1, by show (0 : Int) ≤ 7; decide, fun _ h => nomatch h⟩ (by omega)
  refine ⟨_, _, rfl, okA _ hc6, by show past1.length < 1000; omega, pu, noDct_tms _, ?_⟩
  have eN : retD (some fun k => ((k : Int) - 1)) ((xs ++ [(⟨ts0, tl, 7, none⟩ : Tm)]).map Tm.d).length = .int xs.length := by
    show PyData.int ((((xs ++ [(⟨ts0, tl, 7, none⟩ : Tm)]).map Tm.d).length : Int) - 1) = _
    rw [List.length_map, List.length_append]; simp
  rw [eN]
  refine nw_at (w' := ⟨[some (.ow [.int p1v]), some (.im (.int n)), some (.im L), none, some (.im (Tm.d ⟨ts0, tl, tlo, thi⟩)), some (.im (.int way)), some (.im (.int xs.length))], [⟨n, (xs ++ [(⟨ts0, tl, 7, none⟩ : Tm)]).map Tm.d, past1 ++ [xs.map Tm.d]⟩], [(3, 0)]⟩) rfl ?_
  have okB := okA (some (.im (.int xs.length))) rfl
  have pl : (past1 ++ [xs.map Tm.d]).length ≤ b + 3 := by simp only [List.length_append, List.length_cons, List.length_nil]; omega
  generalize past1 ++ [xs.map Tm.d] = past2 at pl ⊢
  refine nw_seq (nw_imp1 (N := fun w => ∃ past', past'.length ≤ b + 4 ∧ w = ⟨[some (.ow [.int p1v]), some (.im (.int n)), some (.im L), none, some (.im (Tm.d ⟨ts0, tl, tlo, thi⟩)), some (.im (.int way)), some (.im (.int xs.length))], [⟨n, (xs ++ [(⟨ts0, tl, tlo, thi⟩ : Tm)]).map Tm.d, past'⟩], [(3, 0)]⟩) ?_ ?_)
  · have ch := F_M_change_at (n := n) (lo := tlo) (xs := xs) (ys := []) (t := ⟨ts0, tl, 7, none⟩) (k := xs.length) (mo := thi) rfl ht.lo0 ht.hi0 (by simp; omega)
    have pl3 : (past2 ++ [(xs ++ [(⟨ts0, tl, 7, none⟩ : Tm)]).map Tm.d]).length ≤ b + 4 := by simp only [List.length_append, List.length_cons, List.length_nil]; omega
    refine nw_if ?_
    refine ew_T (v := [some (.ow [.int p1v]), some (.im (.int n)), some (.im L), some (.im (stiD n ((xs ++ [(⟨ts0, tl, 7, none⟩ : Tm)]).map Tm.d) past2.length)), some (.im (Tm.d ⟨ts0, tl, tlo, thi⟩)), some (.im (.int way)), some (.im (.int xs.length))]) rfl ?_
    cases thi with
    | none =>
      walk_at "mirn"
      refine nw_at (w' := ⟨[some (.ow [.int p1v]), some (.im (.int n)), some (.im L), none, some (.im (Tm.d ⟨ts0, tl, tlo, none⟩)), some (.im (.int way)), some (.im (.int xs.length))], [⟨n, (xs ++ [(⟨ts0, tl, 7, none⟩ : Tm)]).map Tm.d, past2⟩], [(3, 0)]⟩) rfl ?_
      refine nw_expr ?_
      refine ew_wr (v := [some (.ow [.int p1v]), some (.im (.int n)), some (.im L), some (.im (stiD n ((xs ++ [(⟨ts0, tl, 7, none⟩ : Tm)]).map Tm.d) past2.length)), some (.im (Tm.d ⟨ts0, tl, tlo, none⟩)), some (.im (.int way)), some (.im (.int xs.length))]) (k := 0) rfl rfl ?_
      refine ev_gKw ?_
      walk_at "mirn"
      exact ⟨_, _, rfl, okB, by show past2.length < 1000; omega, ch, noDct_tms _, _, pl3, rfl⟩
    | some m =>
      walk_at "mirn"
      refine nw_at (w' := ⟨[some (.ow [.int p1v]), some (.im (.int n)), some (.im L), none, some (.im (Tm.d ⟨ts0, tl, tlo, some m⟩)), some (.im (.int way)), some (.im (.int xs.length))], [⟨n, (xs ++ [(⟨ts0, tl, 7, none⟩ : Tm)]).map Tm.d, past2⟩], [(3, 0)]⟩) rfl ?_
      refine nw_expr ?_
      refine ew_wr (v := [some (.ow [.int p1v]), some (.im (.int n)), some (.im L), some (.im (stiD n ((xs ++ [(⟨ts0, tl, 7, none⟩ : Tm)]).map Tm.d) past2.length)), some (.im (Tm.d ⟨ts0, tl, tlo, some m⟩)), some (.im (.int way)), some (.im (.int xs.length))]) (k := 0) rfl rfl ?_
      refine ev_gKw ?_
      walk_at "mirn"
      exact ⟨_, _, rfl, okB, by show past2.length < 1000; omega, ch, noDct_tms _, _, pl3, rfl⟩
  rintro w ⟨past3, hb3, rfl⟩
  have hx1 : ∀ u ∈ xs ++ [(⟨ts0, tl, tlo, thi⟩ : Tm)], u.ok n := by
    intro u hu
    rcases List.mem_append.mp hu with hu | hu
    · exact hx u hu
    · rw [List.mem_singleton.mp hu]; exact ht
  have lx1 : (xs ++ [(⟨ts0, tl, tlo, thi⟩ : Tm)]).length ≤ 101 := by simp only [List.length_append, List.length_cons, List.length_nil]; omega
  generalize xs ++ [(⟨ts0, tl, tlo, thi⟩ : Tm)] = xs1 at hx1 lx1 ⊢
  refine nw_if ?_
  refine ew_T (v := [some (.ow [.int p1v]), some (.im (.int n)), some (.im L), some (.im (stiD n (xs1.map Tm.d) past3.length)), some (.im (Tm.d ⟨ts0, tl, tlo, thi⟩)), some (.im (.int way)), some (.im (.int xs.length))]) rfl ?_
  walk_at "mirn"
  refine ⟨fun _ => ?_, fun _ => nw_nil ⟨p1v, _, _, past3, p1, rfl, by omega, rfl⟩⟩
  refine nw_at (w' := ⟨[some (.ow [.int p1v]), some (.im (.int n)), some (.im L), none, some (.im (Tm.d ⟨ts0, tl, tlo, thi⟩)), some (.im (.int way)), some (.im (.int xs.length))], [⟨n, xs1.map Tm.d, past3⟩], [(3, 0)]⟩) rfl ?_
  refine nw_seq (nw_expr ?_)
  refine ew_wr (v := [some (.ow [.int p1v]), some (.im (.int n)), some (.im L), some (.im (stiD n (xs1.map Tm.d) past3.length)), some (.im (Tm.d ⟨ts0, tl, tlo, thi⟩)), some (.im (.int way)), some (.im (.int xs.length))]) (k := 0) rfl rfl ?_
  walk_at "mirn"
  refine ⟨_, _, rfl, okB, by show past3.length < 1000; omega, F_M_turn_eq (n := n) (k := 1) (ts := xs1) h1 (by omega) h2, noDct_tms _, ?_⟩
  refine nw_at (w' := ⟨[some (.ow [.int p1v]), some (.im (.int n)), some (.im L), none, some (.im (Tm.d ⟨ts0, tl, tlo, thi⟩)), some (.im (.int way)), some (.im (.int xs.length))], [⟨n, (xs1.map (rotT n 1)).map Tm.d, past3 ++ [xs1.map Tm.d]⟩], [(3, 0)]⟩) rfl ?_
  refine nw_expr ?_
  refine ew_wr (v := [some (.ow [.int p1v]), some (.im (.int n)), some (.im L), some (.im (stiD n ((xs1.map (rotT n 1)).map Tm.d) (past3 ++ [xs1.map Tm.d]).length)), some (.im (Tm.d ⟨ts0, tl, tlo, thi⟩)), some (.im (.int way)), some (.im (.int xs.length))]) (k := 0) rfl rfl ?_
  walk_at "mirn"
  have tb := F_M_turn_eq (n := n) (k := -1) (ts := xs1.map (rotT n 1)) h1 (by rw [List.length_map]; omega) h2
  rw [rots_back hx1] at tb
  refine ⟨_, _, rfl, okB, ?_, tb, noDct_tms _, ?_⟩
  · show (past3 ++ [xs1.map Tm.d]).length < 1000
    simp only [List.length_append, List.length_cons, List.length_nil]; omega
  · refine ⟨p1v, _, _, past3 ++ [xs1.map Tm.d] ++ [(xs1.map (rotT n 1)).map Tm.d], p1, rfl, ?_, rfl⟩
    simp only [List.length_append, List.length_cons, List.length_nil]; omega
theorem F_law_laid_eq {n p : Int} {ts : List Tm} (h1 : 1 ≤ n) (h2 : n ≤ 40) (ht : ∀ t ∈ ts, t.ok n) (hs : ts.length ≤ 100) (hp : 0 ≤ p) :
    ∃ (o : Ost) (w' : Wo), F_law_laid ⟨[some (.ow [.int p]), some (.im (.int n)), some (.im (.list (ts.map Tm.d)))], [], []⟩ = .ok (.o o, w') ∧
      ∃ (p' : Int) (past : List (List D)), 0 ≤ p' ∧ past.length ≤ 6 * ts.length ∧ o = ⟨n, ts.map Tm.d, past⟩ ∧ w' = ⟨[some (.ow [.int p']), some (.im (.int n)), some (.im (.list (ts.map Tm.d)))], [], []⟩ := by
  refine runN_o (G := fun o w' => ∃ (p' : Int) (past : List (List D)), 0 ≤ p' ∧ past.length ≤ 6 * ts.length ∧ o = ⟨n, ts.map Tm.d, past⟩ ∧ w' = ⟨[some (.ow [.int p']), some (.im (.int n)), some (.im (.list (ts.map Tm.d)))], [], []⟩) ?_
  have i0 := F_M_init_eq (n := n) (ts := []) h1 h2 (by simp) (by simp)
  have hL := okL ts
  generalize hLL : PyData.list (ts.map Tm.d) = L at hL ⊢
  unfold g_law_laid
  refine nw_seq ?_
  refine nw_at (w' := ⟨[some (.ow [.int p]), some (.im (.int n)), some (.im L), none, none, none, none], [], []⟩) rfl ?_
  refine nw_bnd (ow_mk (v := [some (.ow [.int p]), some (.im (.int n)), some (.im L), none, none, none, none]) rfl ?_)
  refine ev_gD ?_
  walk_at "mirn"
  refine ⟨_, i0, rfl, ?_⟩
  refine nw_at (w' := ⟨[some (.ow [.int p]), some (.im (.int n)), some (.im L), none, none, none, none], [⟨n, [], []⟩], [(3, 0)]⟩) rfl ?_
  refine nw_seq ?_
  refine nw_for (by simp [okSl, hL, noDct, noDctAll]) ?_
  walk_at "mirn"
  refine ev_o (r := ts.map Tm.d) (by rw [← hLL]; rfl) ?_
  refine nw_forF (k0 := 0) (fun j w => ∃ (p : Int) (c4 c5 c6 : Option Sl) (past : List (List D)), 0 ≤ p ∧ okSl c4 = true ∧ [c5, c6].all okSl = true ∧ past.length ≤ 6 * j ∧ w = ⟨[some (.ow [.int p]), some (.im (.int n)), some (.im L), none, c4, c5, c6], [⟨n, (ts.take j).map Tm.d, past⟩], [(3, 0)]⟩) ⟨p, none, none, none, [], hp, rfl, rfl, Nat.le_refl _, rfl⟩ ?_ ?_
  · rintro j d w hj ⟨p, c4, c5, c6, past, hp, o4, o5, hb, rfl⟩
    rw [List.getElem?_map, Option.map_eq_some_iff] at hj
    obtain ⟨t, hj, rfl⟩ := hj
    have hm := List.mem_of_getElem? hj
    rw [List.getElem?_eq_some_iff] at hj
    obtain ⟨hl, hj⟩ := hj
    rw [Nat.zero_add] at hb ⊢
    refine ev_o rfl ?_
    refine nw_at (w' := ⟨[some (.ow [.int p]), some (.im (.int n)), some (.im L), none, some (.im t.d), c5, c6], [⟨n, (ts.take j).map Tm.d, past⟩], [(3, 0)]⟩) rfl ?_
    refine nw_imp1 (laid_turn (b := 6 * j) h1 h2 (fun u hu => ht u (List.mem_of_mem_take hu)) (ht t hm) (by rw [List.length_take]; omega) hL hp hb (by omega) o5) ?_
    rintro w ⟨p', c5, c6, past', q1, q2, q3, rfl⟩
    refine ⟨p', some (.im t.d), c5, c6, past', q1, noDct_tm t, q2, by omega, ?_⟩
    rw [List.take_succ_eq_append_getElem hl, hj]; rfl
  · rintro w ⟨p, c4, c5, c6, past, hp, o4, o5, hb, rfl⟩
    rw [Nat.zero_add, List.length_map] at hb
    refine nw_retO (k := 0) rfl ⟨Nat.le_refl _, ownOk_of ?_, _, rfl, p, past, hp, hb, ?_, ?_⟩
    · simp only [List.all_cons, List.all_nil, Bool.and_true, Bool.and_eq_true] at o5
      simp only [List.all_cons, List.all_nil, o4, o5.1, o5.2, Bool.and_true]
      simp [okSl, noDct, noDctAll, hL]
    · rw [Nat.zero_add, List.length_map, List.take_length]
    · rfl
theorem apart_turn {n c : Int} {L : D} {ts : List Tm} {env : En} {al : List (Nat × Nat)} {f : Ost → List Ost} {a : Nat} {ps : List (List D)} {x1 x2 x4 x5 x6 x9 x10 : D → Option Sl} {P : D → Wo → Prop} {O : Nat → Wo → Prop}
    (h1 : 1 ≤ n) (h2 : n ≤ 40) (ht : ∀ t ∈ ts, t.ok n) (h41 : ∀ t ∈ ts, t.lo ≤ 2) (hs : ts.length ≤ 1000) (hp : ps.length < 900) (hLL : L = .list (ts.map Tm.d)) (hlk : al.lookup 7 = some a) (hget : ∀ o, (f o)[a]? = some o) (hset : ∀ o o', (f o).set a o' = f o') (hok : env.all okSl = true)
    (hv : ∀ o : Ost, Wo.v ⟨env, f o, al⟩ = [some (.im (.int n)), x1 o.d, x2 o.d, some (.im L), x4 o.d, x5 o.d, x6 o.d, some (.im o.d), some (.im (stiD n (ts.map Tm.d) c)), x9 o.d, x10 o.d])
    (hput : ∀ o : Ost, Wo.put ⟨env, f o, al⟩ [some (.im (.int n)), x1 o.d, x2 o.d, some (.im L), x4 o.d, x5 o.d, x6 o.d, some (.im o.d), some (.im (stiD n (ts.map Tm.d) c)), x9 o.d, x10 o.d] = ⟨env, f o, al⟩) :
    Nw (nSeq (nExpr (nWr 7 (some fun k => ((k : Int) - 1)) F_M_put (fCons (fTup (fCons (fC (.int 0)) (fCons (fVar 0) (fCons (fC (.int 40)) (fCons (fC .none) ((fun env => .ok ([], env)))))))) ((fun env => .ok ([], env)))))) (nSeq (nS (sIf (fOrT (fBool (fOp (eqXD F_M_eq) (fVar 7) (fVar 8))) (fOrT (fBool (fOp (eqXD F_M_eq) (fVar 8) (fVar 7))) (fBool (fOp neD (fCall listSD (fCons (fVar 8) ((fun env => .ok ([], env))))) (fVar 3))))) (sRet (fC (.bool false))) (sNil))) (nSeq (nIf (nOr (nBool (nCmp isntD (bkW 7) (nE (fC (.bool true))))) (nT (fBool (fOp (neXD F_M_eq) (fVar 7) (fVar 8))))) (nS (sRet (fC (.bool false)))) (nNil)) (nIf (nT (fBool (fOp neD (fVar 3) (fLst ((fun env => .ok ([], env))))))) (nSeq (nExpr (nWr 7 none F_M_change (gKw (fun us mv ws => us ++ (ws ++ mv)) [PyData.none] (fCons (fC (.int 0)) ((fun env => .ok ([], env)))) (fCons (fC (.int 41)) ((fun env => .ok ([], env))))))) (nSeq (nS (sIf (fOrT (fBool (fOp (eqXD F_M_eq) (fVar 7) (fVar 8))) (fBool (fOp neD (fCall listSD (fCons (fVar 8) ((fun env => .ok ([], env))))) (fVar 3)))) (sRet (fC (.bool false))) (sNil))) (nSeq (nIf (nOr (nBool (nCmp isntD (bkW 7) (nE (fC (.bool true))))) (nT (fNotT (fBool (fOp (eqXD F_M_eq) (fVar 7) (fVar 8)))))) (nS (sRet (fC (.bool false)))) (nNil)) (nSeq (nExpr (nWr 7 none F_M_drop (fCons (fC (.int 0)) ((fun env => .ok ([], env)))))) (nIf (nOr (nT (fBool (fOp (eqXD F_M_eq) (fVar 7) (fVar 8)))) (nOr (nBool (nCmp isntD (bkW 7) (nE (fC (.bool true))))) (nT (fBool (fOp (neXD F_M_eq) (fVar 7) (fVar 8)))))) (nS (sRet (fC (.bool false)))) (nNil)))))) (nNil))))
      ⟨env, f ⟨n, ts.map Tm.d, ps⟩, al⟩) (fun w => w = ⟨env, f ⟨n, ts.map Tm.d, ps⟩, al⟩) P O := by
  have hput1 : ∀ o : Ost, vwF (hideF al) 0 [some (.im (.int n)), x1 o.d, x2 o.d, some (.im L), x4 o.d, x5 o.d, x6 o.d, some (.im o.d), some (.im (stiD n (ts.map Tm.d) c)), x9 o.d, x10 o.d] = env := fun o => congrArg Wo.env (hput o)
  have l8 := listSD_eq (m := n) (c := c) (ds := ts.map Tm.d) (by rw [List.length_map]; omega)
  have r1 := neD_tms ts ts
  have rN := neD_tms ts []
  rw [decide_eq_true rfl] at r1
  rw [← hLL] at l8 r1 rN
  have lt : ∀ x, (ts.map Tm.d).length = x → x < 1000000 := fun x h => by rw [List.length_map] at h; omega
  -- a change, then what follows
  refine nw_seq (nw_expr ?_)
  refine ew_wr (k := a) (hv _) hlk ?_
  walk_at "mirn"
  have pu := F_M_put_eq (n := n) (ts := ts) (t := ⟨0, n, 40, none⟩) ⟨by show (0 : Int) ≤ 0; decide, by show (0 : Int) < n; omega, h1, by show n ≤ n; omega, by show (0 : Int) ≤ 40; decide, fun _ h => nomatch h⟩ (by omega)
  rw [hput]
  refine ⟨_, _, hget _, hok, by show ps.length < 1000; omega, pu, noDct_tms _, ?_⟩
  rw [hset]
  have nP : ∀ {xs ys : List Tm}, xs.length ≠ ys.length → decide (n = n ∧ xs.Perm ys) = false := fun h => decide_eq_false fun q => h q.2.length_eq
  have yP : ∀ xs : List Tm, decide (n = n ∧ xs.Perm xs) = true := fun xs => decide_eq_true ⟨rfl, .refl _⟩
  have la : (ts ++ [(⟨0, n, 40, none⟩ : Tm)]).length = ts.length + 1 := by simp
  refine nw_seq (nw_S (hv _) ?_)
  walk_at "mirn"
  refine es_if ?_
  walk_at "mirn"
  refine ev_o (eqX_tms (xs := ts ++ [(⟨0, n, 40, none⟩ : Tm)]) (ys := ts) (by omega)) ?_
  rw [nP (by omega)]
  walk_at "mirn"
  refine ev_o (eqX_tms (xs := ts) (ys := ts ++ [(⟨0, n, 40, none⟩ : Tm)]) (by omega)) ?_
  rw [nP (by omega)]
  walk_at "mirn"
  refine ev_o l8 ?_
  walk_at "mirn"
  refine ev_o r1 ?_
  walk_at "mirn"
  rw [hput]
  refine nw_seq (nw_if ?_)
  refine ew_or (ew_bool (ew_cmp ?_))
  refine ew_bk hlk (hget _) rfl hok ⟨rfl, ?_⟩
  rw [hset]
  refine ew_E (hv _) ?_
  walk_at "mirn"
  refine ff_of rfl ?_
  rw [hput]
  refine ew_T (hv _) ?_
  walk_at "mirn"
  refine ev_o (neX_tms (xs := ts) (ys := ts) (by omega)) ?_
  rw [yP]
  walk_at "mirn"
  rw [hput]
  refine nw_nil ?_
  refine nw_if ?_
  refine ew_T (hv _) ?_
  walk_at "mirn"
  refine ev_o rN ?_
  walk_at "mirn"
  rw [hput]
  cases ts with
  | nil => exact ff_of rfl (nw_nil rfl)
  | cons t r =>
    have t2 := h41 t (List.mem_cons_self ..)
    have ch := F_M_change_at (n := n) (lo := 41) (xs := []) (ys := r) (t := t) (k := 0) (mo := none) rfl (by decide) (fun _ h => nomatch h) (by rw [List.length_cons] at hs; simp; omega)
    have dr := F_M_drop_at (n := n) (xs := []) (ys := r) (t := t) (k := 0) rfl (by rw [List.length_cons] at hs; simp; omega)
    rw [List.nil_append, List.nil_append] at ch dr
    have nC : decide (n = n ∧ ({ t with lo := 41, hi := orO none t.hi } :: r).Perm (t :: r)) = false := by
      refine decide_eq_false fun q => ?_
      have h3 := q.2.count_eq t
      rw [List.count_cons_self, List.count_cons] at h3
      have h4 : (({ t with lo := 41, hi := orO none t.hi } : Tm) == t) = false := by
        rw [beq_eq_false_iff_ne]
        intro e
        have := congrArg Tm.lo e
        simp only at this
        omega
      rw [h4] at h3
      simp at h3
    refine tt_of (by simp) ?_
    refine nw_seq (nw_expr ?_)
    refine ew_wr (k := a) (hv _) hlk ?_
    refine ev_gKw ?_
    walk_at "mirn"
    rw [hput]
    refine ⟨_, _, hget _, hok, by show ps.length < 1000; omega, ch, noDct_tms _, ?_⟩
    rw [hset]
    refine nw_seq (nw_S (hv _) ?_)
    walk_at "mirn"
    refine es_if ?_
    walk_at "mirn"
    refine ev_o (eqX_tms (xs := { t with lo := 41, hi := orO none t.hi } :: r) (ys := t :: r) (by rw [List.length_cons] at hs ⊢; omega)) ?_
    rw [nC]
    walk_at "mirn"
    refine ev_o l8 ?_
    walk_at "mirn"
    refine ev_o r1 ?_
    walk_at "mirn"
    rw [hput]
    refine nw_seq (nw_if ?_)
    refine ew_or (ew_bool (ew_cmp ?_))
    refine ew_bk hlk (hget _) rfl hok ⟨rfl, ?_⟩
    rw [hset]
    refine ew_E (hv _) ?_
    walk_at "mirn"
    refine ff_of rfl ?_
    rw [hput]
    refine ew_T (hv _) ?_
    walk_at "mirn"
    refine ev_o (eqX_tms (xs := t :: r) (ys := t :: r) (by omega)) ?_
    rw [yP]
    walk_at "mirn"
    rw [hput]
    refine nw_nil ?_
    refine nw_seq (nw_expr ?_)
    refine ew_wr (k := a) (hv _) hlk ?_
    walk_at "mirn"
    rw [hput]
    refine ⟨_, _, hget _, hok, by show ps.length < 1000; omega, dr, noDct_tms _, ?_⟩
    rw [hset]
    refine nw_if ?_
    refine ew_or ?_
    refine ew_T (hv _) ?_
    walk_at "mirn"
    refine ev_o (eqX_tms (xs := r) (ys := t :: r) (by rw [List.length_cons] at hs; omega)) ?_
    rw [nP (by rw [List.length_cons]; omega)]
    walk_at "mirn"
    rw [hput]
    refine ew_or (ew_bool (ew_cmp ?_))
    refine ew_bk hlk (hget _) rfl hok ⟨rfl, ?_⟩
    rw [hset]
    refine ew_E (hv _) ?_
    walk_at "mirn"
    refine ff_of rfl ?_
    rw [hput]
    refine ew_T (hv _) ?_
    walk_at "mirn"
    refine ev_o (neX_tms (xs := t :: r) (ys := t :: r) (by omega)) ?_
    rw [yP]
    walk_at "mirn"
    rw [hput]
    exact nw_nil rfl
theorem F_law_apart_good_eq {n : Int} {ts us : List Tm} {ps qs : List (List D)} (h1 : 1 ≤ n) (h2 : n ≤ 40) (ht : ∀ t ∈ ts, t.ok n) (h41 : ∀ t ∈ ts, t.lo ≤ 2) (hs : ts.length ≤ 1000) (hp : ps.length < 900) (hu : us.length ≤ 1000) (hq : qs.length < 900) :
    F_law_apart_good ⟨[some (.im (.int n)), none, none, some (.im (.list (ts.map Tm.d))), some (.im (.list (us.map Tm.d)))], [⟨n, ts.map Tm.d, ps⟩, ⟨n, us.map Tm.d, qs⟩], [(1, 0), (2, 1)]⟩ =
      .ok (.d (.bool true), ⟨[some (.im (.int n)), none, none, some (.im (.list (ts.map Tm.d))), some (.im (.list (us.map Tm.d)))], [⟨n, ts.map Tm.d, ps⟩, ⟨n, us.map Tm.d, qs⟩], []⟩) := by
  refine runN_d ?_
  have i0 := F_M_init_eq (n := n) (ts := []) h1 h2 (by simp) (by simp)
  have io := F_M_ior_eq (n := n) (c := ps.length) (xs := []) (ys := ts) (by simp; omega)
  rw [List.nil_append] at io
  have hL := okL ts
  have hM := okL us
  have nd := noDct_tms ts
  have tg := F_law_turns_good_eq h1 h2 ht hs hp
  obtain ⟨sg, pg⟩ := F_law_pair_good_eq (n := n) (c := ps.length) (c' := qs.length) hs hu
  have l6 := listSD_eq (m := n) (c := ([[]] : List (List D)).length) (ds := ts.map Tm.d) (by rw [List.length_map]; omega)
  have r1 := neD_tms ts ts
  have r2 := eqD_tms ts ts
  rw [decide_eq_true rfl] at r1 r2
  have yP : ∀ xs : List Tm, decide (n = n ∧ xs.Perm xs) = true := fun xs => decide_eq_true ⟨rfl, .refl _⟩
  generalize hLL : PyData.list (ts.map Tm.d) = L at hL tg pg l6 r1 r2 ⊢
  generalize hMM : PyData.list (us.map Tm.d) = M at hM pg ⊢
  have okA : ∀ c9 c10 : Option Sl, okSl c9 = true → okSl c10 = true → ([some (.im (.int n)), none, none, some (.im L), some (.im M), none, none, none, none, c9, c10] : En).all okSl = true := fun c9 c10 h9 h10 => by
    simp only [List.all_cons, List.all_nil, h9, h10, Bool.and_true, Bool.true_and]
    simp [okSl, noDct, hL, hM]
  unfold g_law_apart_good
  refine nw_at (w' := ⟨[some (.im (.int n)), none, none, some (.im L), some (.im M), none, none, none, none, none, none], [⟨n, ts.map Tm.d, ps⟩, ⟨n, us.map Tm.d, qs⟩], [(1, 0), (2, 1)]⟩) rfl ?_
  refine nw_seq ?_
  refine nw_bnd (ow_mk (v := [some (.im (.int n)), some (.im (stiD n (ts.map Tm.d) ps.length)), some (.im (stiD n (us.map Tm.d) qs.length)), some (.im L), some (.im M), none, none, none, none, none, none]) rfl ?_)
  refine ev_gD ?_
  walk_at "mirn"
  refine ⟨_, i0, rfl, ?_⟩
  refine nw_at (w' := ⟨[some (.im (.int n)), none, none, some (.im L), some (.im M), none, none, none, none, none, none], [⟨n, ts.map Tm.d, ps⟩, ⟨n, us.map Tm.d, qs⟩, ⟨n, [], []⟩], [(5, 2), (1, 0), (2, 1)]⟩) rfl ?_
  refine nw_seq (nw_ali (k := 2) rfl ?_)
  refine nw_at (w' := ⟨[some (.im (.int n)), none, none, some (.im L), some (.im M), none, none, none, none, none, none], [⟨n, ts.map Tm.d, ps⟩, ⟨n, us.map Tm.d, qs⟩, ⟨n, [], []⟩], [(6, 2), (5, 2), (1, 0), (2, 1)]⟩) rfl ?_
  refine nw_seq (nw_ior (k := 2) (v := [some (.im (.int n)), some (.im (stiD n (ts.map Tm.d) ps.length)), some (.im (stiD n (us.map Tm.d) qs.length)), some (.im L), some (.im M), some (.im (stiD n [] 0)), some (.im (stiD n [] 0)), none, none, none, none]) rfl rfl ?_)
  walk_at "mirn"
  refine ⟨_, _, rfl, okA _ _ rfl rfl, by show 0 < 1000; decide, io, nd, ?_⟩
  refine nw_at (w' := ⟨[some (.im (.int n)), none, none, some (.im L), some (.im M), none, none, none, none, none, none], [⟨n, ts.map Tm.d, ps⟩, ⟨n, us.map Tm.d, qs⟩, ⟨n, ts.map Tm.d, [[]]⟩], [(6, 2), (5, 2), (1, 0), (2, 1)]⟩) rfl ?_
  refine nw_seq (nw_S (v := [some (.im (.int n)), some (.im (stiD n (ts.map Tm.d) ps.length)), some (.im (stiD n (us.map Tm.d) qs.length)), some (.im L), some (.im M), some (.im (stiD n (ts.map Tm.d) ([[]] : List (List D)).length)), some (.im (stiD n (ts.map Tm.d) ([[]] : List (List D)).length)), none, none, none, none]) rfl ?_)
  walk_at "mirn"
  refine es_if ?_
  walk_at "mirn"
  refine ev_o (eqX_tms (xs := ts) (ys := ts) (by omega)) ?_
  rw [yP]
  walk_at "mirn"
  refine ev_o l6 ?_
  walk_at "mirn"
  refine ev_o r1 ?_
  walk_at "mirn"
  refine nw_at (w' := ⟨[some (.im (.int n)), none, none, some (.im L), some (.im M), none, none, none, none, none, none], [⟨n, ts.map Tm.d, ps⟩, ⟨n, us.map Tm.d, qs⟩, ⟨n, ts.map Tm.d, [[]]⟩], [(6, 2), (5, 2), (1, 0), (2, 1)]⟩) rfl ?_
  refine nw_seq (nw_forP (k1 := 2) (k2 := 0) (k3 := 0) (k4 := 2) rfl rfl rfl rfl ?_)
  refine nw_imp1 (N := fun w => w = ⟨[some (.im (.int n)), none, none, some (.im L), some (.im M), none, none, none, none, none, none], [⟨n, ts.map Tm.d, ps⟩, ⟨n, us.map Tm.d, qs⟩, ⟨n, ts.map Tm.d, [[]]⟩], [(8, 0), (7, 2), (6, 2), (5, 2), (1, 0), (2, 1)]⟩) ?_ ?_
  · exact apart_turn (env := [some (.im (.int n)), none, none, some (.im L), some (.im M), none, none, none, none, none, none]) (al := [(8, 0), (7, 2), (6, 2), (5, 2), (1, 0), (2, 1)]) (f := fun o => [⟨n, ts.map Tm.d, ps⟩, ⟨n, us.map Tm.d, qs⟩, o]) (a := 2) (ps := [[]]) (c := ps.length)
      (x1 := fun _ => some (.im (stiD n (ts.map Tm.d) ps.length))) (x2 := fun _ => some (.im (stiD n (us.map Tm.d) qs.length))) (x4 := fun _ => some (.im M)) (x5 := fun d => some (.im d)) (x6 := fun d => some (.im d)) (x9 := fun _ => none) (x10 := fun _ => none)
      h1 h2 ht h41 hs (by simp) hLL.symm rfl (fun _ => rfl) (fun _ _ => rfl) (okA _ _ rfl rfl) (fun _ => rfl) (fun _ => rfl)
  rintro w rfl
  refine nw_imp1 (N := fun w => w = ⟨[some (.im (.int n)), none, none, some (.im L), some (.im M), none, none, none, none, none, none], [⟨n, ts.map Tm.d, ps⟩, ⟨n, us.map Tm.d, qs⟩, ⟨n, ts.map Tm.d, [[]]⟩], [(8, 2), (7, 0), (6, 2), (5, 2), (1, 0), (2, 1)]⟩) ?_ ?_
  · exact apart_turn (env := [some (.im (.int n)), none, none, some (.im L), some (.im M), none, none, none, none, none, none]) (al := [(8, 2), (7, 0), (6, 2), (5, 2), (1, 0), (2, 1)]) (f := fun o => [o, ⟨n, us.map Tm.d, qs⟩, ⟨n, ts.map Tm.d, [[]]⟩]) (a := 0) (ps := ps) (c := ([[]] : List (List D)).length)
      (x1 := fun d => some (.im d)) (x2 := fun _ => some (.im (stiD n (us.map Tm.d) qs.length))) (x4 := fun _ => some (.im M)) (x5 := fun _ => some (.im (stiD n (ts.map Tm.d) ([[]] : List (List D)).length))) (x6 := fun _ => some (.im (stiD n (ts.map Tm.d) ([[]] : List (List D)).length))) (x9 := fun _ => none) (x10 := fun _ => none)
      h1 h2 ht h41 hs hp hLL.symm rfl (fun _ => rfl) (fun _ _ => rfl) (okA _ _ rfl rfl) (fun _ => rfl) (fun _ => rfl)
  rintro w rfl
  refine nw_seq (nw_S (v := [some (.im (.int n)), some (.im (stiD n (ts.map Tm.d) ps.length)), some (.im (stiD n (us.map Tm.d) qs.length)), some (.im L), some (.im M), some (.im (stiD n (ts.map Tm.d) ([[]] : List (List D)).length)), some (.im (stiD n (ts.map Tm.d) ([[]] : List (List D)).length)), some (.im (stiD n (ts.map Tm.d) ps.length)), some (.im (stiD n (ts.map Tm.d) ([[]] : List (List D)).length)), none, none]) rfl ?_)
  walk_at "mirn"
  refine nw_at (w' := ⟨[some (.im (.int n)), none, none, some (.im L), some (.im M), none, none, none, none, some (.ow []), none], [⟨n, ts.map Tm.d, ps⟩, ⟨n, us.map Tm.d, qs⟩, ⟨n, ts.map Tm.d, [[]]⟩], [(8, 2), (7, 0), (6, 2), (5, 2), (1, 0), (2, 1)]⟩) rfl ?_
  refine nw_seq (nw_forO (k := 0) rfl rfl ?_)
  refine nw_forF (k0 := 0) (fun j w => ∃ c10 : Option Sl, okSl c10 = true ∧ w = ⟨[some (.im (.int n)), none, none, some (.im L), some (.im M), none, none, none, none, some (.ow ((ts.take j).map Tm.d)), c10], [⟨n, ts.map Tm.d, ps⟩, ⟨n, us.map Tm.d, qs⟩, ⟨n, ts.map Tm.d, [[]]⟩], [(8, 2), (7, 0), (6, 2), (5, 2), (1, 0), (2, 1)]⟩) ⟨none, rfl, rfl⟩ ?_ ?_
  · rintro j d w hj ⟨c10, o10, rfl⟩
    replace hj : (ts.map Tm.d)[j]? = some d := hj
    rw [List.getElem?_map, Option.map_eq_some_iff] at hj
    obtain ⟨t, hj, rfl⟩ := hj
    have hm := List.mem_of_getElem? hj
    rw [List.getElem?_eq_some_iff] at hj
    obtain ⟨hl, hj⟩ := hj
    rw [Nat.zero_add]
    refine ev_o rfl ?_
    refine nw_at (w' := ⟨[some (.im (.int n)), none, none, some (.im L), some (.im M), none, none, none, none, some (.ow ((ts.take j).map Tm.d)), some (.im t.d)], [⟨n, ts.map Tm.d, ps⟩, ⟨n, us.map Tm.d, qs⟩, ⟨n, ts.map Tm.d, [[]]⟩], [(8, 2), (7, 0), (6, 2), (5, 2), (1, 0), (2, 1)]⟩) rfl ?_
    have e9 : (ts.take j).map Tm.d ++ [t.d] = (ts.take (j + 1)).map Tm.d := by
      rw [List.take_succ_eq_append_getElem hl, hj, List.map_append]; rfl
    have l9 : ((ts.take j).map Tm.d).length < sizeLine := Nat.lt_of_succ_le (sizeLine_lt _ (by rw [List.length_map, List.length_take]; omega))
    generalize (ts.take j).map Tm.d = S0 at e9 l9 ⊢
    refine nw_seq (nw_S (v := [some (.im (.int n)), some (.im (stiD n (ts.map Tm.d) ps.length)), some (.im (stiD n (us.map Tm.d) qs.length)), some (.im L), some (.im M), some (.im (stiD n (ts.map Tm.d) ([[]] : List (List D)).length)), some (.im (stiD n (ts.map Tm.d) ([[]] : List (List D)).length)), some (.im (stiD n (ts.map Tm.d) ps.length)), some (.im (stiD n (ts.map Tm.d) ([[]] : List (List D)).length)), some (.ow S0), some (.im t.d)]) rfl ?_)
    walk_at "mirn"
    refine ⟨l9, ?_⟩
    rw [e9]
    have n9 : noDctAll ((ts.take (j + 1)).map Tm.d) = true := noDct_tms _
    generalize (ts.take (j + 1)).map Tm.d = S1 at n9 ⊢
    refine nw_at (w' := ⟨[some (.im (.int n)), none, none, some (.im L), some (.im M), none, none, none, none, some (.ow S1), some (.im t.d)], [⟨n, ts.map Tm.d, ps⟩, ⟨n, us.map Tm.d, qs⟩, ⟨n, ts.map Tm.d, [[]]⟩], [(8, 2), (7, 0), (6, 2), (5, 2), (1, 0), (2, 1)]⟩) rfl ?_
    refine nw_seq (nw_expr ?_)
    refine ew_wr (k := 1) (v := [some (.im (.int n)), some (.im (stiD n (ts.map Tm.d) ps.length)), some (.im (stiD n (us.map Tm.d) qs.length)), some (.im L), some (.im M), some (.im (stiD n (ts.map Tm.d) ([[]] : List (List D)).length)), some (.im (stiD n (ts.map Tm.d) ([[]] : List (List D)).length)), some (.im (stiD n (ts.map Tm.d) ps.length)), some (.im (stiD n (ts.map Tm.d) ([[]] : List (List D)).length)), some (.ow S1), some (.im t.d)]) rfl rfl ?_
    walk_at "mirn"
    refine ⟨_, _, rfl, okA _ _ n9 (noDct_tm t), by show qs.length < 1000; omega, F_M_put_eq (ht t hm) (by omega), noDct_tms _, ?_⟩
    refine nw_at (w' := ⟨[some (.im (.int n)), none, none, some (.im L), some (.im M), none, none, none, none, some (.ow S1), some (.im t.d)], [⟨n, ts.map Tm.d, ps⟩, ⟨n, (us ++ [t]).map Tm.d, qs ++ [us.map Tm.d]⟩, ⟨n, ts.map Tm.d, [[]]⟩], [(8, 2), (7, 0), (6, 2), (5, 2), (1, 0), (2, 1)]⟩) rfl ?_
    refine nw_expr (ew_bk (k := 1) rfl rfl rfl (okA _ _ n9 (noDct_tm t)) ?_)
    exact ⟨some (.im t.d), noDct_tm t, rfl⟩
  · rintro w ⟨c10, o10, rfl⟩
    rw [Nat.zero_add, show (⟨n, ts.map Tm.d, ps⟩ : Ost).now.length = ts.length from List.length_map .., List.take_length]
    refine nw_ret (ew_andV ?_)
    refine ew_E (v := [some (.im (.int n)), some (.im (stiD n (ts.map Tm.d) ps.length)), some (.im (stiD n (us.map Tm.d) qs.length)), some (.im L), some (.im M), some (.im (stiD n (ts.map Tm.d) ([[]] : List (List D)).length)), some (.im (stiD n (ts.map Tm.d) ([[]] : List (List D)).length)), some (.im (stiD n (ts.map Tm.d) ps.length)), some (.im (stiD n (ts.map Tm.d) ([[]] : List (List D)).length)), some (.ow (ts.map Tm.d)), c10]) rfl ?_
    walk_at "mirn"
    rw [hLL]
    refine ev_o r2 ?_
    walk_at "mirn"
    refine ew_at (w' := ⟨[some (.im (.int n)), none, none, some (.im L), some (.im M), none, none, none, none, some (.ow (ts.map Tm.d)), c10], [⟨n, ts.map Tm.d, ps⟩, ⟨n, us.map Tm.d, qs⟩, ⟨n, ts.map Tm.d, [[]]⟩], [(8, 2), (7, 0), (6, 2), (5, 2), (1, 0), (2, 1)]⟩) rfl ?_
    refine ew_andV ?_
    refine ew_call (v := [some (.im (.int n)), some (.im (stiD n (ts.map Tm.d) ps.length)), some (.im (stiD n (us.map Tm.d) qs.length)), some (.im L), some (.im M), some (.im (stiD n (ts.map Tm.d) ([[]] : List (List D)).length)), some (.im (stiD n (ts.map Tm.d) ([[]] : List (List D)).length)), some (.im (stiD n (ts.map Tm.d) ps.length)), some (.im (stiD n (ts.map Tm.d) ([[]] : List (List D)).length)), some (.ow (ts.map Tm.d)), c10]) rfl ?_
    walk_at "mirn"
    refine ev_cOb rfl ?_
    walk_at "mirn"
    have okF := okA (some (.ow (ts.map Tm.d))) c10 nd o10
    refine ⟨_, _, cw_of (es := [some (.im (.int n)), none, some (.im L)]) (ks := [0]) ?_ rfl rfl ?_ tg, ?_⟩
    · show argE _ [.im (.int n), .sl 1, .im L] = _
      unfold argE argE argE argE
      rw [if_pos (show noDct (.int n) = true from rfl), if_pos hL]
      rfl
    · exact ⟨rfl, (show List.Nodup ([] : List Nat) from List.nodup_nil), (by decide), rfl, okF⟩
    refine ⟨true, rfl, fun _ => ?_, fun h => nomatch h⟩
    refine ew_at (w' := ⟨[some (.im (.int n)), none, none, some (.im L), some (.im M), none, none, none, none, some (.ow (ts.map Tm.d)), c10], [⟨n, ts.map Tm.d, ps⟩, ⟨n, us.map Tm.d, qs⟩, ⟨n, ts.map Tm.d, [[]]⟩], [(8, 2), (7, 0), (6, 2), (5, 2), (1, 0), (2, 1)]⟩) rfl ?_
    refine ew_E (v := [some (.im (.int n)), some (.im (stiD n (ts.map Tm.d) ps.length)), some (.im (stiD n (us.map Tm.d) qs.length)), some (.im L), some (.im M), some (.im (stiD n (ts.map Tm.d) ([[]] : List (List D)).length)), some (.im (stiD n (ts.map Tm.d) ([[]] : List (List D)).length)), some (.im (stiD n (ts.map Tm.d) ps.length)), some (.im (stiD n (ts.map Tm.d) ([[]] : List (List D)).length)), some (.ow (ts.map Tm.d)), c10]) rfl ?_
    walk_at "mirn"
    refine ev_of pg ?_
    rw [back_ims rfl]
    refine ⟨rfl, rfl, ownOk_of okF, rfl⟩
theorem es_sN {g : NF} {env : En} {N : En → Prop} {P : D → En → Prop} {B C : En → Prop} {E : Exn → En → Prop} (h : Nw (g ⟨env, [], []⟩) (fun _ => False) (fun d w => noDct d = true ∧ ownOk w.env = true ∧ P d w.env) fun _ _ => False) : Es (sN g env) N P B C E := by
  constructor
  unfold sN
  revert h
  cases g ⟨env, [], []⟩ with
  | stuck => exact fun q => q.1.elim
  | err x s => exact fun q => q.1.elim
  | ok o => cases o with
    | nx w => exact fun q => q.1.elim
    | ro k w => exact fun q => q.1.elim
    | rt d w =>
      rintro ⟨h1, h2, q⟩
      simp only
      rw [if_pos ⟨h1, h2⟩]
      exact q
theorem T51.up {n : Int} {t : Tm} (h : T51 n t) : t.ok (n + 1) := by
  have h1 := h.ok.s1
  have h2 := h.ok.l1
  exact ⟨h.ok.s0, by omega, h.ok.l0, by omega, h.ok.lo0, h.ok.hi0⟩
theorem takes {p k : Int} (hp : 0 ≤ p) (h1 : 0 < k) (h2 : k < 1073741824) : ∃ a p' : Int, 0 ≤ a ∧ a < k ∧ 0 ≤ p' ∧ F_law_take [.ow [.int p], .im (.int k)] = .ok (.int a, [.ow [.int p'], .im (.int k)]) :=
  ⟨p % k, p / k, Int.emod_nonneg _ (by omega), Int.emod_lt_of_pos _ h1, Int.ediv_nonneg hp (by omega), F_law_take_eq h1 h2⟩
/-- the two lists of terms -/
structure Two (n : Int) (ts us : List Tm) : Prop where
  n1 : 1 ≤ n
  n9 : n ≤ 9
  t : ∀ t ∈ ts, T51 n t
  u : ∀ t ∈ us, T51 n t
  lt : ts.length ≤ 6
  lu : us.length ≤ 8
/-- the turn's end: two objects, laid, looked at -/
theorem law_turn {S : D} {k p n way : Int} {ts us : List Tm} {P : D → Wo → Prop} {O : Nat → Wo → Prop} (hS : noDct S = true) (hp : 0 ≤ p) (h : Two n ts us) :
    Nw (nSeq (nPar 7 8 (nCallO 3 [0] [] F_law_laid (cSl 2 (cIm (fVar 3) (cIm (fVar 4) (cNil))))) (nCallO 3 [0] [] F_law_laid (cSl 2 (cIm (fVar 3) (cIm (fVar 5) (cNil)))))) (nSeq (nIf (nOr (nT (fNotT (fBool (fCallF 4 [] F_law_pair_good (cIm (fVar 7) (cIm (fVar 8) (cIm (fVar 4) (cIm (fVar 5) (cNil))))))))) (nNot (nBool (nCall 5 [] [(1, 0), (2, 1)] F_law_apart_good (cIm (fVar 3) (cOb 7 (cOb 8 (cIm (fVar 4) (cIm (fVar 5) (cNil)))))))))) (nS (sRet (fC (.bool false)))) (nNil)) (nSeq (nBind 9 (nMk F_M_init (fCons (fOp addD (fVar 3) (fC (.int 1))) (fCons (fVar 4) ((fun env => .ok ([], env))))))) (nSeq (nS (sIf (fOrT (fBool (fOp (eqXD F_M_eq) (fVar 7) (fVar 9))) (fBool (fOp (eqXD F_M_eq) (fVar 9) (fVar 7)))) (sRet (fC (.bool false))) (sNil))) (nS (sIf (fBool (fOp neD (fLc (fItems (fLst (fCons (fVar 4) (fCons (fMeth F_M_ring (fVar 7) (fun env => .ok ([], env))) (fCons (fC .none) (fCons (fC (.int 0)) (fCons (fLst (fCons (fC (.int 0)) ((fun env => .ok ([], env))))) ((fun env => .ok ([], env)))))))))) (tN 11) (fBool (fOp (eqXD F_M_eq) (fVar 7) (fVar 11))) (fVar 11) [11]) (fLst ((fun env => .ok ([], env)))))) (sRet (fC (.bool false))) (sNil))))))
      ⟨[some (.im S), some (.im (.int k)), some (.ow [.int p]), some (.im (.int n)), some (.im (.list (ts.map Tm.d))), some (.im (.list (us.map Tm.d))), some (.im (.int way)), none, none, none, none, none], [], []⟩) (fun w => ∃ p', w.cut 0 = ⟨[some (.im S), some (.im (.int k)), some (.ow [.int p']), some (.im (.int n)), some (.im (.list (ts.map Tm.d))), some (.im (.list (us.map Tm.d))), some (.im (.int way)), none, none, none, none, none], [], []⟩) P O := by
  have n1 := h.n1
  have n9 := h.n9
  have okt : ∀ t ∈ ts, t.ok n := fun t q => (h.t t q).ok
  have oku : ∀ t ∈ us, t.ok n := fun t q => (h.u t q).ok
  have lt := h.lt
  have lu := h.lu
  obtain ⟨o1, w1, e1, p1, ps, hp1, hps, rfl, rfl⟩ := F_law_laid_eq (p := p) n1 (by omega) okt (by omega) hp
  obtain ⟨o2, w2, e2, p2, qs, hp2, hqs, rfl, rfl⟩ := F_law_laid_eq (p := p1) n1 (by omega) oku (by omega) hp1
  obtain ⟨sg, pg⟩ := F_law_pair_good_eq (n := n) (c := ps.length) (c' := qs.length) (xs := ts) (ys := us) (by omega) (by omega)
  have ag := F_law_apart_good_eq n1 (by omega) okt (fun t q => (h.t t q).lo) (by omega) (show ps.length < 900 by omega) (show us.length ≤ 1000 by omega) (show qs.length < 900 by omega)
  have iw := init_list (n := n + 1) (ts := ts) (by omega) (by omega) (fun t q => (h.t t q).up) (by omega)
  obtain ⟨sr, er⟩ := F_M_ring_any (n := n) (c := ps.length) (ts := ts) (by omega)
  have hL := okL ts
  have hM := okL us
  have sL : isStD (.list (ts.map Tm.d)) = some (.bool false) := rfl
  have oL : othD (.list (ts.map Tm.d)) = true := rfl
  have nW : decide (n = n + 1 ∧ ts.Perm ts) = false := decide_eq_false fun q => by have := q.1; omega
  have nW' : decide (n + 1 = n ∧ ts.Perm ts) = false := decide_eq_false fun q => by have := q.1; omega
  have nd := noDct_tms ts
  generalize hLL : PyData.list (ts.map Tm.d) = L at hL e1 e2 pg ag iw sL oL ⊢
  generalize hMM : PyData.list (us.map Tm.d) = M at hM e2 pg ag ⊢
  have okA : ∀ q : Int, ([some (.im S), some (.im (.int k)), some (.ow [.int q]), some (.im (.int n)), some (.im L), some (.im M), some (.im (.int way)), none, none, none, none, none] : En).all okSl = true := fun q => by simp [okSl, noDct, noDctAll, hS, hL, hM]
  refine nw_seq (nw_par ?_)
  refine ow_call (v := [some (.im S), some (.im (.int k)), some (.ow [.int p]), some (.im (.int n)), some (.im L), some (.im M), some (.im (.int way)), none, none, none, none, none]) rfl ?_
  walk_at "mirn"
  refine ⟨_, _, cw_of (es := [some (.ow [.int p]), some (.im (.int n)), some (.im L)]) (ks := []) ?_ rfl rfl ?_ e1, ?_⟩
  · show argE _ [.sl 2, .im (.int n), .im L] = _
    unfold argE argE argE argE
    rw [if_pos (show noDct (.int n) = true from rfl), if_pos hL]
    rfl
  · exact ⟨rfl, (show List.Nodup [2] by decide), (by decide), rfl, okA p⟩
  refine ow_call (v := [some (.im S), some (.im (.int k)), some (.ow [.int p1]), some (.im (.int n)), some (.im L), some (.im M), some (.im (.int way)), none, none, none, none, none]) rfl ?_
  walk_at "mirn"
  refine ⟨_, _, cw_of (es := [some (.ow [.int p1]), some (.im (.int n)), some (.im M)]) (ks := []) ?_ rfl rfl ?_ e2, ?_⟩
  · show argE _ [.sl 2, .im (.int n), .im M] = _
    unfold argE argE argE argE
    rw [if_pos (show noDct (.int n) = true from rfl), if_pos hM]
    rfl
  · exact ⟨rfl, (show List.Nodup [2] by decide), (by decide), rfl, okA p1⟩
  refine nw_at (w' := ⟨[some (.im S), some (.im (.int k)), some (.ow [.int p2]), some (.im (.int n)), some (.im L), some (.im M), some (.im (.int way)), none, none, none, none, none], [⟨n, ts.map Tm.d, ps⟩, ⟨n, us.map Tm.d, qs⟩], [(8, 1), (7, 0)]⟩) rfl ?_
  refine nw_seq (nw_if ?_)
  refine ew_or ?_
  refine ew_T (v := [some (.im S), some (.im (.int k)), some (.ow [.int p2]), some (.im (.int n)), some (.im L), some (.im M), some (.im (.int way)), some (.im (stiD n (ts.map Tm.d) ps.length)), some (.im (stiD n (us.map Tm.d) qs.length)), none, none, none]) rfl ?_
  walk_at "mirn"
  refine ev_of pg ?_
  rw [back_ims rfl]
  walk_at "mirn"
  refine ew_at (w' := ⟨[some (.im S), some (.im (.int k)), some (.ow [.int p2]), some (.im (.int n)), some (.im L), some (.im M), some (.im (.int way)), none, none, none, none, none], [⟨n, ts.map Tm.d, ps⟩, ⟨n, us.map Tm.d, qs⟩], [(8, 1), (7, 0)]⟩) rfl ?_
  refine ew_not (ew_bool ?_)
  refine ew_call (v := [some (.im S), some (.im (.int k)), some (.ow [.int p2]), some (.im (.int n)), some (.im L), some (.im M), some (.im (.int way)), some (.im (stiD n (ts.map Tm.d) ps.length)), some (.im (stiD n (us.map Tm.d) qs.length)), none, none, none]) rfl ?_
  walk_at "mirn"
  refine ev_cOb rfl ?_
  refine ev_cOb rfl ?_
  walk_at "mirn"
  refine ⟨_, _, cw_of (es := [some (.im (.int n)), none, none, some (.im L), some (.im M)]) (ks := [0, 1]) ?_ rfl rfl ?_ ag, ?_⟩
  · show argE _ [.im (.int n), .sl 7, .sl 8, .im L, .im M] = _
    unfold argE argE argE argE argE argE
    rw [if_pos (show noDct (.int n) = true from rfl), if_pos hL, if_pos hM]
    rfl
  · exact ⟨rfl, (show List.Nodup ([] : List Nat) from List.nodup_nil), (by decide), rfl, okA p2⟩
  refine ⟨true, rfl, fun h => (nomatch h), fun _ => nw_nil ?_⟩
  refine nw_at (w' := ⟨[some (.im S), some (.im (.int k)), some (.ow [.int p2]), some (.im (.int n)), some (.im L), some (.im M), some (.im (.int way)), none, none, none, none, none], [⟨n, ts.map Tm.d, ps⟩, ⟨n, us.map Tm.d, qs⟩], [(8, 1), (7, 0)]⟩) rfl ?_
  refine nw_seq ?_
  refine nw_bnd (ow_mk (v := [some (.im S), some (.im (.int k)), some (.ow [.int p2]), some (.im (.int n)), some (.im L), some (.im M), some (.im (.int way)), some (.im (stiD n (ts.map Tm.d) ps.length)), some (.im (stiD n (us.map Tm.d) qs.length)), none, none, none]) rfl ?_)
  walk_at "mirn"
  refine ⟨_, iw, nd, ?_⟩
  refine nw_at (w' := ⟨[some (.im S), some (.im (.int k)), some (.ow [.int p2]), some (.im (.int n)), some (.im L), some (.im M), some (.im (.int way)), none, none, none, none, none], [⟨n, ts.map Tm.d, ps⟩, ⟨n, us.map Tm.d, qs⟩, ⟨n + 1, ts.map Tm.d, []⟩], [(9, 2), (8, 1), (7, 0)]⟩) rfl ?_
  refine nw_seq (nw_S (v := [some (.im S), some (.im (.int k)), some (.ow [.int p2]), some (.im (.int n)), some (.im L), some (.im M), some (.im (.int way)), some (.im (stiD n (ts.map Tm.d) ps.length)), some (.im (stiD n (us.map Tm.d) qs.length)), some (.im (stiD (n + 1) (ts.map Tm.d) 0)), none, none]) rfl ?_)
  walk_at "mirn"
  refine es_if ?_
  walk_at "mirn"
  refine ev_o (eqX_tms (xs := ts) (ys := ts) (by omega)) ?_
  rw [nW]
  walk_at "mirn"
  refine ev_o (eqX_tms (xs := ts) (ys := ts) (by omega)) ?_
  rw [nW']
  walk_at "mirn"
  refine nw_at (w' := ⟨[some (.im S), some (.im (.int k)), some (.ow [.int p2]), some (.im (.int n)), some (.im L), some (.im M), some (.im (.int way)), none, none, none, none, none], [⟨n, ts.map Tm.d, ps⟩, ⟨n, us.map Tm.d, qs⟩, ⟨n + 1, ts.map Tm.d, []⟩], [(9, 2), (8, 1), (7, 0)]⟩) rfl ?_
  refine nw_S (v := [some (.im S), some (.im (.int k)), some (.ow [.int p2]), some (.im (.int n)), some (.im L), some (.im M), some (.im (.int way)), some (.im (stiD n (ts.map Tm.d) ps.length)), some (.im (stiD n (us.map Tm.d) qs.length)), some (.im (stiD (n + 1) (ts.map Tm.d) 0)), none, none]) rfl ?_
  refine es_if ?_
  walk_at "mirn"
  refine ev_lc (b := fun _ => false) (v := id) (P0 := fun _ _ => True) ?_
  walk_at "mirn"
  refine ev_meth ?_
  walk_at "mirn"
  refine ⟨rfl, ?_⟩
  walk_at "mirn"
  refine ev_of er ?_
  walk_at "mirn"
  refine ⟨rfl, sz_le (Nat.le_of_ble_eq_true rfl), fun d hd => ?_, ?_⟩
  · have hb : isStD d = some (.bool false) ∧ othD d = true := by
      simp only [List.mem_cons, List.not_mem_nil, or_false] at hd
      rcases hd with rfl | rfl | rfl | rfl | rfl
      · exact ⟨sL, oL⟩
      · exact ⟨rfl, rfl⟩
      · exact ⟨rfl, rfl⟩
      · exact ⟨rfl, rfl⟩
      · exact ⟨rfl, rfl⟩
    walk_at "mirn"
    refine ev_o (eqX_oth hb.1 hb.2) ?_
    walk_at "mirn"
    exact ⟨rfl, (fun h => nomatch h), fun _ => ⟨rfl, rfl⟩⟩
  · rw [List.filter_eq_nil_iff.mpr (by simp), List.map_nil]
    walk_at "mirn"
    refine ff_of rfl ?_
    walk_at "mirn"
    exact ⟨p2, rfl⟩
theorem cut1 : ∀ us : List Tm, cutD (us.map Tm.d) (some 1) none = (us.drop 1).map Tm.d
  | [] => rfl
  | u :: us => by
    rw [show (some (1 : Int)) = some ((1 : Nat) : Int) from rfl, cutD_from _ _ (by rw [List.length_map, List.length_cons]; omega), List.map_drop]
theorem last_tm (us : List Tm) (h : us ≠ []) : ∃ t ∈ us, ixD (.list (us.map Tm.d)) (.int (-1)) = some t.d := by
  refine ⟨us.getLast h, List.getLast_mem h, ?_⟩
  conv => lhs; rw [← List.dropLast_concat_getLast h]
  rw [List.map_append]
  exact atI_last
/-- the second list of terms, changed -/
def MidM (ns : List Int) (k n way : Int) (ts : List Tm) (b : Nat) (w : Wo) : Prop := ∃ (p : Int) (us : List Tm), 0 ≤ p ∧ us.length ≤ b ∧ (∀ t ∈ us, T51 n t) ∧ w = ⟨[some (.im (lI ns)), some (.im (.int k)), some (.ow [.int p]), some (.im (.int n)), some (.im (.list (ts.map Tm.d))), some (.im (.list (us.map Tm.d))), some (.im (.int way)), none, none, none, none, none], [], []⟩
section
variable {ns : List Int} {k n way p : Int} {ts us : List Tm} {P : D → Wo → Prop} {O : Nat → Wo → Prop} {b : Nat}
theorem law_if1 (hp : 0 ≤ p) (hb : us.length ≤ b) (hu : ∀ t ∈ us, T51 n t) : Nw (nS (sIf (fBool (fOp eqD (fVar 6) (fC (.int 1)))) (sSet 5 (fSl slD (fVar 5) (fPart (fC (.int 1))) ((fun env => .ok (none, env))))) (sNil)) ⟨[some (.im (lI ns)), some (.im (.int k)), some (.ow [.int p]), some (.im (.int n)), some (.im (.list (ts.map Tm.d))), some (.im (.list (us.map Tm.d))), some (.im (.int way)), none, none, none, none, none], [], []⟩) (MidM ns k n way ts b) P O := by
  refine nw_S (v := [some (.im (lI ns)), some (.im (.int k)), some (.ow [.int p]), some (.im (.int n)), some (.im (.list (ts.map Tm.d))), some (.im (.list (us.map Tm.d))), some (.im (.int way)), none, none, none, none, none]) rfl ?_
  refine es_if ?_
  walk_at "mirn"
  refine ⟨fun _ => ?_, fun _ => es_nil ⟨p, us, hp, hb, hu, rfl⟩⟩
  walk_at "mirn"
  rw [cut1]
  exact ⟨p, us.drop 1, hp, by rw [List.length_drop]; omega, fun t h => hu t (List.mem_of_mem_drop h), rfl⟩
theorem law_if2 (hp : 0 ≤ p) (hn1 : 1 ≤ n) (hn9 : n ≤ 9) (hb : us.length ≤ b) (hb9 : b ≤ 100) (hu : ∀ t ∈ us, T51 n t) : Nw (nS (sIf (fBool (fOp eqD (fVar 6) (fC (.int 2)))) (sSet 5 (fOp addD (fVar 5) (fLst (fCons (fCallF 2 [0] F_law_new_term (cSl 2 (cIm (fVar 3) (cNil)))) ((fun env => .ok ([], env))))))) (sNil)) ⟨[some (.im (lI ns)), some (.im (.int k)), some (.ow [.int p]), some (.im (.int n)), some (.im (.list (ts.map Tm.d))), some (.im (.list (us.map Tm.d))), some (.im (.int way)), none, none, none, none, none], [], []⟩) (MidM ns k n way ts (b + 1)) P O := by
  refine nw_S (v := [some (.im (lI ns)), some (.im (.int k)), some (.ow [.int p]), some (.im (.int n)), some (.im (.list (ts.map Tm.d))), some (.im (.list (us.map Tm.d))), some (.im (.int way)), none, none, none, none, none]) rfl ?_
  refine es_if ?_
  walk_at "mirn"
  refine ⟨fun _ => ?_, fun _ => es_nil ⟨p, us, hp, by omega, hu, rfl⟩⟩
  walk_at "mirn"
  obtain ⟨t, p', hp', ht, e⟩ := F_law_new_term_eq hp hn1 hn9
  refine ev_of e ?_
  walk_at "mirn"
  refine ev_o (addD_tms us [t] (by simp; omega)) ?_
  refine ⟨p', us ++ [t], hp', by simp; omega, fun u h => ?_, rfl⟩
  rcases List.mem_append.mp h with h | h
  · exact hu u h
  · rw [List.mem_singleton.mp h]; exact ht
theorem law_if3 (hp : 0 ≤ p) (hb : us.length ≤ b) (hb9 : b ≤ 100) (hu : ∀ t ∈ us, T51 n t) : Nw (nS (sIf (fAndT (fBool (fOp eqD (fVar 6) (fC (.int 3)))) (fBool (fOp neD (fVar 5) (fLst ((fun env => .ok ([], env))))))) (sSet 5 (fOp addD (fSl slD (fVar 5) (fPart (fC (.int 1))) ((fun env => .ok (none, env)))) (fLst (fCons (fOp ixD (fVar 5) (fUn negD (fC (.int 1)))) ((fun env => .ok ([], env))))))) (sNil)) ⟨[some (.im (lI ns)), some (.im (.int k)), some (.ow [.int p]), some (.im (.int n)), some (.im (.list (ts.map Tm.d))), some (.im (.list (us.map Tm.d))), some (.im (.int way)), none, none, none, none, none], [], []⟩) (MidM ns k n way ts b) P O := by
  refine nw_S (v := [some (.im (lI ns)), some (.im (.int k)), some (.ow [.int p]), some (.im (.int n)), some (.im (.list (ts.map Tm.d))), some (.im (.list (us.map Tm.d))), some (.im (.int way)), none, none, none, none, none]) rfl ?_
  refine es_if ?_
  walk_at "mirn"
  refine ⟨fun _ => ?_, fun _ => ff_of rfl (es_nil ⟨p, us, hp, by omega, hu, rfl⟩)⟩
  walk_at "mirn"
  refine ev_o (neD_tms us []) ?_
  walk_at "mirn"
  refine ⟨fun h => ?_, fun _ => es_nil ⟨p, us, hp, by omega, hu, rfl⟩⟩
  have hne : us ≠ [] := by
    intro e
    rw [e] at h
    simp at h
  obtain ⟨t, ht, e⟩ := last_tm us hne
  have hl := List.length_pos_iff.mpr hne
  walk_at "mirn"
  rw [cut1]
  refine ev_o e ?_
  walk_at "mirn"
  refine ev_o (addD_tms (us.drop 1) [t] (by simp; omega)) ?_
  refine ⟨p, us.drop 1 ++ [t], hp, by simp; omega, fun u h => ?_, rfl⟩
  rcases List.mem_append.mp h with h | h
  · exact hu u (List.mem_of_mem_drop h)
  · rw [List.mem_singleton.mp h]; exact hu t ht
end
theorem law_true (ns : List Int) (hl : ns.length ≤ 63) : ∃ es', runD 12 g_law [.im (.list (ns.map .int))] = .ok (.bool true, es') := by
  suffices h : Ev (runD 12 g_law [.im (lI ns)]) (fun x t => x = .bool true) fun _ _ => False by
    obtain ⟨x, t, e, rfl⟩ := ev_eq h; exact ⟨t, e⟩
  refine ev_fun ?_
  unfold g_law
  refine es_sN ?_
  unfold gN_law
  refine nw_at (w' := ⟨[some (.im (lI ns)), none, none, none, none, none, none, none, none, none, none, none], [], []⟩) rfl ?_
  refine nw_seq ?_
  have hS : noDct (lI ns) = true := noDct_ints ns
  refine nw_for (by simp [okSl, hS]) ?_
  unfold lI
  walk_at "mirn"
  refine nw_forF (k0 := 0) (fun j w => ∃ c1 c2 c3 c4 c5 c6 : Option Sl, ownOk [c1, c2, c3, c4, c5, c6] = true ∧ w = ⟨[some (.im (lI ns)), c1, c2, c3, c4, c5, c6, none, none, none, none, none], [], []⟩) ⟨none, none, none, none, none, none, rfl, rfl⟩ ?_ ?_
  · rintro j d w hj ⟨c1, c2, c3, c4, c5, c6, -, rfl⟩
    obtain ⟨hj, rfl⟩ := rangeL_get hj
    rw [Int.zero_add]
    refine ev_o rfl ?_
    refine nw_at (w' := ⟨[some (.im (lI ns)), some (.im (.int j)), c2, c3, c4, c5, c6, none, none, none, none, none], [], []⟩) rfl ?_
    refine nw_seq (nw_S (v := [some (.im (lI ns)), some (.im (.int j)), c2, c3, c4, c5, c6, none, none, none, none, none]) rfl ?_)
    walk_at "mirn"
    obtain ⟨p, s0, hp, e0⟩ := F_law_pile_eq ns (k := j) (by omega)
    refine ev_of e0 ?_
    rw [back_ims rfl]
    walk_at "mirn"
    refine nw_at (w' := ⟨[some (.im (lI ns)), some (.im (.int j)), some (.ow [.int p]), c3, c4, c5, c6, none, none, none, none, none], [], []⟩) rfl ?_
    refine nw_seq (nw_S (v := [some (.im (lI ns)), some (.im (.int j)), some (.ow [.int p]), c3, c4, c5, c6, none, none, none, none, none]) rfl ?_)
    walk_at "mirn"
    obtain ⟨a, p1, a0, a1, hp1, e1⟩ := takes (k := 4) hp (by omega) (by omega)
    refine ev_of e1 ?_
    obtain ⟨n, hn, n1, n9⟩ : ∃ n : Int, ixD (.list [.int 1, .int 2, .int 4, .int 9]) (.int a) = some (.int n) ∧ 1 ≤ n ∧ n ≤ 9 := by
      rcases (show a = 0 ∨ a = 1 ∨ a = 2 ∨ a = 3 by omega) with rfl | rfl | rfl | rfl
      · exact ⟨1, rfl, by omega, by omega⟩
      · exact ⟨2, rfl, by omega, by omega⟩
      · exact ⟨4, rfl, by omega, by omega⟩
      · exact ⟨9, rfl, by omega, by omega⟩
    refine ev_o hn ?_
    refine nw_at (w' := ⟨[some (.im (lI ns)), some (.im (.int j)), some (.ow [.int p1]), some (.im (.int n)), c4, c5, c6, none, none, none, none, none], [], []⟩) rfl ?_
    refine nw_seq (nw_S (v := [some (.im (lI ns)), some (.im (.int j)), some (.ow [.int p1]), some (.im (.int n)), c4, c5, c6, none, none, none, none, none]) rfl ?_)
    walk_at "mirn"
    refine ev_lcI (fun _ i acc e => ∃ (q : Int) (us : List Tm), 0 ≤ q ∧ us.length = i ∧ (∀ t ∈ us, T51 n t) ∧ acc = us.map Tm.d ∧ e = [some (.im (lI ns)), some (.im (.int j)), some (.ow [.int q]), some (.im (.int n)), c4, c5, c6, none, none, none, none, none]) ?_
    walk_at "mirn"
    obtain ⟨a2, p2, b0, b1, hp2, e2⟩ := takes (k := 7) hp1 (by omega) (by omega)
    refine ev_of e2 ?_
    walk_at "mirn"
    refine ⟨rfl, ?_, ⟨p2, [], hp2, rfl, (fun t h => nomatch h), rfl, rfl⟩, ?_, ?_⟩
    · rw [rangeL_length]; exact sz_le (by omega)
    · rintro i d acc e hi ⟨q, us, hq, hlen, hus, rfl, rfl⟩
      obtain ⟨hi, rfl⟩ := rangeL_get hi
      walk_at "mirn"
      obtain ⟨t, q', hq', ht, e3⟩ := F_law_new_term_eq hq n1 n9
      refine ev_of e3 ?_
      refine ⟨rfl, q', us ++ [t], hq', by simp; omega, fun u h => ?_, by rw [List.map_append]; rfl, rfl⟩
      rcases List.mem_append.mp h with h | h
      · exact hus u h
      · rw [List.mem_singleton.mp h]; exact ht
    rintro acc e ⟨q, ts, hq, hlen, hts, rfl, rfl⟩
    rw [rangeL_length] at hlen
    have lt : ts.length ≤ 6 := by omega
    refine nw_at (w' := ⟨[some (.im (lI ns)), some (.im (.int j)), some (.ow [.int q]), some (.im (.int n)), some (.im (.list (ts.map Tm.d))), c5, c6, none, none, none, none, none], [], []⟩) rfl ?_
    refine nw_seq (nw_S (v := [some (.im (lI ns)), some (.im (.int j)), some (.ow [.int q]), some (.im (.int n)), some (.im (.list (ts.map Tm.d))), c5, c6, none, none, none, none, none]) rfl ?_)
    walk_at "mirn"
    refine ev_lcI (fun _ i acc e => ∃ (us : List Tm) (q' : Int), 0 ≤ q' ∧ us.length = i ∧ (∀ t ∈ us, T51 n t) ∧ acc = us.map Tm.d ∧ e = [some (.im (lI ns)), some (.im (.int j)), some (.ow [.int q']), some (.im (.int n)), some (.im (.list (ts.map Tm.d))), c5, c6, none, none, none, none, none]) ?_
    walk_at "mirn"
    obtain ⟨xs, p3, hp3, lx, hx, e4⟩ := F_law_order_of_eq (p := q) (k := ts.length) hq (by omega)
    refine ev_of e4 ?_
    walk_at "mirn"
    refine ⟨rfl, ?_, ⟨[], p3, hp3, rfl, (fun t h => nomatch h), rfl, rfl⟩, ?_, ?_⟩
    · rw [List.length_map]; exact sz_le (by omega)
    · rintro i d acc e hi ⟨us, q', hq', hlen, hus, rfl, rfl⟩
      rw [List.getElem?_map, Option.map_eq_some_iff] at hi
      obtain ⟨x, hi, rfl⟩ := hi
      have hx := hx x (List.mem_of_getElem? hi)
      walk_at "mirn"
      have hxl : x.toNat < ts.length := by omega
      refine ev_o (atI_nat' (d := ts[x.toNat].d) hx.1 (by rw [List.getElem?_map, List.getElem?_eq_getElem hxl]; rfl)) ?_
      refine ⟨rfl, us ++ [ts[x.toNat]], q', hq', by simp; omega, fun u h => ?_, by rw [List.map_append]; rfl, rfl⟩
      rcases List.mem_append.mp h with h | h
      · exact hus u h
      · rw [List.mem_singleton.mp h]; exact hts _ (List.getElem_mem _)
    rintro acc e ⟨us, q', hq', hlen, hus, rfl, rfl⟩
    rw [List.length_map, lx] at hlen
    refine nw_at (w' := ⟨[some (.im (lI ns)), some (.im (.int j)), some (.ow [.int q']), some (.im (.int n)), some (.im (.list (ts.map Tm.d))), some (.im (.list (us.map Tm.d))), c6, none, none, none, none, none], [], []⟩) rfl ?_
    refine nw_seq (nw_S (v := [some (.im (lI ns)), some (.im (.int j)), some (.ow [.int q']), some (.im (.int n)), some (.im (.list (ts.map Tm.d))), some (.im (.list (us.map Tm.d))), c6, none, none, none, none, none]) rfl ?_)
    walk_at "mirn"
    obtain ⟨way, p5, w0, w1, hp5, e5⟩ := takes (k := 4) hq' (by omega) (by omega)
    refine ev_of e5 ?_
    refine nw_at (w' := ⟨[some (.im (lI ns)), some (.im (.int j)), some (.ow [.int p5]), some (.im (.int n)), some (.im (.list (ts.map Tm.d))), some (.im (.list (us.map Tm.d))), some (.im (.int way)), none, none, none, none, none], [], []⟩) rfl ?_
    refine nw_seq (nw_imp1 (law_if1 (b := 6) hp5 (by omega) hus) ?_)
    rintro w ⟨p6, us6, hp6, hb6, hus6, rfl⟩
    refine nw_seq (nw_imp1 (law_if2 (b := 6) hp6 n1 n9 hb6 (by omega) hus6) ?_)
    rintro w ⟨p7, us7, hp7, hb7, hus7, rfl⟩
    refine nw_seq (nw_imp1 (law_if3 (b := 7) hp7 hb7 (by omega) hus7) ?_)
    rintro w ⟨p8, us8, hp8, hb8, hus8, rfl⟩
    refine nw_imp1 (law_turn hS hp8 ⟨n1, n9, hts, hus8, lt, by omega⟩) ?_
    rintro w ⟨p9, e⟩
    refine ⟨_, _, _, _, _, _, ?_, e⟩
    rfl
  · rintro w ⟨c1, c2, c3, c4, c5, c6, ho, rfl⟩
    refine nw_S (v := [some (.im (lI ns)), c1, c2, c3, c4, c5, c6, none, none, none, none, none]) rfl ?_
    refine es_ret ?_
    refine ev_of (a := .bool true) (s := [some (.im (lI ns)), c1, c2, c3, c4, c5, c6, none, none, none, none, none]) (by kernel_rfl) ?_
    refine ⟨rfl, ?_, rfl⟩
    show ownOk [some (.im (lI ns)), c1, c2, c3, c4, c5, c6, none, none, none, none, none] = true
    simpa [ownOk] using ho
theorem caK_eq {K : PySem.W.Frag} {x : Str} {C : Addr} (g : PySem.W.nsIn K mainGlobals x = some (some (.ref C))) : caK K x = C := by
  unfold caK
  rw [g]
def stiKB (K : PySem.W.Frag) : Bool :=
  (PySem.W.plainGet K (caK K "Stints") Str.empty && PySem.W.hasDictIn K (caK K "Stints") && PySem.W.plainOver K (caK K "Stints") &&
  (PySem.W.findIn K (.ref (caK K "Stints")) "__setattr__" == some (some (.builtin "object.__setattr__"))) &&
  (PySem.W.findIn K (.ref (caK K "Stints")) "__class__" == some (some (.builtin "object.__class__"))) &&
  (PySem.W.specialIn K (.builtin "object.__class__") "__get__" == some (some (.builtin "getset_descriptor.__get__"))) &&
  (PySem.W.takesIn K (.builtin "object.__class__") == some true) &&
  (PySem.W.mroIn K (caK K "Stints") (.type "object") == some true)) &&
  ((tyFive.all fun T => PySem.W.kitOne K (.ref (caK K "Stints")) (.type T) == some false) &&
  ((PySem.W.findIn K (.ref (caK K "Stints")) "many" == some none) &&
  ((PySem.W.findIn K (.ref (caK K "Stints")) "now" == some none) && (PySem.W.findIn K (.ref (caK K "Stints")) "past" == some none))))
theorem stI_of {K : PySem.W.Frag} (c : stiKB K = true) : StI K := by
  unfold stiKB at c
  simp only [Bool.and_eq_true, beq_iff_eq] at c
  obtain ⟨⟨⟨⟨⟨⟨⟨⟨c1, c2⟩, c3⟩, c4⟩, c5⟩, c6⟩, c7⟩, c8⟩, c9, c10, c11, c12⟩ := c
  exact ⟨⟨c1, c2, c3, c4⟩, c5, c6, c7, c8, fun T hT => beq_iff_eq.mp (List.all_eq_true.mp c9 T hT), c10, c11, c12⟩
theorem standsM_of {K : PySem.W.Frag} {h : Heap} {m q : Str} {st : Stmt} {C f : Addr} {od an : Option Addr} {sl : Array (Option Value)} {oc kV dc pm cd ct : Value} {ps : List Str} (KX : K.In h)
    (g : PySem.W.nsIn K mainGlobals "Stints" = some (some (.ref C))) (a : PySem.W.findIn K (.ref C) m = some (some (.ref f))) (fn : PySem.W.isFn K (.ref f) = true)
    (l : K.lookup f = some ⟨oc, od, .func (PySem.W.fnOf m q (defArgs st) (defBody st) (defScope st) .none kV dc pm an cd ct), sl⟩) (c : PySem.W.codeIn K cd q = true) (k : PySem.W.keepIn K (.ref f) = true)
    (b : ∀ (kV doc pm : Value) (an : Option Addr) (cdv ct : Value) (us : List Value), us.length = ps.length → bindArgs (PySem.W.fnOf m q (defArgs st) (defBody st) (defScope st) .none kV doc pm an cdv ct) ⟨us, []⟩ = pure (ps.zip us)) : StandsM K m q st ps :=
  ⟨f, _, ⟨by rw [caK_eq g]; exact a, fn, k⟩, fun_mk l c k, (fun_mk l c k).binds b⟩
theorem standsI_of {K : PySem.W.Frag} {h : Heap} {mg : Str → Option Value} {q : Str} {params : Arguments} {body : List Stmt} {scope : Scope} {C f T e : Addr} {od an : Option Addr} {sl : Array (Option Value)} {oc kV dc pm cd ct : Value} {ob : Obj} {n : Nat} (KX : K.In h) (G : h.Ns mainGlobals mg)
    (g : PySem.W.nsIn K mainGlobals "Stints" = some (some (.ref C))) (a : PySem.W.findIn K (.ref C) "__init__" = some (some (.ref f))) (fn : PySem.W.isFn K (.ref f) = true)
    (l : K.lookup f = some ⟨oc, od, .func (PySem.W.fnOf "__init__" q params body scope (.ref T) kV dc pm an cd ct), sl⟩) (c : PySem.W.codeIn K cd q = true) (k : PySem.W.keepIn K (.ref f) = true)
    (kc : PySem.W.keepIn K (.ref C) = true) (mk : PySem.W.makesIn K C = true) (lT : K.lookup T = some ob) (oT : ob.data = .seq #[Value.ref e] n)
    (b : ∀ (T : Addr) (kV doc pm : Value) (an : Option Addr) (cdv ct : Value) (us its : List Value), us.length = 3 → its.length = 1 →
      ∃ k, bindArgs (PySem.W.fnOf "__init__" q params body scope (.ref T) kV doc pm an cdv ct) ⟨us, []⟩ = seqItems? (.ref T) >>= k ∧ k (some its.toArray) = pure ((["self", "many", "terms"] : List Str).zip (us ++ its.drop 1))) :
    StandsI K mg q params body scope f (PySem.W.fnOf "__init__" q params body scope (.ref T) kV dc pm an cd ct) := by
  have F : FunD K "__init__" q params body scope [V.ref e] [] f (PySem.W.fnOf "__init__" q params body scope (.ref T) kV dc pm an cd ct) :=
    ⟨⟨oc, od, .ref T, kV, dc, pm, an, cd, ct, sl, rfl, l, c, .inr ⟨by simp, T, _, [Value.ref e], n, rfl, lT, oT, .cons rfl .nil⟩, .inl rfl⟩, k⟩
  obtain ⟨ds, hv, hb⟩ := F.binds1 (ps := ["self", "many", "terms"]) 3 1 (by simp) rfl b
  have hv : Vals [] ds := hv
  cases hv
  exact ⟨by rw [caK_eq g]; exact PySem.W.mg_of KX G g, by rw [caK_eq g]; exact ⟨mk, a, fn, kc⟩, ⟨oc, od, .ref T, kV, dc, pm, an, cd, ct, sl, rfl, l, c⟩, hb⟩
theorem standsK_of {K : PySem.W.Frag} {h : Heap} {m q : Str} {st : Stmt} {C f D : Addr} {od an : Option Addr} {sl : Array (Option Value)} {oc dc pm cd ct : Value} (KX : K.In h)
    (g : PySem.W.nsIn K mainGlobals "Stints" = some (some (.ref C))) (a : PySem.W.findIn K (.ref C) m = some (some (.ref f))) (fn : PySem.W.isFn K (.ref f) = true)
    (l : K.lookup f = some ⟨oc, od, .func (PySem.W.fnOf m q (defArgs st) (defBody st) (defScope st) .none (.ref D) dc pm an cd ct), sl⟩) (c : PySem.W.codeIn K cd q = true) (k : PySem.W.keepIn K (.ref f) = true)
    (d1 : PySem.W.nsIn K D "least" = some (some .none)) (d2 : PySem.W.nsIn K D "most" = some (some .none)) : StandsK K m q st [("least", V.non), ("most", V.non)] :=
  ⟨f, _, ⟨by rw [caK_eq g]; exact a, fn, k⟩, ⟨⟨oc, od, .none, .ref D, dc, pm, an, cd, ct, sl, rfl, l, c, .inl ⟨rfl, rfl⟩, .inr ⟨D, rfl, fun p hp => by
    simp only [List.mem_cons, List.not_mem_nil, or_false] at hp
    rcases hp with rfl | rfl
    · exact ⟨_, d1, rfl⟩
    · exact ⟨_, d2, rfl⟩⟩⟩, k⟩⟩
def stJB (K : PySem.W.Frag) : Bool :=
  (tySix.all fun T => PySem.W.kitOne K (.type T) (.ref (caK K "Stints")) == some false) && ((PySem.W.kitOne K (.ref (caK K "Stints")) (.ref (caK K "Stints")) == some true) &&
  ((match PySem.W.findIn K (.ref (caK K "Stints")) "__getitem__" with
    | some (some (.ref f)) => PySem.W.fnIn K f
    | _ => false) && PySem.W.selfFirst K (caK K "Stints")))
theorem stJ_of {K : PySem.W.Frag} {h : Heap} {mg : Str → Option Value} {C : Addr} (KX : K.In h) (G : h.Ns mainGlobals mg) (g : PySem.W.nsIn K mainGlobals "Stints" = some (some (.ref C))) (c : stJB K = true) : StJ K mg := by
  unfold stJB at c
  simp only [Bool.and_eq_true, beq_iff_eq] at c
  obtain ⟨c1, c2, c3, c4⟩ := c
  refine ⟨by rw [caK_eq g]; exact PySem.W.mg_of KX G g, fun T hT => beq_iff_eq.mp (List.all_eq_true.mp c1 T hT), c2, ?_, c4⟩
  split at c3
  · rename_i f e
    exact ⟨f, e, c3⟩
  · cases c3
theorem standsI_ex2 {K : PySem.W.Frag} {h : Heap} {mg : Str → Option Value} {q : Str} {params : Arguments} {body : List Stmt} {scope : Scope} {C f T e : Addr} {od an : Option Addr} {sl : Array (Option Value)} {oc kV dc pm cd ct : Value} {ob oe : Obj} {n n2 : Nat} (KX : K.In h) (G : h.Ns mainGlobals mg)
    (g : PySem.W.nsIn K mainGlobals "Stints" = some (some (.ref C))) (a : PySem.W.findIn K (.ref C) "__init__" = some (some (.ref f))) (fn : PySem.W.isFn K (.ref f) = true)
    (l : K.lookup f = some ⟨oc, od, .func (PySem.W.fnOf "__init__" q params body scope (.ref T) kV dc pm an cd ct), sl⟩) (c : PySem.W.codeIn K cd q = true) (k : PySem.W.keepIn K (.ref f) = true)
    (kc : PySem.W.keepIn K (.ref C) = true) (mk : PySem.W.makesIn K C = true) (lT : K.lookup T = some ob) (oT : ob.data = .seq #[Value.ref e] n) (lE : K.lookup e = some oe) (oE : oe.cls = .type "tuple") (oD : oe.data = .seq #[] n2)
    (b : ∀ (T : Addr) (kV doc pm : Value) (an : Option Addr) (cdv ct : Value) (us its : List Value), us.length = 3 → its.length = 1 →
      ∃ k, bindArgs (PySem.W.fnOf "__init__" q params body scope (.ref T) kV doc pm an cdv ct) ⟨us, []⟩ = seqItems? (.ref T) >>= k ∧ k (some its.toArray) = pure ((["self", "many", "terms"] : List Str).zip (us ++ its.drop 1)))
    (b2 : ∀ (T : Addr) (kV doc pm : Value) (an : Option Addr) (cdv ct : Value) (us its : List Value), us.length = 2 → its.length = 1 →
      ∃ k, bindArgs (PySem.W.fnOf "__init__" q params body scope (.ref T) kV doc pm an cdv ct) ⟨us, []⟩ = seqItems? (.ref T) >>= k ∧ k (some its.toArray) = pure ((["self", "many", "terms"] : List Str).zip (us ++ its.drop 0))) :
    ∃ f fd, StandsI K mg q params body scope f fd ∧ DflI K fd := by
  refine ⟨_, _, standsI_of KX G g a fn l c k kc mk lT oT b, e, ?_, fun H => .inr ⟨oe, #[], n2, lE, oE, oD, Nat.zero_le _, .nil⟩⟩
  have F : FunD K "__init__" q params body scope [V.ref e] [] f (PySem.W.fnOf "__init__" q params body scope (.ref T) kV dc pm an cd ct) :=
    ⟨⟨oc, od, .ref T, kV, dc, pm, an, cd, ct, sl, rfl, l, c, .inr ⟨by simp, T, _, [Value.ref e], n, rfl, lT, oT, .cons rfl .nil⟩, .inl rfl⟩, k⟩
  obtain ⟨ds, hv, hb⟩ := F.binds1 (ps := ["self", "many", "terms"]) 2 0 (by simp) rfl b2
  have hv : Vals [V.ref e] ds := hv
  cases hv with
  | cons r rr =>
    cases rr
    cases r
    exact hb
end DL
open PySem PySem.W PyProof.Rows
set_option maxHeartbeats 0 in
theorem PySem.Challenge.cw_ringstints_k51_stints_beside_one_another_holds : PySem.Challenge.rw_ringstints_k51_stints_beside_one_another.Holds := by
  w_on; o_law; k_head; (case hw => w_witness2)
  k_fill
  refine DL.walk_ofG (l := PySem.Challenge.rw_ringstints_k51_stints_beside_one_another) (n := 63) (k := 19) (m := 12) (x := "_law_script") (g := DL.g_law) (fr := false) rfl (by decide) rfl ⟨rfl, by decide, by decide⟩ (fun w h Y => PySem.W.kIn_of Y) ?F DL.law_true
  case F =>
    intro w mg fa h KX G hmg
    have T : DL.Blt mg := by
      refine' DL.Blt.mk (PySem.W.mg_none_of KX G ?b_len) (PySem.W.mg_none_of KX G ?b_range) (PySem.W.mg_none_of KX G ?b_int) (PySem.W.mg_none_of KX G ?b_str) (PySem.W.mg_none_of KX G ?b_tuple) (PySem.W.mg_none_of KX G ?b_list) (PySem.W.mg_none_of KX G ?b_sum) (PySem.W.mg_none_of KX G ?b_max) (PySem.W.mg_none_of KX G ?b_min) (PySem.W.mg_none_of KX G ?b_abs) (PySem.W.mg_none_of KX G ?b_all) (PySem.W.mg_none_of KX G ?b_sorted) (PySem.W.mg_none_of KX G ?b_repr) (PySem.W.mg_none_of KX G ?b_isinstance) (PySem.W.mg_none_of KX G ?b_bool) (PySem.W.mg_none_of KX G ?b_enumerate) (PySem.W.mg_none_of KX G ?b_zip) (PySem.W.mg_none_of KX G ?b_ValueError) (PySem.W.mg_none_of KX G ?b_iter)
      (case b_len => k_is); (case b_range => k_is); (case b_int => k_is); (case b_str => k_is); (case b_tuple => k_is); (case b_list => k_is); (case b_sum => k_is); (case b_max => k_is); (case b_min => k_is); (case b_abs => k_is); (case b_all => k_is); (case b_sorted => k_is); (case b_repr => k_is); (case b_isinstance => k_is); (case b_bool => k_is); (case b_enumerate => k_is); (case b_zip => k_is); (case b_ValueError => k_is); (case b_iter => k_is)
    obtain ⟨C_NoPlaces, x_NoPlaces⟩ : ∃ C, DL.ExF _ mg "NoPlaces" C := by
      refine' ⟨_, DL.exf_of KX G ?a ?k ?b ?t ?x⟩
      (case a => k_is); (case k => k_is); (case b => k_is); (case t => k_is); (case x => k_exc)
    obtain ⟨C_NoTerms, x_NoTerms⟩ : ∃ C, DL.ExF _ mg "NoTerms" C := by
      refine' ⟨_, DL.exf_of KX G ?a ?k ?b ?t ?x⟩
      (case a => k_is); (case k => k_is); (case b => k_is); (case t => k_is); (case x => k_exc)
    obtain ⟨C_NoNumber, x_NoNumber⟩ : ∃ C, DL.ExF _ mg "NoNumber" C := by
      refine' ⟨_, DL.exf_of KX G ?a ?k ?b ?t ?x⟩
      (case a => k_is); (case k => k_is); (case b => k_is); (case t => k_is); (case x => k_exc)
    obtain ⟨C_NoTerm, x_NoTerm⟩ : ∃ C, DL.ExF _ mg "NoTerm" C := by
      refine' ⟨_, DL.exf_of KX G ?a ?k ?b ?t ?x⟩
      (case a => k_is); (case k => k_is); (case b => k_is); (case t => k_is); (case x => k_exc)
    obtain ⟨C_NoMost, x_NoMost⟩ : ∃ C, DL.ExF _ mg "NoMost" C := by
      refine' ⟨_, DL.exf_of KX G ?a ?k ?b ?t ?x⟩
      (case a => k_is); (case k => k_is); (case b => k_is); (case t => k_is); (case x => k_exc)
    obtain ⟨C_NoTurn, x_NoTurn⟩ : ∃ C, DL.ExF _ mg "NoTurn" C := by
      refine' ⟨_, DL.exf_of KX G ?a ?k ?b ?t ?x⟩
      (case a => k_is); (case k => k_is); (case b => k_is); (case t => k_is); (case x => k_exc)
    obtain ⟨C_Unlike, x_Unlike⟩ : ∃ C, DL.ExF _ mg "Unlike" C := by
      refine' ⟨_, DL.exf_of KX G ?a ?k ?b ?t ?x⟩
      (case a => k_is); (case k => k_is); (case b => k_is); (case t => k_is); (case x => k_exc)
    obtain ⟨t_MOST_PLACES, g_MOST_PLACES⟩ : ∃ t, mg "MOST_PLACES" = some (.int 40 t) := by
      obtain ⟨v, hv, t, ht⟩ : ∃ v, mg "MOST_PLACES" = some v ∧ ∃ t, v = .int 40 t := by
        refine' ⟨_, PySem.W.mg_of KX G ?aMOST_PLACES, ?bMOST_PLACES⟩
        (case aMOST_PLACES => k_is)
        exact ⟨_, rfl⟩
      exact ⟨t, ht ▸ hv⟩
    have ST : DL.StI (DL.FrX KX) := DL.stI_of (by kernel_rfl)
    have SNE : DL.StNe (DL.FrX KX) := by unfold DL.StNe; kernel_rfl
    have SJ : DL.StJ (DL.FrX KX) mg := by
      refine' (DL.stJ_of KX G ?g (by kernel_rfl) : DL.StJ _ mg)
      (case g => k_is)
    have S__wall : DL.Stands (DL.FrX KX) mg "_wall" DL.s__wall ["k"] := by
      refine' (DL.stands_of KX G ?a ?l ?c ?k (fun _ _ _ _ _ _ us hl => match us, hl with | [_], _ => rfl) : DL.Stands _ mg "_wall" DL.s__wall ["k"])
      (case a => k_is); (case l => k_is); (case c => k_is); (case k => k_is)
    have S_is_whole : DL.Stands (DL.FrX KX) mg "is_whole" DL.s_is_whole ["thing"] := by
      refine' (DL.stands_of KX G ?a ?l ?c ?k (fun _ _ _ _ _ _ us hl => match us, hl with | [_], _ => rfl) : DL.Stands _ mg "is_whole" DL.s_is_whole ["thing"])
      (case a => k_is); (case l => k_is); (case c => k_is); (case k => k_is)
    have S_is_from : DL.Stands (DL.FrX KX) mg "is_from" DL.s_is_from ["thing", "low"] := by
      refine' (DL.stands_of KX G ?a ?l ?c ?k (fun _ _ _ _ _ _ us hl => match us, hl with | [_, _], _ => rfl) : DL.Stands _ mg "is_from" DL.s_is_from ["thing", "low"])
      (case a => k_is); (case l => k_is); (case c => k_is); (case k => k_is)
    have S_is_within : DL.Stands (DL.FrX KX) mg "is_within" DL.s_is_within ["thing", "low", "high"] := by
      refine' (DL.stands_of KX G ?a ?l ?c ?k (fun _ _ _ _ _ _ us hl => match us, hl with | [_, _, _], _ => rfl) : DL.Stands _ mg "is_within" DL.s_is_within ["thing", "low", "high"])
      (case a => k_is); (case l => k_is); (case c => k_is); (case k => k_is)
    have S_is_term : DL.Stands (DL.FrX KX) mg "is_term" DL.s_is_term ["many", "thing"] := by
      refine' (DL.stands_of KX G ?a ?l ?c ?k (fun _ _ _ _ _ _ us hl => match us, hl with | [_, _], _ => rfl) : DL.Stands _ mg "is_term" DL.s_is_term ["many", "thing"])
      (case a => k_is); (case l => k_is); (case c => k_is); (case k => k_is)
    obtain ⟨f_M_init, fd_M_init, S_M_init, D_M_init⟩ : ∃ f fd, DL.StandsI (DL.FrX KX) mg "Stints.__init__" (L2.defArgs DL.s_M_init) (L2.defBody DL.s_M_init) (L2.defScope DL.s_M_init) f fd ∧ DL.DflI (DL.FrX KX) fd := by
      refine' (DL.standsI_ex2 (q := "Stints.__init__") (params := L2.defArgs DL.s_M_init) (body := L2.defBody DL.s_M_init) (scope := L2.defScope DL.s_M_init) KX G ?g ?a ?f ?l ?c ?k ?kc ?mk ?lT ?oT ?lE ?oE ?oD (fun _ _ _ _ _ _ _ us its hl h1 => match us, hl, its, h1 with | [_, _, _], _, [_], _ => ⟨_, rfl, rfl⟩) (fun _ _ _ _ _ _ _ us its hl h1 => match us, hl, its, h1 with | [_, _], _, [_], _ => ⟨_, rfl, rfl⟩) : ∃ f fd, DL.StandsI _ mg "Stints.__init__" (L2.defArgs DL.s_M_init) (L2.defBody DL.s_M_init) (L2.defScope DL.s_M_init) f fd ∧ DL.DflI _ fd)
      (case g => k_is); (case a => k_is); (case f => k_is); (case l => k_is); (case c => k_is); (case k => k_is); (case kc => k_is); (case mk => k_is); (case lT => k_is); (case oT => exact rfl); (case lE => k_is); (case oE => exact rfl); (case oD => exact rfl)
    have S_M_take : DL.StandsM (DL.FrX KX) "take" "Stints.take" DL.s_M_take ["self", "terms"] := by
      refine' (DL.standsM_of KX ?g ?a ?f ?l ?c ?k (fun _ _ _ _ _ _ us hl => match us, hl with | [_, _], _ => rfl) : DL.StandsM _ "take" "Stints.take" DL.s_M_take ["self", "terms"])
      (case g => k_is); (case a => k_is); (case f => k_is); (case l => k_is); (case c => k_is); (case k => k_is)
    have S_M_look_at_number : DL.StandsM (DL.FrX KX) "look_at_number" "Stints.look_at_number" DL.s_M_look_at_number ["self", "t"] := by
      refine' (DL.standsM_of KX ?g ?a ?f ?l ?c ?k (fun _ _ _ _ _ _ us hl => match us, hl with | [_, _], _ => rfl) : DL.StandsM _ "look_at_number" "Stints.look_at_number" DL.s_M_look_at_number ["self", "t"])
      (case g => k_is); (case a => k_is); (case f => k_is); (case l => k_is); (case c => k_is); (case k => k_is)
    have S_M_put : DL.StandsM (DL.FrX KX) "put" "Stints.put" DL.s_M_put ["self", "term"] := by
      refine' (DL.standsM_of KX ?g ?a ?f ?l ?c ?k (fun _ _ _ _ _ _ us hl => match us, hl with | [_, _], _ => rfl) : DL.StandsM _ "put" "Stints.put" DL.s_M_put ["self", "term"])
      (case g => k_is); (case a => k_is); (case f => k_is); (case l => k_is); (case c => k_is); (case k => k_is)
    have S_M_drop : DL.StandsM (DL.FrX KX) "drop" "Stints.drop" DL.s_M_drop ["self", "t"] := by
      refine' (DL.standsM_of KX ?g ?a ?f ?l ?c ?k (fun _ _ _ _ _ _ us hl => match us, hl with | [_, _], _ => rfl) : DL.StandsM _ "drop" "Stints.drop" DL.s_M_drop ["self", "t"])
      (case g => k_is); (case a => k_is); (case f => k_is); (case l => k_is); (case c => k_is); (case k => k_is)
    have S_M_change : DL.StandsK (DL.FrX KX) "change" "Stints.change" DL.s_M_change [("least", L2.V.non), ("most", L2.V.non)] := by
      refine' (DL.standsK_of KX ?g ?a ?f ?l ?c ?k ?d1 ?d2 : DL.StandsK _ "change" "Stints.change" DL.s_M_change [("least", L2.V.non), ("most", L2.V.non)])
      (case g => k_is); (case a => k_is); (case f => k_is); (case l => k_is); (case c => k_is); (case k => k_is); (case d1 => k_is); (case d2 => k_is)
    have S_M_turn : DL.StandsM (DL.FrX KX) "turn" "Stints.turn" DL.s_M_turn ["self", "k"] := by
      refine' (DL.standsM_of KX ?g ?a ?f ?l ?c ?k (fun _ _ _ _ _ _ us hl => match us, hl with | [_, _], _ => rfl) : DL.StandsM _ "turn" "Stints.turn" DL.s_M_turn ["self", "k"])
      (case g => k_is); (case a => k_is); (case f => k_is); (case l => k_is); (case c => k_is); (case k => k_is)
    have S_M_back : DL.StandsM (DL.FrX KX) "back" "Stints.back" DL.s_M_back ["self"] := by
      refine' (DL.standsM_of KX ?g ?a ?f ?l ?c ?k (fun _ _ _ _ _ _ us hl => match us, hl with | [_], _ => rfl) : DL.StandsM _ "back" "Stints.back" DL.s_M_back ["self"])
      (case g => k_is); (case a => k_is); (case f => k_is); (case l => k_is); (case c => k_is); (case k => k_is)
    have S_M_ring : DL.StandsM (DL.FrX KX) "ring" "Stints.ring" DL.s_M_ring ["self"] := by
      refine' (DL.standsM_of KX ?g ?a ?f ?l ?c ?k (fun _ _ _ _ _ _ us hl => match us, hl with | [_], _ => rfl) : DL.StandsM _ "ring" "Stints.ring" DL.s_M_ring ["self"])
      (case g => k_is); (case a => k_is); (case f => k_is); (case l => k_is); (case c => k_is); (case k => k_is)
    have S_M_iter : DL.StandsM (DL.FrX KX) "__iter__" "Stints.__iter__" DL.s_M_iter ["self"] := by
      refine' (DL.standsM_of KX ?g ?a ?f ?l ?c ?k (fun _ _ _ _ _ _ us hl => match us, hl with | [_], _ => rfl) : DL.StandsM _ "__iter__" "Stints.__iter__" DL.s_M_iter ["self"])
      (case g => k_is); (case a => k_is); (case f => k_is); (case l => k_is); (case c => k_is); (case k => k_is)
    have S_M_len : DL.StandsM (DL.FrX KX) "__len__" "Stints.__len__" DL.s_M_len ["self"] := by
      refine' (DL.standsM_of KX ?g ?a ?f ?l ?c ?k (fun _ _ _ _ _ _ us hl => match us, hl with | [_], _ => rfl) : DL.StandsM _ "__len__" "Stints.__len__" DL.s_M_len ["self"])
      (case g => k_is); (case a => k_is); (case f => k_is); (case l => k_is); (case c => k_is); (case k => k_is)
    have S_M_ior : DL.StandsM (DL.FrX KX) "__ior__" "Stints.__ior__" DL.s_M_ior ["self", "other"] := by
      refine' (DL.standsM_of KX ?g ?a ?f ?l ?c ?k (fun _ _ _ _ _ _ us hl => match us, hl with | [_, _], _ => rfl) : DL.StandsM _ "__ior__" "Stints.__ior__" DL.s_M_ior ["self", "other"])
      (case g => k_is); (case a => k_is); (case f => k_is); (case l => k_is); (case c => k_is); (case k => k_is)
    have S_M_eq : DL.StandsM (DL.FrX KX) "__eq__" "Stints.__eq__" DL.s_M_eq ["self", "other"] := by
      refine' (DL.standsM_of KX ?g ?a ?f ?l ?c ?k (fun _ _ _ _ _ _ us hl => match us, hl with | [_, _], _ => rfl) : DL.StandsM _ "__eq__" "Stints.__eq__" DL.s_M_eq ["self", "other"])
      (case g => k_is); (case a => k_is); (case f => k_is); (case l => k_is); (case c => k_is); (case k => k_is)
    have S_law_mixed : DL.Stands (DL.FrX KX) mg "_law_mixed" DL.s_law_mixed ["_law_cell", "_law_k"] := by
      refine' (DL.stands_of KX G ?a ?l ?c ?k (fun _ _ _ _ _ _ us hl => match us, hl with | [_, _], _ => rfl) : DL.Stands _ mg "_law_mixed" DL.s_law_mixed ["_law_cell", "_law_k"])
      (case a => k_is); (case l => k_is); (case c => k_is); (case k => k_is)
    have S_law_pile : DL.Stands (DL.FrX KX) mg "_law_pile" DL.s_law_pile ["_law_script", "_law_k"] := by
      refine' (DL.stands_of KX G ?a ?l ?c ?k (fun _ _ _ _ _ _ us hl => match us, hl with | [_, _], _ => rfl) : DL.Stands _ mg "_law_pile" DL.s_law_pile ["_law_script", "_law_k"])
      (case a => k_is); (case l => k_is); (case c => k_is); (case k => k_is)
    have S_law_take : DL.Stands (DL.FrX KX) mg "_law_take" DL.s_law_take ["_law_pile_here", "_law_size"] := by
      refine' (DL.stands_of KX G ?a ?l ?c ?k (fun _ _ _ _ _ _ us hl => match us, hl with | [_, _], _ => rfl) : DL.Stands _ mg "_law_take" DL.s_law_take ["_law_pile_here", "_law_size"])
      (case a => k_is); (case l => k_is); (case c => k_is); (case k => k_is)
    have S_law_order_of : DL.Stands (DL.FrX KX) mg "_law_order_of" DL.s_law_order_of ["_law_pile_here", "_law_many"] := by
      refine' (DL.stands_of KX G ?a ?l ?c ?k (fun _ _ _ _ _ _ us hl => match us, hl with | [_, _], _ => rfl) : DL.Stands _ mg "_law_order_of" DL.s_law_order_of ["_law_pile_here", "_law_many"])
      (case a => k_is); (case l => k_is); (case c => k_is); (case k => k_is)
    have S_law_new_term : DL.Stands (DL.FrX KX) mg "_law_new_term" DL.s_law_new_term ["_law_pile_here", "_law_many"] := by
      refine' (DL.stands_of KX G ?a ?l ?c ?k (fun _ _ _ _ _ _ us hl => match us, hl with | [_, _], _ => rfl) : DL.Stands _ mg "_law_new_term" DL.s_law_new_term ["_law_pile_here", "_law_many"])
      (case a => k_is); (case l => k_is); (case c => k_is); (case k => k_is)
    have S_law_laid : DL.Stands (DL.FrX KX) mg "_law_laid" DL.s_law_laid ["_law_pile_here", "_law_many", "_law_terms"] := by
      refine' (DL.stands_of KX G ?a ?l ?c ?k (fun _ _ _ _ _ _ us hl => match us, hl with | [_, _, _], _ => rfl) : DL.Stands _ mg "_law_laid" DL.s_law_laid ["_law_pile_here", "_law_many", "_law_terms"])
      (case a => k_is); (case l => k_is); (case c => k_is); (case k => k_is)
    have S_law_alike : DL.Stands (DL.FrX KX) mg "_law_alike" DL.s_law_alike ["_law_some", "_law_more"] := by
      refine' (DL.stands_of KX G ?a ?l ?c ?k (fun _ _ _ _ _ _ us hl => match us, hl with | [_, _], _ => rfl) : DL.Stands _ mg "_law_alike" DL.s_law_alike ["_law_some", "_law_more"])
      (case a => k_is); (case l => k_is); (case c => k_is); (case k => k_is)
    have S_law_pair_good : DL.Stands (DL.FrX KX) mg "_law_pair_good" DL.s_law_pair_good ["_law_one", "_law_other", "_law_some", "_law_more"] := by
      refine' (DL.stands_of KX G ?a ?l ?c ?k (fun _ _ _ _ _ _ us hl => match us, hl with | [_, _, _, _], _ => rfl) : DL.Stands _ mg "_law_pair_good" DL.s_law_pair_good ["_law_one", "_law_other", "_law_some", "_law_more"])
      (case a => k_is); (case l => k_is); (case c => k_is); (case k => k_is)
    have S_law_turns_good : DL.Stands (DL.FrX KX) mg "_law_turns_good" DL.s_law_turns_good ["_law_many", "_law_one", "_law_some"] := by
      refine' (DL.stands_of KX G ?a ?l ?c ?k (fun _ _ _ _ _ _ us hl => match us, hl with | [_, _, _], _ => rfl) : DL.Stands _ mg "_law_turns_good" DL.s_law_turns_good ["_law_many", "_law_one", "_law_some"])
      (case a => k_is); (case l => k_is); (case c => k_is); (case k => k_is)
    have S_law_apart_good : DL.Stands (DL.FrX KX) mg "_law_apart_good" DL.s_law_apart_good ["_law_many", "_law_one", "_law_other", "_law_some", "_law_more"] := by
      refine' (DL.stands_of KX G ?a ?l ?c ?k (fun _ _ _ _ _ _ us hl => match us, hl with | [_, _, _, _, _], _ => rfl) : DL.Stands _ mg "_law_apart_good" DL.s_law_apart_good ["_law_many", "_law_one", "_law_other", "_law_some", "_law_more"])
      (case a => k_is); (case l => k_is); (case c => k_is); (case k => k_is)
    have S_law : DL.Stands (DL.FrX KX) mg "law" DL.s_law ["_law_script"] := by
      refine' (DL.stands_of KX G ?a ?l ?c ?k (fun _ _ _ _ _ _ us hl => match us, hl with | [_], _ => rfl) : DL.Stands _ mg "law" DL.s_law ["_law_script"])
      (case a => k_is); (case l => k_is); (case c => k_is); (case k => k_is)
    have H : ∀ base : Heap, (DL.FrX KX).In base → base.Ns mainGlobals mg → DL.Has PySem.Challenge.pw_ringstints_k51_stints_beside_one_another w (DL.FrX KX) mg base (DL.caOf mg) "law" 19 ["_law_script"] [] false DL.F_law := by
      intro base _ _
      have h__wall := DL.ok__wall (P := PySem.Challenge.pw_ringstints_k51_stints_beside_one_another) (w := w) (base := base) T S__wall
      have h_is_whole := DL.ok_is_whole (P := PySem.Challenge.pw_ringstints_k51_stints_beside_one_another) (w := w) (base := base) T S_is_whole
      have h_is_from := DL.ok_is_from (P := PySem.Challenge.pw_ringstints_k51_stints_beside_one_another) (w := w) (base := base) T S_is_from h_is_whole
      have h_is_within := DL.ok_is_within (P := PySem.Challenge.pw_ringstints_k51_stints_beside_one_another) (w := w) (base := base) T S_is_within h_is_whole
      have h_is_term := DL.ok_is_term (P := PySem.Challenge.pw_ringstints_k51_stints_beside_one_another) (w := w) (base := base) T S_is_term h_is_within h_is_from
      have h_M_init := DL.ok_M_init (P := PySem.Challenge.pw_ringstints_k51_stints_beside_one_another) (w := w) (base := base) T S_M_init g_MOST_PLACES x_NoPlaces x_NoTerms h_is_within h_is_term
      have h_M_init1 := DL.HasI1.mk S_M_init D_M_init (DL.okG_M_init (P := PySem.Challenge.pw_ringstints_k51_stints_beside_one_another) (w := w) (base := base) T S_M_init g_MOST_PLACES x_NoPlaces x_NoTerms h_is_within h_is_term)
      have h_M_take := DL.ok_M_take (P := PySem.Challenge.pw_ringstints_k51_stints_beside_one_another) (w := w) (base := base) T S_M_take
      have h_M_look_at_number := DL.ok_M_look_at_number (P := PySem.Challenge.pw_ringstints_k51_stints_beside_one_another) (w := w) (base := base) T S_M_look_at_number x_NoNumber h_is_within
      have h_M_put := DL.ok_M_put (P := PySem.Challenge.pw_ringstints_k51_stints_beside_one_another) (w := w) (base := base) T S_M_put x_NoTerm ST h_is_term h_M_take
      have h_M_drop := DL.ok_M_drop (P := PySem.Challenge.pw_ringstints_k51_stints_beside_one_another) (w := w) (base := base) T S_M_drop ST h_M_look_at_number h_M_take
      have h_M_change := DL.ok_M_change (P := PySem.Challenge.pw_ringstints_k51_stints_beside_one_another) (w := w) (base := base) T S_M_change x_NoMost ST h_M_look_at_number h_is_from h_M_take
      have h_M_turn := DL.ok_M_turn (P := PySem.Challenge.pw_ringstints_k51_stints_beside_one_another) (w := w) (base := base) T S_M_turn x_NoTurn ST h_is_whole h_M_take
      have h_M_back := DL.ok_M_back (P := PySem.Challenge.pw_ringstints_k51_stints_beside_one_another) (w := w) (base := base) T S_M_back
      have h_M_ring := DL.ok_M_ring (P := PySem.Challenge.pw_ringstints_k51_stints_beside_one_another) (w := w) (base := base) T S_M_ring
      have h_M_iter := DL.ok_M_iter (P := PySem.Challenge.pw_ringstints_k51_stints_beside_one_another) (w := w) (base := base) T S_M_iter
      have IT := DL.okI_M_iter (P := PySem.Challenge.pw_ringstints_k51_stints_beside_one_another) (w := w) (base := base) T S_M_iter
      have h_M_len := DL.ok_M_len (P := PySem.Challenge.pw_ringstints_k51_stints_beside_one_another) (w := w) (base := base) T S_M_len
      have h_M_ior := DL.ok_M_ior (P := PySem.Challenge.pw_ringstints_k51_stints_beside_one_another) (w := w) (base := base) T S_M_ior x_Unlike ST SJ h_M_take
      have h_M_eq := DL.ok_M_eq (P := PySem.Challenge.pw_ringstints_k51_stints_beside_one_another) (w := w) (base := base) T S_M_eq SJ
      have h_law_mixed := DL.ok_law_mixed (P := PySem.Challenge.pw_ringstints_k51_stints_beside_one_another) (w := w) (base := base) T S_law_mixed
      have h_law_pile := DL.ok_law_pile (P := PySem.Challenge.pw_ringstints_k51_stints_beside_one_another) (w := w) (base := base) T S_law_pile h_law_mixed
      have h_law_take := DL.ok_law_take (P := PySem.Challenge.pw_ringstints_k51_stints_beside_one_another) (w := w) (base := base) T S_law_take
      have h_law_order_of := DL.ok_law_order_of (P := PySem.Challenge.pw_ringstints_k51_stints_beside_one_another) (w := w) (base := base) T S_law_order_of h_law_take
      have h_law_new_term := DL.ok_law_new_term (P := PySem.Challenge.pw_ringstints_k51_stints_beside_one_another) (w := w) (base := base) T S_law_new_term h_law_take
      have h_law_laid := DL.ok_law_laid (P := PySem.Challenge.pw_ringstints_k51_stints_beside_one_another) (w := w) (base := base) T S_law_laid ST h_M_init1 h_M_init h_law_take h_M_put h_M_drop h_M_len h_M_change h_M_turn
      have h_law_alike := DL.ok_law_alike (P := PySem.Challenge.pw_ringstints_k51_stints_beside_one_another) (w := w) (base := base) T S_law_alike
      have h_law_pair_good := DL.ok_law_pair_good (P := PySem.Challenge.pw_ringstints_k51_stints_beside_one_another) (w := w) (base := base) T S_law_pair_good SNE h_law_alike h_M_eq h_M_iter h_M_len
      have h_law_turns_good := DL.ok_law_turns_good (P := PySem.Challenge.pw_ringstints_k51_stints_beside_one_another) (w := w) (base := base) T S_law_turns_good ST SNE h_M_init h_M_turn h_M_eq h_law_alike h_M_back
      have h_law_apart_good := DL.ok_law_apart_good (P := PySem.Challenge.pw_ringstints_k51_stints_beside_one_another) (w := w) (base := base) T S_law_apart_good ST SJ SNE IT h_M_init1 h_M_init h_M_ior h_M_eq h_M_iter h_M_len h_M_put h_M_back h_M_change h_M_drop h_law_turns_good h_law_pair_good
      have h_law := DL.ok_law (P := PySem.Challenge.pw_ringstints_k51_stints_beside_one_another) (w := w) (base := base) T S_law ST h_law_pile h_law_take h_law_new_term h_law_order_of h_law_laid h_law_pair_good h_law_apart_good h_M_init h_M_eq h_M_ring
      exact h_law
    exact DL.has_fit S_law H hmg
