import PyProof.Rows.All
import Wide.All
import OpenK.AllK
import Wide.FinOn
import HandS.ForMost
import HandS.ForExc
import HandS.Walk
import HandS.Sort
import HandS.SortInts
import HandS.ExcIs
import HandS.SetBool
import PyProof.ListMulRoad
import HandS.Wide
import HandS.TupAny
import HandS.TupMul
import HandS.IsInst
import HandS.Style
import HandS.Deep
import PyProof.ReprRoads
import KE.KExcIs
import KE.GoesEnum
import PyProof.FactsAll.tuple_2
import HandS.Star
import HandS.RevTup
import HandS.Dict
import HandS.Iter
import HandS.ExcInit
import HandS.ExcField
import HandS.Conv
import HandS.Zip
import HandS.Text
import HandS.Codes
import PyProof.StrBlock2
import KE.KDictZip
import KE.KItemsList
import PyProof.CollectWalk
import HandS.ListItems
import PyProof.ReprLen
import PyProof.P3Eq
import HandS.HotCalls
import HandS.Defaults
import HandS.MakeKwOnly
import HandS.ExcCtx
import PySem.Challenge.RW_ringstints_k24_names_of_arguments
set_option Elab.async false
set_option linter.all false
set_option maxRecDepth 100000
set_option maxHeartbeats 4000000
namespace DL
/-- the package's errors that the text has -/
def exNames : List PySem.Str := ["StintsError", "NoRing", "NoLaying", "NoTotal", "NoStretch", "Barred"]
end DL
namespace L2N
open PySem PySem.Spec PyProof.Rows L2
section
variable {X : Cx} {C fI : Addr} {fd : FuncData} {ps : List Str} {sp : Sp} {k : Nat} {CX : CXT}
/-- the class called with values -/
theorem own_called {pins : List (Addr × Obj)} {σ : L2.St} {H : Hp} {s : Shared} {us : List Value} {vs : List V} {Q : XK} (T : OexC X.K C) (ini : PySem.W.findIn X.K (.ref C) "__init__" = some (some (.ref fI))) (fn : PySem.W.typeIn X.K (.ref fI) = some (.type "function"))
    (F : FnOk X.prog X.w X.K X.mg X.base CX k fI fd ps sp) (room : Room (k + 1) X.A) (bind : Binds X.K fd ps []) (noEsc : Passes CX X fun _ _ _ => False) (I : Inv X pins σ H s) (rel : Vals vs us) (few : vs.length ≤ 1000)
    (want : ∀ a, H a = none → sp (.ref a :: vs) (upd H a (exo a C none)) (fun v H2 => v = .non ∧ ∃ (d : Addr) (fs : List (Str × V)), H2 a = some (exo a C (some d)) ∧ H2 d = some (exd d fs) ∧ H d = none ∧ Q (.ref C) (some d) (upd (del H2 a) d (.xd fs))) (fun _ _ _ => False)) :
    wpAny (model X.prog X.w) X.A (call (.ref C) us) (MkP X pins σ Q) X.xe s := by
  obtain ⟨_, _, _, _, bm, _, _, _, _, _, _, _, _, _, _, hC, mro⟩ := T.cls
  cases s with
  | mk hp gens drawn toks os =>
  -- the tuple of the arguments is laid first, then the error
  let a : Addr := hp.objs.size + 1
  let hp2 : Heap := (hp.push (PySem.W.kdv_tup us)).push (PySem.HandSPX.excO C hp.objs.size)
  have above : hp.objs.size ≤ a := Nat.le_add_right _ _
  have free : H a = none := I.hok.fresh above
  have ask := want a free
  have grown : ∀ b u, hp.get? b = some u → hp2.get? b = some u := fun b u e => Heap.get?_push_of_some _ (Heap.get?_push_of_some _ e)
  have there : hp2.get? a = some (PySem.HandSPX.excO C hp.objs.size) := by
    show ((hp.push (PySem.W.kdv_tup us)).push (PySem.HandSPX.excO C hp.objs.size)).get? (hp.objs.size + 1) = _
    heap_get
  have J : Inv X pins σ (upd H a (exo a C none)) ⟨hp2, gens, drawn, toks, os⟩ := I.laid (t' := toks) (a := a) (o := exo a C none) (h' := hp2) grown above (exo_ok there)
  have rel2 : Vals (V.ref a :: vs) (Value.ref a :: us) := .cons rfl rel
  have len : (Value.ref a :: us).length = ps.length := rel2.length.symm.trans (F.len _ _ _ _ ask)
  have short : us.length ≤ sizeLine := by rw [← rel.length, sizeLine_eq]; omega
  have bound := bind _ (Value.ref a :: us) J.kIn (by rw [List.append_nil]; exact len)
  rw [List.append_nil] at bound
  have ran := F.run _ X.stack _ _ ⟨Value.ref a :: us, []⟩ (Value.ref a :: us) _ _ (fun _ _ _ => False) (room.make C us []) (J.env0.make C us []) bound rel2 ask
  refine wpAny_call (PySem.HandSPX.call_own PySem.F.excBase_ValueError (fun Y => PySem.HandSPX.refsVE_contains Y bm mro) (I.kIn _ _ hC) (PySem.W.looks_findIn I.kIn ini) (fun self => PySem.W.bind_fn I.kIn self fn) short (codeAny_mono ran fun r s2 told => ?_))
  match r, told with
  | .error er, told => exact noEsc pins σ _ _ er s2 J told
  | .ok .next, told => exact told.elim
  | .ok .brk, told => exact told.elim
  | .ok .cont, told => exact told.elim
  | .ok (.ret u), told =>
    obtain ⟨v, H2, sameOs, bare, un, ok2, rv, ev, d, fs, atA, atD, newD, q⟩ := told
    subst ev
    cases s2 with
    | mk h2 g2 d2 t2 o2 =>
      obtain ⟨t0, G, JG, kG, notG, obj, gone⟩ := mk_end0 (d2 := d2) (t2 := t2) I above grown un ok2 sameOs bare atA atD newD
      have made : Zn (.ref C) (some d) ({ cls := .ref C, dict := some d, data := .fields #[.ref t0, .none, .none, .none, .bool false, .none] } : Obj) := ⟨rfl, rfl, fun vs e => by cases e; rfl⟩
      exact ⟨rv, ⟨a, _, _, ⟨G, g2, d2, t2, o2⟩, _, .ref C, some d, rfl, JG, kG, notG, obj, made, rfl, rfl, gone, rfl, bare, raises_own T.exC T.tyC, q⟩⟩
theorem pmk_oexN {x : Str} {e : Expr} {es : List Expr} {ta : TA} {p pos : Pos} (T : OexC X.K C) (ini : PySem.W.findIn X.K (.ref C) "__init__" = some (some (.ref fI))) (fn : PySem.W.typeIn X.K (.ref fI) = some (.type "function")) (F : FnOk X.prog X.w X.K X.mg X.base CX k fI fd ps sp) (room : Room (k + 1) X.A) (bind : Binds X.K fd ps [])
    (none : Vals [] []) (noEsc : Passes CX X fun _ _ _ => False) (hg : Gl X x) (hm : X.mg x = some (.ref C)) (ha : PA X (e :: es) ta) (hdb : (x == ("__debug__" : Str)) = false := by decide) (st : starEach (e :: es) X.env = (false, eval e X.env) :: starEach es X.env := by rfl) (pl : (backTo pos (starEach es X.env)).any (·.1) = false := by rfl) :
    PMk X (.Call (.Name x p) (e :: es) [] pos) (tMkO C sp [] ta) := fun pins s σ H Q I h => by
  refine wpAny_Call_Name_kw (ld_glob I hg hm ?_ hdb)
  refine PySem.W.callWith_K (h₀ := X.base) I.ok.mod.kin T.kC (thn (ha.run pos pins s σ H _ I h) fun us s1 ⟨vs, H1, I1, r1, few, q⟩ => ⟨I1.kIn, ?_⟩) st pl
  exact own_called T ini fn F room bind noEsc I1 r1 few fun a na => by
    have := q a na
    rw [List.append_nil] at this
    exact this
end
end L2N
namespace DL
open PySem PySem.Spec PyProof.Rows L2
abbrev D := PyData
/-- an exception: its class's name, its fields -/
structure Exn where
  cls : Str
  dat : List (Str × D)
inductive R (S α : Type) where
  | stuck
  | ok (a : α)
  | err (x : Exn) (s : S)
def R.bind {S α β : Type} : R S α → (α → R S β) → R S β
  | .stuck, _ => .stuck
  | .ok a, f => f a
  | .err x s, _ => .err x s
def ofO {S α : Type} : Option α → R S α
  | some a => .ok a
  | none => .stuck
/-- what is wanted of a run -/
def R.post {S α : Type} (p : α → Prop) (q : Exn → S → Prop) : R S α → Prop
  | .stuck => False
  | .ok a => p a
  | .err x s => q x s
theorem R.post_bind {S α β : Type} {p : β → Prop} {q : Exn → S → Prop} {r : R S α} {f : α → R S β} (h : (r.bind f).post p q) : r.post (fun a => (f a).post p q) q := by
  cases r with
  | stuck => exact h
  | ok a => exact h
  | err x s => exact h
theorem R.post.imp {S α : Type} {p p' : α → Prop} {q q' : Exn → S → Prop} {r : R S α} (h : r.post p q) (hp : ∀ a, p a → p' a) (hq : ∀ x s, q x s → q' x s) : r.post p' q' := by
  cases r with
  | stuck => exact h
  | ok a => exact hp a h
  | err x s => exact hq x s h
theorem ofO_post {S α : Type} {p : α → Prop} {q : Exn → S → Prop} {o : Option α} (h : (ofO o : R S α).post p q) : ∃ a, o = some a ∧ p a := by
  cases o with
  | none => exact h.elim
  | some a => exact ⟨a, rfl, h⟩
/-- what the dict at a holds -/
def BDk (h : Heap) (a : Addr) (vs : List (Bool × V)) : Prop := vs.length ≤ sizeLine ∧ (a == sysModules) = false ∧
  ∃ (P : Program) (w : World) (us : List (Bool × Value)), KV vs us ∧ h.DictOf (PpSet.boolK P w) a us
def BD (a : Addr) (vs : List (Bool × V)) : HO := .ext fun h => BDk h a vs
/-- what a slot holds: data that nobody changes; a list that is the slot's own; a dict that is -/
inductive Sl where
  | im (d : D)
  | ow (ds : List D)
  | dk (kvs : List (Key × D))
  /-- .. whose keys are truth values -/
  | db (kvs : List (Bool × D))
def Sl.own : Sl → Bool
  | .im _ => false
  | _ => true
abbrev En := List (Option Sl)
variable {K : PySem.W.Frag}
/-- a list, a tuple that stays: O tells the addresses that may be changed -/
def LL (K : PySem.W.Frag) (O : Addr → Prop) (H : Hp) (a : Addr) (xs : List V) : Prop := SqL K H a xs ∧ (O a → ∀ H' : Hp, SqL K H' a xs)
def LT (K : PySem.W.Frag) (O : Addr → Prop) (H : Hp) (a : Addr) (xs : List V) : Prop := SqT K H a xs ∧ (O a → ∀ H' : Hp, SqT K H' a xs)
/-- the class that the main module's name x stands for -/
def caK (K : PySem.W.Frag) (x : Str) : Addr := match PySem.W.nsIn K mainGlobals x with
  | some (some (.ref a)) => a
  | _ => 0
/-- an exception that was caught, at a; its dict, if it has fields -/
def ExB (cls : Value) (d : Option Addr) (a : Addr) : HO := .ext fun h => ∃ (ob : Obj) (fs : Array Value), h.get? a = some ob ∧ (ob.cls = cls ∧ ob.dict = d) ∧ ob.data = .fields fs
def ExH (K : PySem.W.Frag) (O : Addr → Prop) (H : Hp) (a : Addr) (n : Str) : Prop := H a = some (ExB (.ref (caK K n)) none a) ∧ ¬ O a
/-- .. with one field -/
def ExP (K : PySem.W.Frag) (O : Addr → Prop) (H : Hp) (a dx : Addr) (n f : Str) (v : V) : Prop := (H a = some (ExB (.ref (caK K n)) (some dx) a) ∧ ¬ O a) ∧ (∃ fs, H dx = some (.xd fs) ∧ fs.lookup f = some v) ∧ ¬ O dx
def exSub (n m : Str) : Bool := n == m || m == "StintsError"
def tyFive : List String := ["int", "bool", "tuple", "list", "str"]
/-- what the written part tells of the class of an error -/
structure ExI (K : PySem.W.Frag) (n : Str) : Prop where
  c : ExcC K (caK K n)
  b : ∀ T : String, T ∈ tyFive → PySem.W.kitOne K (.ref (caK K n)) (.type T) = some false
  v : PySem.W.kitOne K (.ref (caK K n)) (.type "ValueError") = some true
  e : PySem.W.exmOne K (.ref (caK K n)) (.ref (caK K "StintsError")) = some true
  s : ∀ m : Str, m ∈ exNames → PySem.W.kitOne K (.ref (caK K n)) (.ref (caK K m)) = some (exSub n m)
/-- the fields of a Stints: its places, its list of terms, its list of what was before -/
abbrev stF (m : Int) (n p : Addr) : List (Str × V) := [("many", .int m), ("now", .ref n), ("past", .ref p)]
/-- a Stints that nobody changes -/
def StH (K : PySem.W.Frag) (O : Addr → Prop) (H : Hp) (a dx n p : Addr) (m : Int) : Prop := H a = some (.ins (caK K "Stints") dx (stF m n p)) ∧ ¬ O a
/-- the list of what was before, where it is known -/
def PaH (O : Addr → Prop) (H : Hp) (p : Addr) (c : Int) : Prop := c < 0 → H p = some (.lst []) ∧ ¬ O p
/-- what the written part tells of the class Stints -/
structure StI (K : PySem.W.Frag) : Prop where
  cl : Cls K (caK K "Stints")
  ha : PySem.W.findIn K (.ref (caK K "Stints")) "__class__" = some (some (.builtin "object.__class__"))
  hn : PySem.W.specialIn K (.builtin "object.__class__") "__get__" = some (some (.builtin "getset_descriptor.__get__"))
  ht : PySem.W.takesIn K (.builtin "object.__class__") = some true
  hm : PySem.W.mroIn K (caK K "Stints") (.type "object") = some true
  b : ∀ T : String, T ∈ tyFive → PySem.W.kitOne K (.ref (caK K "Stints")) (.type T) = some false
  nM : NoAttr K (caK K "Stints") "many"
  nN : NoAttr K (caK K "Stints") "now"
  nP : NoAttr K (caK K "Stints") "past"
/-- a Stints as data; c below 0: it was never changed, its list of what was before is empty (c else is of no account there) -/
abbrev stiD (m : Int) (ds : List D) (c : Int) : D := .dict [(.str "Stints", .int m), (.str "now", .list ds), (.str "past", .int c)]
mutual
inductive At (K : PySem.W.Frag) (O : Addr → Prop) (H : Hp) : V → D → Prop
  | non : At K O H .non .none
  | bl (b : Bool) : At K O H (.bl b) (.bool b)
  | int (i : Int) : At K O H (.int i) (.int i)
  | str (x : Str) : At K O H (.str x) (.str x)
  | lst {a : Addr} {xs : List V} {ds : List D} : LL K O H a xs → AtAll K O H xs ds → At K O H (.ref a) (.list ds)
  | tup {a : Addr} {xs : List V} {ds : List D} : LT K O H a xs → AtAll K O H xs ds → At K O H (.ref a) (.tuple ds)
  | exc {a : Addr} (n : Str) : ExH K O H a n → ExI K n → At K O H (.ref a) (.dict [(.str n, .none)])
  | excP {a dx : Addr} {v : V} {d : D} (n f : Str) : ExP K O H a dx n f v → ExI K n → At K O H v d → At K O H (.ref a) (.dict [(.str n, .none), (.str f, d)])
  | sti {a dx n p : Addr} {xs : List V} {ds : List D} (m : Int) (c : Int) : StI K → StH K O H a dx n p m → LL K O H n xs → AtAll K O H xs ds → PaH O H p c → At K O H (.ref a) (stiD m ds c)
inductive AtAll (K : PySem.W.Frag) (O : Addr → Prop) (H : Hp) : List V → List D → Prop
  | nil : AtAll K O H [] []
  | cons {v : V} {vs : List V} {d : D} {ds : List D} : At K O H v d → AtAll K O H vs ds → AtAll K O H (v :: vs) (d :: ds)
end
/-- the heap moves: what may not be changed stays; what is newly to be changed is new -/
structure Mv (O O' : Addr → Prop) (H H' : Hp) : Prop where
  keep : ∀ a o, H a = some o → ¬ O a → H' a = some o
  own : ∀ a, O' a → O a ∨ H a = none
  dom : ∀ a, H' a = none → H a = none
section
variable {O O' O'' : Addr → Prop} {H H' H'' : Hp}
theorem Mv.refl : Mv O O H H := ⟨fun _ _ e _ => e, fun _ h => .inl h, fun _ h => h⟩
theorem Mv.trans (a : Mv O O' H H') (b : Mv O' O'' H' H'') : Mv O O'' H H'' :=
  ⟨fun p o e n => b.keep p o (a.keep p o e n) fun h => (a.own p h).elim n fun z => (by rw [e] at z; cases z),
   fun p h => (b.own p h).elim (a.own p) fun z => .inr (a.dom p z), fun p h => a.dom p (b.dom p h)⟩
theorem SqL.mv {a : Addr} {xs : List V} (k : ∀ o, H a = some o → H' a = some o) (h : SqL K H a xs) : SqL K H' a xs := by
  rcases h with (h | ⟨o, h⟩) | h
  · exact .inl (.inl (k _ h))
  · exact .inl (.inr ⟨o, k _ h⟩)
  · exact .inr h
theorem SqT.mv {a : Addr} {xs : List V} (k : ∀ o, H a = some o → H' a = some o) (h : SqT K H a xs) : SqT K H' a xs := by
  rcases h with (h | ⟨o, h⟩) | h
  · exact .inl (.inl (k _ h))
  · exact .inl (.inr ⟨o, k _ h⟩)
  · exact .inr h
theorem LL.mv {a : Addr} {xs : List V} (m : Mv O O' H H') (h : LL K O H a xs) : LL K O' H' a xs := by
  obtain ⟨s, k⟩ := h
  by_cases hO : O a
  · exact ⟨k hO H', fun _ => k hO⟩
  · refine ⟨SqL.mv (fun o e => m.keep a o e hO) s, fun h' => ?_⟩
    rcases m.own a h' with z | z
    · exact absurd z hO
    · rcases s with (s | ⟨o, s⟩) | s
      · rw [s] at z; cases z
      · rw [s] at z; cases z
      · exact fun _ => .inr s
theorem LT.mv {a : Addr} {xs : List V} (m : Mv O O' H H') (h : LT K O H a xs) : LT K O' H' a xs := by
  obtain ⟨s, k⟩ := h
  by_cases hO : O a
  · exact ⟨k hO H', fun _ => k hO⟩
  · refine ⟨SqT.mv (fun o e => m.keep a o e hO) s, fun h' => ?_⟩
    rcases m.own a h' with z | z
    · exact absurd z hO
    · rcases s with (s | ⟨o, s⟩) | s
      · rw [s] at z; cases z
      · rw [s] at z; cases z
      · exact fun _ => .inr s
theorem ExH.mv {a : Addr} {n : Str} (m : Mv O O' H H') (h : ExH K O H a n) : ExH K O' H' a n := by
  obtain ⟨e, no⟩ := h
  refine ⟨m.keep a _ e no, fun z => ?_⟩
  rcases m.own a z with z | z
  · exact no z
  · rw [z] at e; cases e
theorem ExP.mv {a dx : Addr} {n f : Str} {v : V} (m : Mv O O' H H') (h : ExP K O H a dx n f v) : ExP K O' H' a dx n f v := by
  obtain ⟨⟨e, no⟩, ⟨fs, e2, l⟩, no2⟩ := h
  have key : ∀ {b : Addr} {o : HO}, H b = some o → ¬ O b → ¬ O' b := fun {b o} e n z => by
    rcases m.own b z with z | z
    · exact n z
    · rw [z] at e; cases e
  exact ⟨⟨m.keep a _ e no, key e no⟩, ⟨fs, m.keep dx _ e2 no2, l⟩, key e2 no2⟩
theorem StH.mv {a dx n p : Addr} {k : Int} (m : Mv O O' H H') (h : StH K O H a dx n p k) : StH K O' H' a dx n p k := by
  obtain ⟨e, no⟩ := h
  refine ⟨m.keep a _ e no, fun z => ?_⟩
  rcases m.own a z with z | z
  · exact no z
  · rw [z] at e; cases e
theorem PaH.mv {p : Addr} {c : Int} (m : Mv O O' H H') (h : PaH O H p c) : PaH O' H' p c := fun q => ⟨m.keep p _ (h q).1 (h q).2, fun z => (m.own p z).elim (h q).2 fun e => by rw [(h q).1] at e; cases e⟩
mutual
theorem At.mv (m : Mv O O' H H') : ∀ {v : V} {d : D}, At K O H v d → At K O' H' v d
  | _, _, .non => .non
  | _, _, .bl b => .bl b
  | _, _, .int i => .int i
  | _, _, .str x => .str x
  | _, _, .lst l r => .lst (l.mv m) (AtAll.mv m r)
  | _, _, .tup l r => .tup (l.mv m) (AtAll.mv m r)
  | _, _, .exc n h i => .exc n (h.mv m) i
  | _, _, .excP n f h i a => .excP n f (h.mv m) i (At.mv m a)
  | _, _, .sti k c i h l r q => .sti k c i (h.mv m) (l.mv m) (AtAll.mv m r) (q.mv m)
theorem AtAll.mv (m : Mv O O' H H') : ∀ {vs : List V} {ds : List D}, AtAll K O H vs ds → AtAll K O' H' vs ds
  | _, _, .nil => .nil
  | _, _, .cons a r => .cons (At.mv m a) (AtAll.mv m r)
end
mutual
theorem At.dp : ∀ {v : V} {d : D}, At K O H v d → PyData.canLay0 d = true → Dp K H v d
  | _, _, .non, _ => .non
  | _, _, .bl b, _ => .bl b
  | _, _, .int i, _ => .int i
  | _, _, .str x, _ => .str x
  | _, _, .lst l r, h => .lst l.1 (AtAll.dp r (by simpa only [PyData.canLay0] using h))
  | _, _, .tup l r, h => .tup l.1 (AtAll.dp r (by simpa only [PyData.canLay0] using h))
  | _, _, .exc n _ _, h => by simp [PyData.canLay0] at h
  | _, _, .excP n f _ _ _, h => by simp [PyData.canLay0] at h
  | _, _, .sti _ _ _ _ _ _ _, h => by simp [PyData.canLay0] at h
theorem AtAll.dp : ∀ {vs : List V} {ds : List D}, AtAll K O H vs ds → PyData.canLayAll0 ds = true → DpAll K H vs ds
  | _, _, .nil, _ => .nil
  | _, _, .cons a r, h => by
    simp only [PyData.canLayAll0, Bool.and_eq_true] at h
    exact .cons (At.dp a h.1) (AtAll.dp r h.2)
end
theorem AtAll.length : ∀ {vs : List V} {ds : List D}, AtAll K O H vs ds → vs.length = ds.length
  | _, _, .nil => rfl
  | _, _, .cons _ r => congrArg (· + 1) (AtAll.length r)
theorem AtAll.get : ∀ {vs : List V} {ds : List D} {i : Nat} {d : D}, AtAll K O H vs ds → ds[i]? = some d → ∃ v, vs[i]? = some v ∧ At K O H v d
  | _, _, _, _, .nil, e => by simp at e
  | _, _, 0, _, .cons a _, e => by simp at e; subst e; exact ⟨_, rfl, a⟩
  | _, _, i + 1, d, .cons _ r, e => by
    obtain ⟨v, h1, h2⟩ := AtAll.get (i := i) (d := d) r (by simpa using e)
    exact ⟨v, by simpa using h1, h2⟩
theorem AtAll.append : ∀ {vs us : List V} {ds es : List D}, AtAll K O H vs ds → AtAll K O H us es → AtAll K O H (vs ++ us) (ds ++ es)
  | _, _, _, _, .nil, q => q
  | _, _, _, _, .cons a r, q => .cons a (AtAll.append r q)
theorem AtAll.take : ∀ {vs : List V} {ds : List D} (n : Nat), AtAll K O H vs ds → AtAll K O H (vs.take n) (ds.take n)
  | _, _, 0, _ => by simp only [List.take_zero]; exact .nil
  | _, _, _ + 1, .nil => .nil
  | _, _, n + 1, .cons a r => .cons a (AtAll.take n r)
theorem AtAll.drop : ∀ {vs : List V} {ds : List D} (n : Nat), AtAll K O H vs ds → AtAll K O H (vs.drop n) (ds.drop n)
  | _, _, 0, r => by simpa only [List.drop_zero] using r
  | _, _, _ + 1, .nil => .nil
  | _, _, n + 1, .cons _ r => AtAll.drop n r
theorem AtAll.set {v : V} {d : D} (h : At K O H v d) : ∀ {vs : List V} {ds : List D} (n : Nat), AtAll K O H vs ds → AtAll K O H (vs.set n v) (ds.set n d)
  | _, _, _, .nil => .nil
  | _, _, 0, .cons _ r => .cons h r
  | _, _, n + 1, .cons a r => .cons a (AtAll.set h n r)
theorem AtAll.ints : ∀ {vs : List V} {ns : List Int}, AtAll K O H vs (ns.map PyData.int) → vs = ns.map V.int
  | _, [], .nil => rfl
  | _, _ :: _, .cons (.int _) r => congrArg (_ :: ·) (AtAll.ints r)
theorem AtAll.of_ints : ∀ (ns : List Int), AtAll K O H (ns.map V.int) (ns.map PyData.int)
  | [] => .nil
  | i :: r => .cons (.int i) (AtAll.of_ints r)
end
end DL
namespace DL
open PySem PySem.Spec PyProof.Rows L2
variable {K : PySem.W.Frag}
abbrev Sg := List (Option V)
def SlotR (K : PySem.W.Frag) (O : Addr → Prop) (H : Hp) (v : V) : Sl → Prop
  | .im d => At K O H v d
  | .ow ds => ∃ a xs, v = .ref a ∧ O a ∧ H a = some (.lst xs) ∧ AtAll K O H xs ds
  | .dk kvs => ∃ a vs, v = .ref a ∧ O a ∧ H a = some (.dK vs) ∧ vs.map Prod.fst = kvs.map Prod.fst ∧ AtAll K O H (vs.map Prod.snd) (kvs.map Prod.snd)
  | .db kvs => ∃ a vs, v = .ref a ∧ O a ∧ H a = some (BD a vs) ∧ vs.map Prod.fst = kvs.map Prod.fst ∧ AtAll K O H (vs.map Prod.snd) (kvs.map Prod.snd)
def ownedAt (σ : Sg) (env : En) (i : Nat) (a : Addr) : Prop := ∃ s, env[i]? = some (some s) ∧ s.own = true ∧ σ[i]? = some (some (.ref a))
/-- a def's run: what others may change; the heap at the entry; the parameters that it may change -/
structure Bs where
  O0 : Addr → Prop
  H0 : Hp
  ps : List (Nat × Addr)
  /-- what stays as it is, though it is nobody's data -/
  kp : Addr → Option HO
  /-- names whose value stays -/
  fx : List (Nat × V) := []
def Bs.O (B : Bs) (σ : Sg) (env : En) (a : Addr) : Prop := B.O0 a ∨ ∃ i, ownedAt σ env i a
structure SR (K : PySem.W.Frag) (np : List Nat) (B : Bs) (σ : Sg) (H : Hp) (env : En) : Prop where
  len : σ.length = env.length
  slot : ∀ (i : Nat) (s : Sl), env[i]? = some (some s) → ∃ v : V, σ[i]? = some (some v) ∧ SlotR K (B.O σ env) H v s
  dist : ∀ i j a, ownedAt σ env i a → ownedAt σ env j a → i = j
  keep : ∀ a o, B.H0 a = some o → (∀ p ∈ B.ps, p.2 ≠ a) → H a = some o
  dom : ∀ a, H a = none → B.H0 a = none
  new : ∀ i a, ownedAt σ env i a → (i, a) ∈ B.ps ∨ B.H0 a = none
  o0 : ∀ a, B.O0 a → H a ≠ none ∧ ∀ p ∈ B.ps, p.2 ≠ a
  kept : ∀ a o, B.kp a = some o → H a = some o
  kpo : ∀ i a, ownedAt σ env i a → B.kp a = none
  own0 : ∀ i a, ownedAt σ env i a → ¬ B.O0 a
  par : ∀ p ∈ B.ps, ownedAt σ env p.1 p.2 ∧ B.H0 p.2 ≠ none ∧ p.1 ∈ np
  fix : ∀ p ∈ B.fx, σ[p.1]? = some (some p.2) ∧ p.1 ∈ np
abbrev Ex (H H' : Hp) : Prop := ∀ a o, H a = some o → H' a = some o
theorem Ex.dom {H H' : Hp} (e : Ex H H') (a : Addr) (h : H' a = none) : H a = none := by
  cases q : H a with
  | none => rfl
  | some o => rw [e a o q] at h; cases h
theorem Ex.new {H : Hp} {p : Addr} {o : HO} (h : H p = none) : Ex H (upd H p o) := fun a u e => by
  rw [upd_ne (ne_of_none e h)]
  exact e
theorem Mv.ex {O : Addr → Prop} {H H' : Hp} (e : Ex H H') : Mv O O H H' := ⟨fun a o h _ => e a o h, fun _ h => .inl h, Ex.dom e⟩
def plus (O : Addr → Prop) (a : Addr) : Addr → Prop := fun b => O b ∨ b = a
theorem Mv.new {O : Addr → Prop} {H : Hp} {p : Addr} {o : HO} (h : H p = none) : Mv O (plus O p) H (upd H p o) :=
  ⟨fun a u e _ => Ex.new h a u e, fun a z => z.elim .inl fun e => .inr (e ▸ h), Ex.dom (Ex.new h)⟩
theorem Mv.less {O O' : Addr → Prop} {H : Hp} (h : ∀ a, O' a → O a) : Mv O O' H H := ⟨fun _ _ e _ => e, fun a z => .inl (h a z), fun _ e => e⟩
section
variable {O O' : Addr → Prop} {H H' : Hp} {v : V} {s : Sl}
/-- an own list stays where its object and O stay -/
theorem SlotR.mv (m : Mv O O' H H') (hO : ∀ a, v = .ref a → s.own = true → O' a) (hk : ∀ a o, v = .ref a → s.own = true → H a = some o → H' a = some o) (h : SlotR K O H v s) : SlotR K O' H' v s := by
  cases s with
  | im d => exact At.mv m h
  | ow ds =>
    obtain ⟨a, xs, e, _, q, r⟩ := h
    exact ⟨a, xs, e, hO a e rfl, hk a _ e rfl q, AtAll.mv m r⟩
  | dk kvs =>
    obtain ⟨a, vs, e, _, q, f, r⟩ := h
    exact ⟨a, vs, e, hO a e rfl, hk a _ e rfl q, f, AtAll.mv m r⟩
  | db kvs =>
    obtain ⟨a, vs, e, _, q, f, r⟩ := h
    exact ⟨a, vs, e, hO a e rfl, hk a _ e rfl q, f, AtAll.mv m r⟩
theorem SlotR.ref (h : SlotR K O H v s) (ho : s.own = true) : ∃ a o, v = .ref a ∧ O a ∧ H a = some o := by
  cases s with
  | im d => cases ho
  | ow ds => obtain ⟨a, xs, e, q, r, _⟩ := h; exact ⟨a, _, e, q, r⟩
  | dk ds => obtain ⟨a, xs, e, q, r, _⟩ := h; exact ⟨a, _, e, q, r⟩
  | db ds => obtain ⟨a, xs, e, q, r, _⟩ := h; exact ⟨a, _, e, q, r⟩
end
section
variable {np : List Nat} {B : Bs} {σ : Sg} {H H' : Hp} {env env' : En}
theorem SR.odom (I : SR K np B σ H env) (a : Addr) (h : B.O σ env a) : ∃ o, H a = some o := by
  rcases h with h | ⟨i, s, h1, h2, h3⟩
  · cases q : H a with
    | some o => exact ⟨o, rfl⟩
    | none => exact absurd q (I.o0 a h).1
  · obtain ⟨v, e, q⟩ := I.slot i s h1
    obtain ⟨b, o, eb, _, hb⟩ := q.ref h2
    rw [h3] at e
    cases e
    cases eb
    exact ⟨o, hb⟩
theorem SR.nO (I : SR K np B σ H env) {p : Addr} (h : H p = none) : ¬ B.O σ env p := fun z => by
  obtain ⟨o, e⟩ := I.odom p z
  rw [h] at e; cases e
theorem SR.fixSet (I : SR K np B σ H env) {i : Nat} {x : Option V} (hi : i ∉ np) : ∀ p ∈ B.fx, (σ.set i x)[p.1]? = some (some p.2) ∧ p.1 ∈ np := fun p hp => by
  obtain ⟨h1, h2⟩ := I.fix p hp
  exact ⟨by rw [List.getElem?_set_ne (fun z => hi (by rw [z]; exact h2))]; exact h1, h2⟩
theorem SR.ex (I : SR K np B σ H env) (e : Ex H H') : SR K np B σ H' env where
  len := I.len
  slot := fun i s h => by
    obtain ⟨v, e1, q⟩ := I.slot i s h
    exact ⟨v, e1, q.mv (Mv.ex e) (fun a ea ho => .inr ⟨i, s, h, ho, ea ▸ e1⟩) fun a o _ _ z => e a o z⟩
  dist := I.dist
  keep := fun a o h n => e a o (I.keep a o h n)
  dom := fun a h => I.dom a (Ex.dom e a h)
  new := I.new
  o0 := fun a h => ⟨fun z => (I.o0 a h).1 (Ex.dom e a z), (I.o0 a h).2⟩
  kept := fun a o h => e a o (I.kept a o h)
  kpo := I.kpo
  own0 := I.own0
  par := I.par
  fix := I.fix
/-- data in a slot -/
theorem SR.im (I : SR K np B σ H env) {i : Nat} {d : D} (h : env[i]? = some (some (.im d))) : ∃ v : V, σ[i]? = some (some v) ∧ At K (B.O σ env) H v d := I.slot i _ h
/-- an own list -/
theorem SR.ow (I : SR K np B σ H env) {i : Nat} {ds : List D} (h : env[i]? = some (some (.ow ds))) :
    ∃ a xs, σ[i]? = some (some (.ref a)) ∧ B.O σ env a ∧ H a = some (.lst xs) ∧ AtAll K (B.O σ env) H xs ds := by
  obtain ⟨v, e, a, xs, rfl, hO, q, r⟩ := I.slot i _ h
  exact ⟨a, xs, e, hO, q, r⟩
theorem SR.dk (I : SR K np B σ H env) {i : Nat} {kvs : List (Key × D)} (h : env[i]? = some (some (.dk kvs))) :
    ∃ a vs, σ[i]? = some (some (.ref a)) ∧ B.O σ env a ∧ H a = some (.dK vs) ∧ vs.map Prod.fst = kvs.map Prod.fst ∧ AtAll K (B.O σ env) H (vs.map Prod.snd) (kvs.map Prod.snd) := by
  obtain ⟨v, e, a, xs, rfl, hO, q, r⟩ := I.slot i _ h
  exact ⟨a, xs, e, hO, q, r⟩
theorem getElem?_set_some {α : Type} {l : List α} {i j : Nat} {x y : α} (h : (l.set i x)[j]? = some y) : (j = i ∧ y = x) ∨ (j ≠ i ∧ l[j]? = some y) := by
  by_cases e : i = j
  · subst e
    by_cases hl : i < l.length
    · rw [List.getElem?_set_self hl] at h
      cases h
      exact .inl ⟨rfl, rfl⟩
    · rw [List.getElem?_eq_none (by simpa using hl)] at h; cases h
  · rw [List.getElem?_set_ne e] at h
    exact .inr ⟨fun z => e z.symm, h⟩
/-- data is stored -/
theorem SR.setIm (I : SR K np B σ H env) {i : Nat} {v : V} {d : D} (hi : i ∉ np) (h : At K (B.O σ env) H v d) :
    SR K np B (σ.set i (some v)) H (env.set i (some (.im d))) ∧ Mv (B.O σ env) (B.O (σ.set i (some v)) (env.set i (some (.im d)))) H H := by
  have ow : ∀ j a, ownedAt (σ.set i (some v)) (env.set i (some (.im d))) j a → j ≠ i ∧ ownedAt σ env j a := fun j a ⟨s, h1, h2, h3⟩ => by
    rcases getElem?_set_some h1 with ⟨e, e2⟩ | ⟨e, h1⟩
    · cases e2; cases h2
    · rcases getElem?_set_some h3 with ⟨e3, _⟩ | ⟨_, h3⟩
      · exact absurd e3 e
      · exact ⟨e, s, h1, h2, h3⟩
  have wo : ∀ j a, j ≠ i → ownedAt σ env j a → ownedAt (σ.set i (some v)) (env.set i (some (.im d))) j a := fun j a n ⟨s, h1, h2, h3⟩ =>
    ⟨s, by rw [List.getElem?_set_ne (Ne.symm n)]; exact h1, h2, by rw [List.getElem?_set_ne (Ne.symm n)]; exact h3⟩
  have m : Mv (B.O σ env) (B.O (σ.set i (some v)) (env.set i (some (.im d)))) H H := Mv.less fun a z => z.elim .inl fun ⟨j, q⟩ => .inr ⟨j, (ow j a q).2⟩
  refine ⟨⟨by simpa using I.len, fun j s hs => ?_, fun j k a h1 h2 => I.dist j k a (ow j a h1).2 (ow k a h2).2, I.keep, I.dom, fun j a h => I.new j a (ow j a h).2, I.o0, I.kept, fun j a h => I.kpo j a (ow j a h).2, fun j a h => I.own0 j a (ow j a h).2, fun p hp => ?_, I.fixSet hi⟩, m⟩
  · rcases getElem?_set_some hs with ⟨e, e2⟩ | ⟨e, h1⟩
    · cases e2
      subst e
      have hl : j < σ.length := by
        rw [I.len]
        have := (List.getElem?_eq_some_iff.mp hs).1
        simpa using this
      exact ⟨v, by rw [List.getElem?_set_self hl], At.mv m h⟩
    · obtain ⟨u, e1, q⟩ := I.slot j s h1
      refine ⟨u, by rw [List.getElem?_set_ne (Ne.symm e)]; exact e1, q.mv m (fun a ea ho => .inr ⟨j, wo j a e ⟨s, h1, ho, ea ▸ e1⟩⟩) fun _ _ _ _ z => z⟩
  · obtain ⟨h1, h2, h3⟩ := I.par p hp
    exact ⟨wo _ _ (fun z => hi (z ▸ h3)) h1, h2, h3⟩
/-- all slots, with one address more that may be changed -/
def Clean (K : PySem.W.Frag) (O : Addr → Prop) (σ : Sg) (H : Hp) (env : En) : Prop := ∀ (i : Nat) (s : Sl), env[i]? = some (some s) → ∃ v : V, σ[i]? = some (some v) ∧ SlotR K O H v s
/-- a new list -/
def FRes (K : PySem.W.Frag) (O : Addr → Prop) (σ : Sg) (env : En) (H H' : Hp) (v : V) (d : D) : Prop :=
  ∀ ds, d = .list ds → ∃ a xs, v = .ref a ∧ H a = none ∧ ¬ O a ∧ H' a = some (.lst xs) ∧ AtAll K (plus O a) H' xs ds ∧ Clean K (plus O a) σ H' env
/-- a new list is stored as the slot's own -/
theorem SR.setOw (I : SR K np B σ H' env) {Hs : Hp} {i : Nat} {v : V} {ds : List D} (hi : i ∉ np) (hs : ∀ a, Hs a = none → B.H0 a = none) (hk : ∀ a, Hs a = none → B.kp a = none) (h : FRes K (B.O σ env) σ env Hs H' v (.list ds)) :
    SR K np B (σ.set i (some v)) H' (env.set i (some (.ow ds))) ∧ ∃ a, v = .ref a ∧ Hs a = none ∧ (∀ b, B.O (σ.set i (some v)) (env.set i (some (.ow ds))) b → B.O σ env b ∨ b = a) := by
  obtain ⟨a, xs, rfl, na, nO, ha, hx, hc⟩ := h ds rfl
  have ow : ∀ j b, ownedAt (σ.set i (some (.ref a))) (env.set i (some (.ow ds))) j b → (j = i ∧ b = a) ∨ (j ≠ i ∧ ownedAt σ env j b) := fun j b ⟨s, h1, h2, h3⟩ => by
    rcases getElem?_set_some h1 with ⟨e, e2⟩ | ⟨e, h1⟩
    · rcases getElem?_set_some h3 with ⟨_, e3⟩ | ⟨e3, _⟩
      · cases e3; exact .inl ⟨e, rfl⟩
      · exact absurd e e3
    · rcases getElem?_set_some h3 with ⟨e3, _⟩ | ⟨_, h3⟩
      · exact absurd e3 e
      · exact .inr ⟨e, s, h1, h2, h3⟩
  have wo : ∀ j b, j ≠ i → ownedAt σ env j b → ownedAt (σ.set i (some (.ref a))) (env.set i (some (.ow ds))) j b := fun j b n ⟨s, h1, h2, h3⟩ =>
    ⟨s, by rw [List.getElem?_set_ne (Ne.symm n)]; exact h1, h2, by rw [List.getElem?_set_ne (Ne.symm n)]; exact h3⟩
  have sub : ∀ b, B.O (σ.set i (some (.ref a))) (env.set i (some (.ow ds))) b → plus (B.O σ env) a b := fun b z => by
    rcases z with z | ⟨j, q⟩
    · exact .inl (.inl z)
    · rcases ow j b q with ⟨_, e⟩ | ⟨_, q⟩
      · exact .inr e
      · exact .inl (.inr ⟨j, q⟩)
  have m : Mv (plus (B.O σ env) a) (B.O (σ.set i (some (.ref a))) (env.set i (some (.ow ds)))) H' H' := Mv.less sub
  refine ⟨⟨by simpa using I.len, fun j s h1 => ?_, fun j k b h1 h2 => ?_, I.keep, I.dom, fun j b h => ?_, I.o0, I.kept, fun j b h => ?_, fun j b h => ?_, fun p hp => ?_, I.fixSet hi⟩, a, rfl, na, sub⟩
  · rcases getElem?_set_some h1 with ⟨e, e2⟩ | ⟨e, h2⟩
    · cases e2
      subst e
      have hl : j < env.length := by
        have := (List.getElem?_eq_some_iff.mp h1).1
        simpa using this
      have hl' : j < σ.length := by rw [I.len]; exact hl
      exact ⟨.ref a, by rw [List.getElem?_set_self hl'], a, xs, rfl, .inr ⟨j, .ow ds, by rw [List.getElem?_set_self hl], rfl, by rw [List.getElem?_set_self hl']⟩, ha, AtAll.mv m hx⟩
    · obtain ⟨u, e1, q⟩ := hc j s h2
      exact ⟨u, by rw [List.getElem?_set_ne (Ne.symm e)]; exact e1, q.mv m (fun b eb ho => .inr ⟨j, wo j b e ⟨s, h2, ho, eb ▸ e1⟩⟩) fun _ _ _ _ z => z⟩
  · have na' : ∀ l, ¬ ownedAt σ env l a := fun l q => nO (.inr ⟨l, q⟩)
    rcases ow j b h1 with ⟨e1, e2⟩ | ⟨e1, q1⟩
    · rcases ow k b h2 with ⟨e3, e4⟩ | ⟨e3, q2⟩
      · rw [e1, e3]
      · rw [e2] at q2
        exact absurd q2 (na' k)
    · rcases ow k b h2 with ⟨e3, e4⟩ | ⟨e3, q2⟩
      · rw [e4] at q1
        exact absurd q1 (na' j)
      · exact I.dist j k b q1 q2
  · rcases ow j b h with ⟨_, e⟩ | ⟨_, q⟩
    · exact .inr (e ▸ hs a na)
    · exact I.new j b q
  · rcases ow j b h with ⟨_, e⟩ | ⟨_, q⟩
    · exact e ▸ hk a na
    · exact I.kpo j b q
  · rcases ow j b h with ⟨_, e⟩ | ⟨_, q⟩
    · exact fun w => nO (.inl (e ▸ w))
    · exact I.own0 j b q
  · obtain ⟨h1, h2, h3⟩ := I.par p hp
    exact ⟨wo _ _ (fun z => hi (z ▸ h3)) h1, h2, h3⟩
/-- an own list changes in place -/
theorem SR.write (I : SR K np B σ H env) {i : Nat} {a : Addr} {s s' : Sl} {o : HO} (hs : env[i]? = some (some s)) (ho : s.own = true) (ho' : s'.own = true) (ha : σ[i]? = some (some (.ref a)))
    (h : SlotR K (B.O σ env) (upd H a o) (.ref a) s') :
    SR K np B σ (upd H a o) (env.set i (some s')) ∧ Mv (B.O σ env) (B.O σ (env.set i (some s'))) H (upd H a o) := by
  have oi : ownedAt σ env i a := ⟨s, hs, ho, ha⟩
  have ia : ∃ u, H a = some u := I.odom a (.inr ⟨i, oi⟩)
  have ow : ∀ j b, ownedAt σ (env.set i (some s')) j b ↔ ownedAt σ env j b := fun j b => by
    constructor
    · rintro ⟨t, h1, h2, h3⟩
      rcases getElem?_set_some h1 with ⟨e, _⟩ | ⟨_, h1⟩
      · subst e; exact ⟨s, hs, ho, h3⟩
      · exact ⟨t, h1, h2, h3⟩
    · rintro ⟨t, h1, h2, h3⟩
      by_cases e : i = j
      · subst e
        exact ⟨s', by rw [List.getElem?_set_self (List.getElem?_eq_some_iff.mp hs).1], ho', h3⟩
      · exact ⟨t, by rw [List.getElem?_set_ne e]; exact h1, h2, h3⟩
  have eO : ∀ b, B.O σ (env.set i (some s')) b ↔ B.O σ env b := fun b => ⟨fun z => z.elim .inl fun ⟨j, q⟩ => .inr ⟨j, (ow j b).1 q⟩, fun z => z.elim .inl fun ⟨j, q⟩ => .inr ⟨j, (ow j b).2 q⟩⟩
  have m : Mv (B.O σ env) (B.O σ (env.set i (some s'))) H (upd H a o) := ⟨fun b u e n => by
      rw [upd_ne (show b ≠ a from fun z => n (by rw [z]; exact .inr ⟨i, oi⟩))]; exact e, fun b z => .inl ((eO b).1 z), fun b e => by
      by_cases z : b = a
      · rw [z, upd_same] at e; cases e
      · rw [upd_ne z] at e; exact e⟩
  refine ⟨⟨by simpa using I.len, fun j t h1 => ?_, fun j k b h1 h2 => I.dist j k b ((ow j b).1 h1) ((ow k b).1 h2), fun b u e n => ?_, fun b e => I.dom b (m.dom b e), fun j b q => I.new j b ((ow j b).1 q), fun b h => ⟨fun z => (I.o0 b h).1 (m.dom b z), (I.o0 b h).2⟩, fun b u e => ?_, fun j b q => I.kpo j b ((ow j b).1 q), fun j b q => I.own0 j b ((ow j b).1 q), fun p hp => let ⟨h1, h2, h3⟩ := I.par p hp; ⟨(ow _ _).2 h1, h2, h3⟩, I.fix⟩, m⟩
  · rcases getElem?_set_some h1 with ⟨e, e2⟩ | ⟨e, h2⟩
    · cases e2
      subst e
      refine ⟨.ref a, ha, SlotR.mv (Mv.less fun b z => (eO b).1 z) (fun b eb _ => ?_) (fun _ _ _ _ z => z) h⟩
      cases eb
      exact (eO _).2 (.inr ⟨j, oi⟩)
    · obtain ⟨u, e1, q⟩ := I.slot j t h2
      refine ⟨u, e1, q.mv m (fun b eb hb => (eO b).2 (.inr ⟨j, t, h2, hb, eb ▸ e1⟩)) fun b w eb hb z => ?_⟩
      have n : b ≠ a := fun z => e (I.dist j i a ⟨t, h2, hb, by rw [e1, eb, z]⟩ oi)
      rw [upd_ne n]; exact z
  · have n2 : b ≠ a := fun z => by
      rcases I.new i a oi with q | q
      · exact n _ q z.symm
      · rw [z] at e; rw [q] at e; cases e
    rw [upd_ne n2]
    exact I.keep b u e n
  · have n2 : b ≠ a := fun z => by
      have q := I.kpo i a oi
      rw [z] at e; rw [q] at e; cases e
    rw [upd_ne n2]
    exact I.kept b u e
end
end DL
namespace DL
open PySem PySem.Spec PyProof.Rows L2
variable {K : PySem.W.Frag}
def ExnAt (K : PySem.W.Frag) (O : Addr → Prop) (H : Hp) (ca : Str → Addr) (x : Exn) (cls : Value) (dp : Option Addr) : Prop :=
  cls = .ref (ca x.cls) ∧ match x.dat with
    | [] => dp = none
    | f :: fs => ∃ (d : Addr) (vs : List (Str × V)), dp = some d ∧ (H d = some (.xd vs) ∧ ¬ O d) ∧ vs.map Prod.fst = (f :: fs).map Prod.fst ∧ AtAll K O H (vs.map Prod.snd) ((f :: fs).map Prod.snd)
/-- what a def's text stands in: the classes' addresses, the slots of what it may change, what is wanted of an exception -/
structure Z where
  ca : Str → Addr
  np : List Nat
  W : WX
  /-- what is told of a value that is handed back: the heap at the start, the value, the heap, the data -/
  rt : Hp → (Addr → Prop) → V → Hp → D → Prop := fun _ _ _ _ _ => True
def XP (K : PySem.W.Frag) (z : Z) (B : Bs) (σ : Sg) (H : Hp) (env : En) (x : Exn) (env' : En) : Prop :=
  ∀ (cls : Value) (dp : Option Addr) (H' : Hp), SR K z.np B σ H' env' → Mv (B.O σ env) (B.O σ env') H H' → ExnAt K (B.O σ env') H' z.ca x cls dp → z.W cls dp σ H'
theorem XP.step {z : Z} {B : Bs} {σ : Sg} {H H1 : Hp} {env env1 : En} {x : Exn} {e : En} (m : Mv (B.O σ env) (B.O σ env1) H H1) (h : XP K z B σ H env x e) : XP K z B σ H1 env1 x e :=
  fun cls dp H' I m' => h cls dp H' I (m.trans m')
/-- an expression's value -/
def EP1 (K : PySem.W.Frag) (z : Z) (fr : Bool) (B : Bs) (σ : Sg) (H : Hp) (env : En) (Q : VK) (p : D × En) : Prop :=
  ∀ (v : V) (H' : Hp), SR K z.np B σ H' p.2 → Mv (B.O σ env) (B.O σ p.2) H H' → At K (B.O σ p.2) H' v p.1 → (fr = true → FRes K (B.O σ p.2) σ p.2 H H' v p.1) → Q v H'
abbrev EF := En → R En (D × En)
def tE (K : PySem.W.Frag) (z : Z) (fr : Bool) (f : EF) : TE := fun σ H Q => ∃ (B : Bs) (env : En), SR K z.np B σ H env ∧ (f env).post (EP1 K z fr B σ H env Q) (XP K z B σ H env)
def tT (K : PySem.W.Frag) (z : Z) (f : En → R En (Bool × En)) : TT := fun σ H Q => ∃ (B : Bs) (env : En), SR K z.np B σ H env ∧
  (f env).post (fun p => ∀ H', SR K z.np B σ H' p.2 → Mv (B.O σ env) (B.O σ p.2) H H' → Q p.1 H') (XP K z B σ H env)
def tA (K : PySem.W.Frag) (z : Z) (f : En → R En (List D × En)) : TA := fun σ H Q => ∃ (B : Bs) (env : En), SR K z.np B σ H env ∧
  (f env).post (fun p => ∀ (vs : List V) H', SR K z.np B σ H' p.2 → Mv (B.O σ env) (B.O σ p.2) H H' → AtAll K (B.O σ p.2) H' vs p.1 → Q vs H') (XP K z B σ H env)
abbrev DE (z : Z) (X : Cx) (fr : Bool) (e : Expr) (f : EF) : Prop := PE X e (tE X.K z fr f)
abbrev DT (z : Z) (X : Cx) (e : Expr) (f : En → R En (Bool × En)) : Prop := PT X e (tT X.K z f)
abbrev DW (z : Z) (X : Cx) (e : Expr) (f : En → R En (Bool × En)) : Prop := PW X e (tT X.K z f)
abbrev DA (z : Z) (X : Cx) (es : List Expr) (f : En → R En (List D × En)) : Prop := PA X es (tA X.K z f)
section
variable {X : Cx} {e : Expr} {es : List Expr} {z : Z}
theorem pe_weak {t t' : TE} (h : PE X e t) (i : ∀ σ H Q, t' σ H Q → t σ H Q) : PE X e t' := ⟨fun pins s σ H Q I q => h.run pins s σ H Q I (i σ H Q q)⟩
theorem pt_weak {t t' : TT} (h : PT X e t) (i : ∀ σ H Q, t' σ H Q → t σ H Q) : PT X e t' := ⟨fun pins s σ H Q I q => h.run pins s σ H Q I (i σ H Q q)⟩
theorem pw_weak {t t' : TT} (h : PW X e t) (i : ∀ σ H Q, t' σ H Q → t σ H Q) : PW X e t' := ⟨fun whole pins s σ H Q I q => h.run whole pins s σ H Q I (i σ H Q q)⟩
theorem pa_weak {t t' : TA} (h : PA X es t) (i : ∀ σ H Q, t' σ H Q → t σ H Q) : PA X es t' := ⟨fun pos pins s σ H Q I q => h.run pos pins s σ H Q I (i σ H Q q)⟩
def fVar (i : Nat) : EF := fun env => match env[i]? with
  | some (some (.im d)) => .ok (d, env)
  | _ => .stuck
def fC (d : D) : EF := fun env => .ok (d, env)
theorem de_imp {fr : Bool} {f : EF} {t : TE} (h : PE X e t) (i : ∀ (B : Bs) (env : En) (σ : Sg) (H : Hp) (Q : VK), SR X.K z.np B σ H env → (f env).post (EP1 X.K z fr B σ H env Q) (XP X.K z B σ H env) → t σ H Q) : DE z X fr e f :=
  pe_weak h fun σ H Q ⟨B, env, I, p⟩ => i B env σ H Q I p
theorem dt_imp {f : En → R En (Bool × En)} {t : TT} (h : PT X e t) (i : ∀ (B : Bs) (env : En) (σ : Sg) (H : Hp) (Q : Bool → Hp → Prop), SR X.K z.np B σ H env →
    (f env).post (fun p => ∀ H', SR X.K z.np B σ H' p.2 → Mv (B.O σ env) (B.O σ p.2) H H' → Q p.1 H') (XP X.K z B σ H env) → t σ H Q) : DT z X e f :=
  pt_weak h fun σ H Q ⟨B, env, I, p⟩ => i B env σ H Q I p
theorem dw_imp {f : En → R En (Bool × En)} {t : TT} (h : PW X e t) (i : ∀ (B : Bs) (env : En) (σ : Sg) (H : Hp) (Q : Bool → Hp → Prop), SR X.K z.np B σ H env →
    (f env).post (fun p => ∀ H', SR X.K z.np B σ H' p.2 → Mv (B.O σ env) (B.O σ p.2) H H' → Q p.1 H') (XP X.K z B σ H env) → t σ H Q) : DW z X e f :=
  pw_weak h fun σ H Q ⟨B, env, I, p⟩ => i B env σ H Q I p
theorem da_imp {f : En → R En (List D × En)} {t : TA} (h : PA X es t) (i : ∀ (B : Bs) (env : En) (σ : Sg) (H : Hp) (Q : List V → Hp → Prop), SR X.K z.np B σ H env →
    (f env).post (fun p => ∀ (vs : List V) H', SR X.K z.np B σ H' p.2 → Mv (B.O σ env) (B.O σ p.2) H H' → AtAll X.K (B.O σ p.2) H' vs p.1 → Q vs H') (XP X.K z B σ H env) → t σ H Q) : DA z X es f :=
  pa_weak h fun σ H Q ⟨B, env, I, p⟩ => i B env σ H Q I p
theorem de_sh {fr : Bool} {f : EF} (h : DE z X fr e f) : DE z X false e f :=
  de_imp h fun B env σ H Q I p => ⟨B, env, I, p.imp (fun _ q v H' I' m a _ => q v H' I' m a fun z => nomatch z) fun _ _ q => q⟩
theorem FRes.flat {O : Addr → Prop} {σ : Sg} {env : En} {H H' : Hp} {v : V} {d : D} (h : ∀ ds, d ≠ .list ds) : FRes K O σ env H H' v d := fun ds e => absurd e (h ds)
theorem de_var {i : Nat} (h : PE X e (tVar i)) : DE z X false e (fVar i) := de_imp h fun B env σ H Q I p => by
  unfold fVar at p
  split at p
  · rename_i d e
    obtain ⟨v, e1, a⟩ := I.im e
    exact ⟨v, e1, p v H I .refl a fun z => nomatch z⟩
  · exact p.elim
theorem de_c {v : V} {d : D} (h : PE X e (tC v)) (ha : ∀ O H, At X.K O H v d) (hd : ∀ ds, d ≠ .list ds) : DE z X true e (fC d) := de_imp h fun B env σ H Q I p => p v H I .refl (ha _ _) fun _ => .flat hd
theorem de_int {i j pos} : DE z X true (.Constant (.int i) j pos) (fC (.int i)) := de_c pe_int (fun _ _ => .int i) (fun _ q => nomatch q)
theorem de_bl {b j pos} : DE z X true (.Constant (.bool b) j pos) (fC (.bool b)) := de_c pe_bl (fun _ _ => .bl b) (fun _ q => nomatch q)
theorem de_non {j pos} : DE z X true (.Constant .none j pos) (fC .none) := de_c pe_non (fun _ _ => .non) (fun _ q => nomatch q)
theorem de_str {x j pos} : DE z X true (.Constant (.str x) j pos) (fC (.str x)) := de_c pe_str (fun _ _ => .str x) (fun _ q => nomatch q)
/-- what an operator, a call gives -/
def Res (K : PySem.W.Frag) (fr : Bool) (O : Addr → Prop) (H H' : Hp) (v : V) (d : D) : Prop :=
  Ex H H' ∧ At K O H' v d ∧ (fr = true → ∀ ds, d = .list ds → ∃ (a : Addr) (xs : List V), v = .ref a ∧ H a = none ∧ H' a = some (.lst xs) ∧ AtAll K (plus O a) H' xs ds)
theorem Res.flat {fr : Bool} {O : Addr → Prop} {H : Hp} {v : V} {d : D} (a : At K O H v d) (h : ∀ ds, d ≠ .list ds) : Res K fr O H H v d := ⟨fun _ _ q => q, a, fun _ ds e => absurd e (h ds)⟩
theorem Res.sh {O : Addr → Prop} {H : Hp} {v : V} {d : D} (a : At K O H v d) : Res K false O H H v d := ⟨fun _ _ q => q, a, fun z => nomatch z⟩
def Od (O : Addr → Prop) (H : Hp) : Prop := ∀ a, H a = none → ¬ O a
/-- a new list, a new tuple -/
theorem Res.lst {fr : Bool} {O : Addr → Prop} {H : Hp} {p : Addr} {xs : List V} {ds : List D} (o : Od O H) (hp : H p = none) (a : AtAll K O H xs ds) : Res K fr O H (upd H p (.lst xs)) (.ref p) (.list ds) :=
  ⟨Ex.new hp, .lst ⟨.inl (.inl upd_same), fun z => absurd z (o p hp)⟩ (AtAll.mv (Mv.ex (Ex.new hp)) a), fun _ ds' e => by
    cases e
    exact ⟨p, xs, rfl, hp, upd_same, AtAll.mv (Mv.new hp) a⟩⟩
theorem Res.tup {fr : Bool} {O : Addr → Prop} {H : Hp} {p : Addr} {xs : List V} {ds : List D} (o : Od O H) (hp : H p = none) (a : AtAll K O H xs ds) : Res K fr O H (upd H p (.tup xs)) (.ref p) (.tuple ds) :=
  ⟨Ex.new hp, .tup ⟨.inl (.inl upd_same), fun z => absurd z (o p hp)⟩ (AtAll.mv (Mv.ex (Ex.new hp)) a), fun _ ds' e => nomatch e⟩
theorem SR.od {np : List Nat} {B : Bs} {σ : Sg} {H : Hp} {env : En} (I : SR K np B σ H env) : Od (B.O σ env) H := fun _ h => I.nO h
theorem Clean.of {np : List Nat} {B : Bs} {σ : Sg} {H H' : Hp} {env : En} {p : Addr} (I : SR K np B σ H env) (e : Ex H H') (hp : H p = none) : Clean K (plus (B.O σ env) p) σ H' env := fun i s h => by
  obtain ⟨v, e1, q⟩ := I.slot i s h
  refine ⟨v, e1, q.mv ⟨fun a o x _ => e a o x, fun a z => z.elim .inl fun w => .inr (w ▸ hp), Ex.dom e⟩ (fun a ea ho => .inl (.inr ⟨i, s, h, ho, ea ▸ e1⟩)) fun a o _ _ z => e a o z⟩
theorem FRes.of {fr : Bool} {np : List Nat} {B : Bs} {σ : Sg} {H H2 H' : Hp} {env : En} {v : V} {d : D} (I : SR K np B σ H2 env) (hd : ∀ a, H2 a = none → H a = none) (r : Res K fr (B.O σ env) H2 H' v d) (hf : fr = true) : FRes K (B.O σ env) σ env H H' v d := fun ds e => by
  obtain ⟨a, xs, e1, na, ha, q⟩ := r.2.2 hf ds e
  exact ⟨a, xs, e1, hd a na, I.nO na, ha, q, Clean.of I r.1 na⟩
/-- the end of a rule that makes a value -/
theorem EP1.give {fr : Bool} {B : Bs} {σ : Sg} {H H2 H' : Hp} {env env2 : En} {Q : VK} {v : V} {d : D} (h : EP1 K z fr B σ H env Q (d, env2)) (I : SR K z.np B σ H2 env2) (m : Mv (B.O σ env) (B.O σ env2) H H2) (r : Res K fr (B.O σ env2) H2 H' v d) : Q v H' :=
  h v H' (I.ex r.1) (m.trans (Mv.ex r.1)) r.2.1 (FRes.of I m.dom r)
def OpD (X : Cx) (f : Value → Value → Sem Value) (fr : Bool) (h : D → D → Option D) : Prop :=
  ∃ r : R2, OpR X f r ∧ ∀ (O : Addr → Prop) (H : Hp) (x y : V) (d e w : D) (Q : VK), Od O H → At X.K O H x d → At X.K O H y e → h d e = some w → (∀ v H', Res X.K fr O H H' v w → Q v H') → r x y H Q
def fOp (h : D → D → Option D) (f g : EF) : EF := fun env => (f env).bind fun p => (g p.2).bind fun q => (ofO (h p.1 q.1)).bind fun r => .ok (r, q.2)
theorem e_op {r : R2} {fa fb fr : Bool} {f g : EF} {h : D → D → Option D} {a b : Expr} (sem : ∀ (O : Addr → Prop) (H : Hp) (x y : V) (d e w : D) (Q : VK), Od O H → At X.K O H x d → At X.K O H y e → h d e = some w → (∀ v H', Res X.K fr O H H' v w → Q v H') → r x y H Q)
    {B : Bs} {env : En} {σ : Sg} {H : Hp} {Q : VK} (I : SR X.K z.np B σ H env) (hp : (fOp h f g env).post (EP1 X.K z fr B σ H env Q) (XP X.K z B σ H env)) : tOp r (tE X.K z fa f) (tE X.K z fb g) σ H Q := by
  refine ⟨B, env, I, (R.post_bind hp).imp (fun p hp v H1 I1 m1 a1 _ => ?_) fun _ _ q => q⟩
  refine ⟨B, p.2, I1, (R.post_bind hp).imp (fun q hq u H2 I2 m2 a2 _ => ?_) fun x e hx => hx.step m1⟩
  obtain ⟨w, ew, hw⟩ := ofO_post (R.post_bind hq)
  exact sem _ H2 v u p.1 q.1 w Q I2.od (At.mv m2 a1) a2 ew fun v' H' rr => EP1.give hw I2 (m1.trans m2) rr
theorem de_op {op : Operator} {fa fb fr : Bool} {f g : EF} {h : D → D → Option D} {a b : Expr} {pos : Pos} (ho : OpD X (binaryOp op) fr h) (ha : DE z X fa a f) (hb : DE z X fb b g) : DE z X fr (.BinOp a op b pos) (fOp h f g) := by
  obtain ⟨r, hr, sem⟩ := ho
  exact de_imp (pe_op hr ha hb) fun B env σ H Q I hp => e_op (a := a) (b := b) sem I hp
theorem de_cmp {op : CmpOp} {fa fb fr : Bool} {f g : EF} {h : D → D → Option D} {a b : Expr} {pos : Pos} (ho : OpD X (compareOp op) fr h) (ha : DE z X fa a f) (hb : DE z X fb b g) (hm : behindInMarks op b = false) : DE z X fr (.Compare a [op] [b] pos) (fOp h f g) := by
  obtain ⟨r, hr, sem⟩ := ho
  exact de_imp (pe_cmpR hr ha hb hm) fun B env σ H Q I hp => e_op (a := a) (b := b) sem I hp
def IxD (X : Cx) (fr : Bool) (h : D → D → Option D) : Prop :=
  ∃ r : R2, IxR X r ∧ ∀ (O : Addr → Prop) (H : Hp) (x y : V) (d e w : D) (Q : VK), Od O H → At X.K O H x d → At X.K O H y e → h d e = some w → (∀ v H', Res X.K fr O H H' v w → Q v H') → r x y H Q
theorem de_ix {fa fb fr : Bool} {f g : EF} {h : D → D → Option D} {a b : Expr} {pos : Pos} (ho : IxD X fr h) (ha : DE z X fa a f) (hb : DE z X fb b g) (hs : PlainIx b) : DE z X fr (.Subscript a b pos) (fOp h f g) := by
  obtain ⟨r, hr, sem⟩ := ho
  exact de_imp (pe_ix hr ha hb hs) fun B env σ H Q I hp => e_op (a := a) (b := b) sem I hp
def UnD (X : Cx) (f : Value → Sem Value) (fr : Bool) (h : D → Option D) : Prop :=
  ∃ r : V → Hp → VK → Prop, UnR X f r ∧ ∀ (O : Addr → Prop) (H : Hp) (x : V) (d w : D) (Q : VK), Od O H → At X.K O H x d → h d = some w → (∀ v H', Res X.K fr O H H' v w → Q v H') → r x H Q
def fUn (h : D → Option D) (f : EF) : EF := fun env => (f env).bind fun p => (ofO (h p.1)).bind fun r => .ok (r, p.2)
theorem de_un {op : UnaryOp} {fa fr : Bool} {f : EF} {h : D → Option D} {a : Expr} {pos : Pos} (ho : UnD X (unaryOp op) fr h) (ha : DE z X fa a f) : DE z X fr (.UnaryOp op a pos) (fUn h f) := by
  obtain ⟨r, hr, sem⟩ := ho
  refine de_imp (pe_un hr ha) fun B env σ H Q I hp => ⟨B, env, I, (R.post_bind hp).imp (fun p hp v H1 I1 m1 a1 _ => ?_) fun _ _ q => q⟩
  obtain ⟨w, ew, hw⟩ := ofO_post (R.post_bind hp)
  exact sem _ H1 v p.1 w Q I1.od a1 ew fun v' H' rr => EP1.give hw I1 m1 rr
def fBool (f : EF) : En → R En (Bool × En) := fun env => (f env).bind fun p => match p.1 with
  | .bool b => .ok (b, p.2)
  | _ => .stuck
theorem dt_val {fr : Bool} {f : EF} (h : DE z X fr e f) (he : ∀ whole, isTrue e X.env whole = (do let v ← whole; standAt e.pos; holding [v] (truthy v)) := by intro _; rfl) : DT z X e (fBool f) := by
  refine dt_imp (pt_val h he) fun B env σ H Q I hp => ⟨B, env, I, (R.post_bind hp).imp (fun p hp v H1 I1 m1 a1 _ => ?_) fun _ _ q => q⟩
  obtain ⟨d, e'⟩ := p
  cases d with
  | bool b =>
    cases a1
    exact ⟨b, rfl, hp H1 I1 m1⟩
  | _ => exact hp.elim
theorem dt_cmp {op : CmpOp} {fa fb fr : Bool} {f g : EF} {h : D → D → Option D} {a b : Expr} {pos : Pos} (ho : OpD X (compareOp op) fr h) (ha : DE z X fa a f) (hb : DE z X fb b g) (hm : behindInMarks op b = false) : DT z X (.Compare a [op] [b] pos) (fBool (fOp h f g)) := by
  obtain ⟨r, hr, sem⟩ := ho
  refine dt_imp (pt_cmpR hr ha hb hm) fun B env σ H Q I hp => e_op (a := a) (b := b) sem I ((R.post_bind hp).imp (fun p hp v H1 I1 m1 a1 _ => ?_) fun _ _ q => q)
  obtain ⟨d, e'⟩ := p
  cases d with
  | bool b =>
    cases a1
    exact ⟨b, rfl, hp H1 I1 m1⟩
  | _ => exact hp.elim
def fNotT (f : En → R En (Bool × En)) : En → R En (Bool × En) := fun env => (f env).bind fun p => .ok (!p.1, p.2)
def fAndT (f g : En → R En (Bool × En)) : En → R En (Bool × En) := fun env => (f env).bind fun p => if p.1 = true then g p.2 else .ok (false, p.2)
def fOrT (f g : En → R En (Bool × En)) : En → R En (Bool × En) := fun env => (f env).bind fun p => if p.1 = true then .ok (true, p.2) else g p.2
section
variable {a b : Expr} {rest : List Expr} {pos : Pos} {f g : En → R En (Bool × En)}
theorem dt_not (ha : DT z X a f) : DT z X (.UnaryOp .Not a pos) (fNotT f) :=
  dt_imp (pt_not ha) fun B env σ H Q I hp => ⟨B, env, I, (R.post_bind hp).imp (fun p hp H1 I1 m1 => hp H1 I1 m1) fun _ _ q => q⟩
theorem dw_and1 (ha : DT z X a f) : DW z X (.BoolOp .And [a] pos) f := pw_and1 ha
theorem dw_or1 (ha : DT z X a f) : DW z X (.BoolOp .Or [a] pos) f := pw_or1 ha
theorem dw_and (ha : DT z X a f) (hb : DW z X (.BoolOp .And (b :: rest) pos) g) : DW z X (.BoolOp .And (a :: b :: rest) pos) (fAndT f g) := by
  refine dw_imp (pw_and ha hb) fun B env σ H Q I hp => ⟨B, env, I, (R.post_bind hp).imp (fun p hp H1 I1 m1 => ?_) fun _ _ q => q⟩
  obtain ⟨c, e⟩ := p
  cases c with
  | true => exact ⟨B, e, I1, R.post.imp hp (fun q hq H2 I2 m2 => hq H2 I2 (m1.trans m2)) fun _ _ q => q.step m1⟩
  | false => exact hp H1 I1 m1
theorem dw_or (ha : DT z X a f) (hb : DW z X (.BoolOp .Or (b :: rest) pos) g) : DW z X (.BoolOp .Or (a :: b :: rest) pos) (fOrT f g) := by
  refine dw_imp (pw_or ha hb) fun B env σ H Q I hp => ⟨B, env, I, (R.post_bind hp).imp (fun p hp H1 I1 m1 => ?_) fun _ _ q => q⟩
  obtain ⟨c, e⟩ := p
  cases c with
  | true => exact hp H1 I1 m1
  | false => exact ⟨B, e, I1, R.post.imp hp (fun q hq H2 I2 m2 => hq H2 I2 (m1.trans m2)) fun _ _ q => q.step m1⟩
end
def fAndV (f g : EF) : EF := fun env => (f env).bind fun p => match p.1 with
  | .bool true => g p.2
  | .bool false => .ok (.bool false, p.2)
  | _ => .stuck
def fOrV (f g : EF) : EF := fun env => (f env).bind fun p => match p.1 with
  | .bool false => g p.2
  | .bool true => .ok (.bool true, p.2)
  | _ => .stuck
def notD : D → Option D
  | .bool b => some (.bool (!b))
  | _ => none
theorem EP1.step {fr : Bool} {B : Bs} {σ : Sg} {H H1 : Hp} {env env1 : En} {Q : VK} {p : D × En} (m : Mv (B.O σ env) (B.O σ env1) H H1) (h : EP1 K z fr B σ H env Q p) : EP1 K z fr B σ H1 env1 Q p :=
  fun v H' I m' a fr' => h v H' I (m.trans m') a fun z ds e => let ⟨b, xs, e1, na, r⟩ := fr' z ds e; ⟨b, xs, e1, m.dom b na, r⟩
section
variable {a b : Expr} {rest : List Expr} {pos : Pos} {f g : EF} {fa fb : Bool}
theorem de_one {op} (h : DE z X fa a f) : DE z X fa (.BoolOp op [a] pos) f := pe_one h
theorem de_and (ha : DE z X fa a f) (hb : DE z X fb (.BoolOp .And (b :: rest) pos) g) : DE z X fb (.BoolOp .And (a :: b :: rest) pos) (fAndV f g) := by
  refine de_imp (pe_and ha hb) fun B env σ H Q I hp => ⟨B, env, I, (R.post_bind hp).imp (fun p hp v H1 I1 m1 a1 _ => ?_) fun _ _ q => q⟩
  obtain ⟨d, e⟩ := p
  cases d with
  | bool c =>
    cases a1
    refine ⟨c, rfl, ?_⟩
    cases c with
    | true => exact ⟨B, e, I1, R.post.imp hp (fun q hq => hq.step m1) fun _ _ q => q.step m1⟩
    | false => exact hp (.bl false) H1 I1 m1 (.bl false) fun _ => .flat fun _ q => nomatch q
  | _ => exact hp.elim
theorem de_or (ha : DE z X fa a f) (hb : DE z X fb (.BoolOp .Or (b :: rest) pos) g) : DE z X fb (.BoolOp .Or (a :: b :: rest) pos) (fOrV f g) := by
  refine de_imp (pe_or ha hb) fun B env σ H Q I hp => ⟨B, env, I, (R.post_bind hp).imp (fun p hp v H1 I1 m1 a1 _ => ?_) fun _ _ q => q⟩
  obtain ⟨d, e⟩ := p
  cases d with
  | bool c =>
    cases a1
    refine ⟨c, rfl, ?_⟩
    cases c with
    | true => exact hp (.bl true) H1 I1 m1 (.bl true) fun _ => .flat fun _ q => nomatch q
    | false => exact ⟨B, e, I1, R.post.imp hp (fun q hq => hq.step m1) fun _ _ q => q.step m1⟩
  | _ => exact hp.elim
theorem de_not (ha : DE z X fa a f) : DE z X true (.UnaryOp .Not a pos) (fUn notD f) := by
  refine de_imp (pe_not ha) fun B env σ H Q I hp => ⟨B, env, I, (R.post_bind hp).imp (fun p hp v H1 I1 m1 a1 _ => ?_) fun _ _ q => q⟩
  obtain ⟨d, e⟩ := p
  obtain ⟨w, ew, hw⟩ := ofO_post (R.post_bind hp)
  cases d with
  | bool c =>
    cases a1
    cases ew
    exact ⟨c, rfl, EP1.give hw I1 m1 (.flat (.bl _) fun _ q => nomatch q)⟩
  | _ => cases ew
def fIf (t : En → R En (Bool × En)) (f g : EF) : EF := fun env => (t env).bind fun p => if p.1 = true then f p.2 else g p.2
theorem de_if {c : Expr} {t : En → R En (Bool × En)} (hc : DT z X c t) (ha : DE z X fa a f) (hb : DE z X fb b g) : DE z X (fa && fb) (.IfExp c a b pos) (fIf t f g) := by
  refine de_imp (pe_ifExp hc ha hb) fun B env σ H Q I hp => ⟨B, env, I, (R.post_bind hp).imp (fun p hp H1 I1 m1 => ?_) fun _ _ q => q⟩
  obtain ⟨k, e⟩ := p
  cases k with
  | true => exact ⟨B, e, I1, R.post.imp hp (fun q hq v H' I' m' a' f' => hq v H' I' (m1.trans m') a' fun w => let w' : fa = true := by (revert w; cases fa <;> simp)
      fun ds e => let ⟨b, xs, e1, na, r⟩ := f' w' ds e; ⟨b, xs, e1, m1.dom b na, r⟩) fun _ _ q => q.step m1⟩
  | false => exact ⟨B, e, I1, R.post.imp hp (fun q hq v H' I' m' a' f' => hq v H' I' (m1.trans m') a' fun w => let w' : fb = true := by (revert w; cases fa <;> simp)
      fun ds e => let ⟨b, xs, e1, na, r⟩ := f' w' ds e; ⟨b, xs, e1, m1.dom b na, r⟩) fun _ _ q => q.step m1⟩
end
def fChain (h h' : D → D → Option D) (f g k : EF) : EF := fun env => (f env).bind fun p => (g p.2).bind fun q => (ofO (h p.1 q.1)).bind fun r => match r with
  | .bool true => (k q.2).bind fun s => (ofO (h' q.1 s.1)).bind fun w => .ok (w, s.2)
  | .bool false => .ok (.bool false, q.2)
  | _ => .stuck
theorem de_chain {op op' : CmpOp} {fa fb fc : Bool} {f g k : EF} {h h' : D → D → Option D} {a b c : Expr} {pos : Pos} (ho : OpD X (compareOp op) true h) (ho' : OpD X (compareOp op') true h') (ha : DE z X fa a f) (hb : DE z X fb b g) (hc : DE z X fc c k)
    (hm : lastMarks [op, op'] [b, c] = false := by with_unfolding_all rfl) : DE z X true (.Compare a [op, op'] [b, c] pos) (fChain h h' f g k) := by
  obtain ⟨r, hr, sem⟩ := ho
  obtain ⟨r', hr', sem'⟩ := ho'
  refine de_imp (pe_chain hr hr' ha hb hc hm) fun B env σ H Q I hp => ?_
  refine ⟨B, env, I, (R.post_bind hp).imp (fun p hp v H1 I1 m1 a1 _ => ?_) fun _ _ q => q⟩
  refine ⟨B, p.2, I1, (R.post_bind hp).imp (fun q hq u H2 I2 m2 a2 _ => ?_) fun x e hx => hx.step m1⟩
  obtain ⟨w, ew, hw⟩ := ofO_post (R.post_bind hq)
  refine sem _ H2 v u p.1 q.1 w _ I2.od (At.mv m2 a1) a2 ew fun v' H3 rr => ?_
  have I3 := I2.ex rr.1
  have m3 : Mv (B.O σ env) (B.O σ q.2) H H3 := (m1.trans m2).trans (Mv.ex rr.1)
  cases w with
  | bool t =>
    have av := rr.2.1
    cases av
    refine ⟨t, rfl, ?_⟩
    cases t with
    | false => exact hw (.bl false) H3 I3 m3 (.bl false) fun _ => .flat fun _ q => nomatch q
    | true =>
      refine ⟨B, q.2, I3, (R.post_bind hw).imp (fun s hs u' H4 I4 m4 a4 _ => ?_) fun x e hx => hx.step m3⟩
      obtain ⟨w', ew', hw'⟩ := ofO_post (R.post_bind hs)
      exact sem' _ H4 u u' q.1 s.1 w' Q I4.od (At.mv m4 (At.mv (Mv.ex rr.1) a2)) a4 ew' fun v' H' rr' => EP1.give hw' I4 (m3.trans m4) rr'
  | _ => exact hw.elim
theorem da_nil : DA z X [] (fun env => .ok ([], env)) := da_imp pa_nil fun B env σ H Q I hp => hp [] H I .refl .nil
def fCons (f : EF) (g : En → R En (List D × En)) : En → R En (List D × En) := fun env => (f env).bind fun p => (g p.2).bind fun q => .ok (p.1 :: q.1, q.2)
theorem da_cons {fr : Bool} {f : EF} {g : En → R En (List D × En)} (ha : DE z X fr e f) (hr : DA z X es g) (hs : starEach (e :: es) X.env = (false, eval e X.env) :: starEach es X.env := by rfl) : DA z X (e :: es) (fCons f g) :=
  da_imp (pa_cons ha hr hs) fun B env σ H Q I hp => ⟨B, env, I, (R.post_bind hp).imp (fun p hp v H1 I1 m1 a1 _ =>
    ⟨B, p.2, I1, (R.post_bind hp).imp (fun q hq vs H2 I2 m2 a2 => hq (v :: vs) H2 I2 (m1.trans m2) (.cons (At.mv m2 a1) a2)) fun _ _ q => q.step m1⟩) fun _ _ q => q⟩
def fTup (g : En → R En (List D × En)) : EF := fun env => (g env).bind fun p => if p.1.length ≤ sizeLine then .ok (.tuple p.1, p.2) else .stuck
def fLst (g : En → R En (List D × En)) : EF := fun env => (g env).bind fun p => if p.1.length ≤ sizeLine then .ok (.list p.1, p.2) else .stuck
theorem de_tup {x1 : _} {pos : Pos} {g : En → R En (List D × En)} (h : DA z X es g) : DE z X true (.Tuple es x1 pos) (fTup g) :=
  de_imp (pe_tup h) fun B env σ H Q I hp => ⟨B, env, I, (R.post_bind hp).imp (fun p hp vs H1 I1 m1 a1 => by
    by_cases hl : p.1.length ≤ sizeLine
    · simp only [if_pos hl] at hp
      exact ⟨a1.length ▸ hl, fun q hq => EP1.give hp I1 m1 (Res.tup I1.od hq a1)⟩
    · simp only [if_neg hl] at hp
      exact hp.elim) fun _ _ q => q⟩
theorem de_lst {pos : Pos} {g : En → R En (List D × En)} (h : DA z X es g) : DE z X true (.List es pos) (fLst g) :=
  de_imp (pe_lst h) fun B env σ H Q I hp => ⟨B, env, I, (R.post_bind hp).imp (fun p hp vs H1 I1 m1 a1 => by
    by_cases hl : p.1.length ≤ sizeLine
    · simp only [if_pos hl] at hp
      exact ⟨a1.length ▸ hl, fun q hq => EP1.give hp I1 m1 (Res.lst I1.od hq a1)⟩
    · simp only [if_neg hl] at hp
      exact hp.elim) fun _ _ q => q⟩
def CallD (X : Cx) (f : Value) (fr : Bool) (h : List D → Option D) : Prop :=
  ∃ r : List V → Hp → VK → Prop, CallR X f r ∧ ∀ (O : Addr → Prop) (H : Hp) (vs : List V) (ds : List D) (w : D) (Q : VK), Od O H → AtAll X.K O H vs ds → h ds = some w → (∀ v H', Res X.K fr O H H' v w → Q v H') → r vs H Q
def fCall (h : List D → Option D) (g : En → R En (List D × En)) : EF := fun env => (g env).bind fun p => (ofO (h p.1)).bind fun r => .ok (r, p.2)
theorem de_callB {x : Str} {p pos : Pos} {id : String} {fr : Bool} {h : List D → Option D} {g : En → R En (List D × En)} (hc : CallD X (.builtin id) fr h) (hg : Gl X x) (hm : X.mg x = none) (hv : bootBuiltins x = some (.builtin id)) (ha : DA z X (e :: es) g)
    (hn : x ≠ "__name__" := by decide) (hdb : (x == ("__debug__" : Str)) = false := by decide) (he : starEach (e :: es) X.env = (false, eval e X.env) :: starEach es X.env := by rfl) (hpl : (backTo pos (starEach es X.env)).any (·.1) = false := by rfl) :
    DE z X fr (.Call (.Name x p) (e :: es) [] pos) (fCall h g) := by
  obtain ⟨r, hr, sem⟩ := hc
  refine de_imp (pe_callB hr hg hm hv ha hn hdb he hpl) fun B env σ H Q I hp => ⟨B, env, I, (R.post_bind hp).imp (fun p hp vs H1 I1 m1 a1 => ?_) fun _ _ q => q⟩
  obtain ⟨w, ew, hw⟩ := ofO_post (R.post_bind hp)
  exact sem _ H1 vs p.1 w Q I1.od a1 ew fun v H' rr => EP1.give hw I1 m1 rr
theorem de_callTy {x : Str} {p pos : Pos} {T : String} {fr : Bool} {h : List D → Option D} {g : En → R En (List D × En)} (hc : CallD X (.type T) fr h) (hg : Gl X x) (hm : X.mg x = none) (hv : bootBuiltins x = some (.type T)) (ha : DA z X (e :: es) g)
    (hn : x ≠ "__name__" := by decide) (hdb : (x == ("__debug__" : Str)) = false := by decide) (he : starEach (e :: es) X.env = (false, eval e X.env) :: starEach es X.env := by rfl) (hpl : (backTo pos (starEach es X.env)).any (·.1) = false := by rfl) :
    DE z X fr (.Call (.Name x p) (e :: es) [] pos) (fCall h g) := by
  obtain ⟨r, hr, sem⟩ := hc
  refine de_imp (pe_callTy hr hg hm hv ha hn hdb he hpl) fun B env σ H Q I hp => ⟨B, env, I, (R.post_bind hp).imp (fun p hp vs H1 I1 m1 a1 => ?_) fun _ _ q => q⟩
  obtain ⟨w, ew, hw⟩ := ofO_post (R.post_bind hp)
  exact sem _ H1 vs p.1 w Q I1.od a1 ew fun v H' rr => EP1.give hw I1 m1 rr
end
end DL
namespace DL
open PySem PySem.Spec PyProof.Rows L2
variable {K : PySem.W.Frag}
section
variable {X : Cx} {O : Addr → Prop} {H : Hp} {v : V}
theorem At.list_inv {ds : List D} (h : At K O H v (.list ds)) : ∃ a xs, v = .ref a ∧ LL K O H a xs ∧ AtAll K O H xs ds := by cases h with | lst l r => exact ⟨_, _, rfl, l, r⟩
theorem At.tuple_inv {ds : List D} (h : At K O H v (.tuple ds)) : ∃ a xs, v = .ref a ∧ LT K O H a xs ∧ AtAll K O H xs ds := by cases h with | tup l r => exact ⟨_, _, rfl, l, r⟩
def addD : D → D → Option D
  | .int i, .int j => some (.int (i + j))
  | .str x, .str y => if x.length + y.length ≤ sizeLine then some (.str (x ++ y)) else none
  | .list xs, .list ys => if xs.length + ys.length ≤ sizeLine then some (.list (xs ++ ys)) else none
  | .tuple xs, .tuple ys => if xs.length + ys.length ≤ sizeLine then some (.tuple (xs ++ ys)) else none
  | _, _ => none
def rCatL (K : PySem.W.Frag) : R2 := fun x y H Q => ∃ l b xs zs, x = .ref l ∧ y = .ref b ∧ SqL K H l xs ∧ SqL K H b zs ∧ xs.length + zs.length ≤ sizeLine ∧ ∀ p, H p = none → Q (.ref p) (upd H p (.lst (xs ++ zs)))
theorem op_catL : OpR X (binaryOp .Add) (rCatL X.K) := by
  intro pins s σ H x y v u Q I rx ry h
  obtain ⟨l, b, xs, zs, rfl, rfl, hH, hB, hz, q⟩ := h
  cases rx
  cases ry
  obtain ⟨its, r, ⟨⟨cls, dd, data, sl⟩, n, ho, hc, hdd, hd⟩, z⟩ := I.list hH
  obtain ⟨its2, r2, ⟨⟨cls2, dd2, data2, sl2⟩, n2, ho2, hc2, hdd2, hd2⟩, z2⟩ := I.list hB
  simp only at hc hdd hd hc2 hdd2 hd2
  subst hc hdd hd hc2 hdd2 hd2
  have e : its.toArray ++ its2.toArray = (its ++ its2).toArray := by simp
  refine concat_meets ⟨_, ho, rfl⟩ ⟨_, ho2, rfl⟩ noFill_list_add seq_list_add PySem.F.slot_list_add PySem.F.entry_list_add (PySem.F.args_list_add_2 _ _) (PyProof.Rows.list_addW l b its.toArray its2.toArray n n2 none none sl sl2 (by simpa [← r.length, ← r2.length] using hz)) ⟨ho, ho2, ?_⟩
  rw [e]
  exact ⟨.ref _, _, I.lnew (t' := s.toks) (r.append r2) (by rw [List.length_append]; omega), rfl, q _ I.fresh⟩
theorem od_add : OpD X (binaryOp .Add) true addD := by
  refine ⟨_, op_add.or (op_add_str.or (op_catL.or op_catA)), fun O H x y d e w Q od hx hy hw q => ?_⟩
  cases hx with
  | int i =>
    cases hy with
    | int j => cases hw; exact .inl ⟨i, j, rfl, rfl, q _ _ (.flat (.int _) fun _ z => nomatch z)⟩
    | _ => cases hw
  | str a =>
    cases hy with
    | str b =>
      simp only [addD] at hw
      split at hw
      · rename_i hl
        cases hw
        exact .inr (.inl ⟨a, b, rfl, rfl, hl, q _ _ (.flat (.str _) fun _ z => nomatch z)⟩)
      · cases hw
    | _ => cases hw
  | lst l r =>
    cases hy with
    | lst l' r' =>
      simp only [addD] at hw
      split at hw
      · rename_i hl
        cases hw
        exact .inr (.inr (.inl ⟨_, _, _, _, rfl, rfl, l.1, l'.1, by rw [r.length, r'.length]; exact hl, fun p hp => q _ _ (.lst od hp (r.append r'))⟩))
      · cases hw
    | _ => cases hw
  | tup l r =>
    cases hy with
    | tup l' r' =>
      simp only [addD] at hw
      split at hw
      · rename_i hl
        cases hw
        refine .inr (.inr (.inr ⟨_, _, _, _, rfl, rfl, l.1, l'.1, by rw [r.length, r'.length]; exact hl, fun e => ?_, fun _ e => ?_, fun _ _ p hp => q _ _ (.tup od hp (r.append r'))⟩))
        · subst e
          cases r
          exact q _ _ (.flat (.tup l' r') fun _ z => nomatch z)
        · subst e
          cases r'
          rw [List.append_nil] at q
          exact q _ _ (.flat (.tup l r) fun _ z => nomatch z)
      · cases hw
    | _ => cases hw
  | _ => cases hw
def subD : D → D → Option D
  | .int i, .int j => some (.int (i - j))
  | _, _ => none
theorem od_sub : OpD X (binaryOp .Sub) true subD := by
  refine ⟨_, op_sub, fun O H x y d e w Q od hx hy hw q => ?_⟩
  cases hx with
  | int i =>
    cases hy with
    | int j => cases hw; exact ⟨i, j, rfl, rfl, q _ _ (.flat (.int _) fun _ z => nomatch z)⟩
    | _ => cases hw
  | _ => cases hw
instance (i j : Int) : Decidable (CMul i j) := by unfold CMul; infer_instance
instance (i j : Int) : Decidable (CDivN i j) := by unfold CDivN; infer_instance
instance (i j : Int) : Decidable (CPow i j) := by unfold CPow; infer_instance
def CMulV (i j : Int) : Prop := CMul i j ∨ CMulW i j
instance (i j : Int) : Decidable (CMulW i j) := by unfold CMulW; infer_instance
instance (i j : Int) : Decidable (CMulV i j) := by unfold CMulV; infer_instance
theorem op_mulV : OpR X (binaryOp .Mult) (rI CMulV fun i j => .int (i * j)) := opI fun _ _ _ _ _ _ _ hc q => mul_int q (hc.elim CMul.ok CMulW.ok)
/-- a list * an int, the list as it lies -/
theorem int_rmul_listW (a : Int) (t : Tok) (l : Addr) (items : Array Value) (n : Nat) (sl : Array (Option Value)) :
    Meets (Builtin.«int.__rmul__» ⟨[.int a t, .ref l], []⟩) (fun _ R s => s.heap.get? l = some { cls := .type "list", dict := none, data := .seq items n, slots := sl } ∧ R (.ok (.ret Value.notImplemented)) s) :=
  .of_wp fun prog w A R s h => by obtain ⟨hp, g, d, tk, os⟩ := s; obtain ⟨hl, h⟩ := h; wp_walk; exact ⟨_, rfl, h⟩
theorem list_mulW (l : Addr) (items : Array Value) (n : Nat) (sl : Array (Option Value)) (x : Int) (u : Tok) (hc0 : ¬(!Builtin.List.listFitsIndex x) = true) (hc1 : ¬items.size * x.toNat > (2 ^ 63 - 1) / 8) (hc2 : ¬Builtin.List.listTooLong (items.size * x.toNat) = true) :
    Meets (Builtin.«list.__mul__» ⟨[.ref l, .int x u], []⟩) (fun _ R s => s.heap.get? l = some { cls := .type "list", dict := none, data := .seq items n, slots := sl } ∧ R (.ok (.ret (Value.ref s.heap.objs.size))) { s with heap := s.heap.push { cls := Value.type "list", data := Data.seq (List.foldl (fun x1 x2 => x1 ++ x2) #[] (List.replicate (if items.isEmpty = true then 0 else x.toNat) items)) }, toks := s.toks }) :=
  .of_wp fun prog w A R s h => by
    obtain ⟨hp, g, d, tk, os⟩ := s; obtain ⟨hl, h⟩ := h
    have hsz := AutoListH.joined_fits hc2
    wp_walk; refine wpAny_ite_false (decide_eq_false (Nat.not_lt.mpr hsz)) ?_; wp_walk; exact ⟨_, rfl, h⟩
def rRepL (K : PySem.W.Frag) : R2 := fun x y H Q => ∃ l k xs, x = .ref l ∧ y = .int k ∧ SqL K H l xs ∧ -(2 ^ 63) ≤ k ∧ k < 2 ^ 63 ∧ xs.length * k.toNat ≤ sizeLine ∧
  ∀ p, H p = none → Q (.ref p) (upd H p (.lst (List.replicate k.toNat xs).flatten))
theorem op_repL : OpR X (binaryOp .Mult) (rRepL X.K) := by
  intro pins s σ H x y v u Q I rx ry h
  obtain ⟨l, k, xs, rfl, rfl, hH, h1, h2, hz, q⟩ := h
  cases rx
  obtain ⟨t, rfl⟩ := ry
  obtain ⟨its, r, ⟨⟨cls, dd, data, sl⟩, n, e, hc, hdd, hd⟩, z⟩ := I.list hH
  simp only at hc hdd hd
  subst hc hdd hd
  have hl := r.length
  have hlen : its.toArray.size * k.toNat ≤ sizeLine := by rw [List.size_toArray, ← hl]; exact hz
  have hcap : ¬ its.toArray.size * k.toNat > (2 ^ 63 - 1) / 8 := by
    have : (sizeLine : Nat) ≤ (2 ^ 63 - 1) / 8 := by decide
    omega
  have hfit : ¬ (!Builtin.List.listFitsIndex k) = true := by
    rw [fitsIndex_both h1 h2]
    exact Bool.false_ne_true
  have hlong : ¬ Builtin.List.listTooLong (its.toArray.size * k.toNat) = true := by
    rw [notLongL hlen]
    exact Bool.false_ne_true
  have hnew : List.foldl (fun x1 x2 => x1 ++ x2) #[] (List.replicate (if its.toArray.isEmpty = true then 0 else k.toNat) its.toArray) = (List.replicate k.toNat its).flatten.toArray := by
    have f0 : ∀ m : Nat, List.foldl (fun x1 x2 => x1 ++ x2) #[] (List.replicate m its.toArray) = (List.replicate m its).flatten.toArray := fun m => by
      have := foldl_rep its m []
      rw [List.nil_append] at this
      exact this
    rw [f0]
    cases its with
    | nil => simp
    | cons a r' => rw [if_neg (by simp)]
  refine wpAny_binaryOp_repeat_ref (T := "list") (U := "int") (by decide) ⟨_, e, rfl⟩ (fun s' => typeIs_int s' k t) noFill_list_mul F.fills_int_mul F.slot_int_rmul repeat_list F.slot_int_index.lookup
    (call_meets F.slot_int_rmul (typeIs_int s k t) F.entry_int_rmul (F.args_int_rmul_2 _ _) (int_rmul_listW k t l its.toArray n sl)
      ⟨e, rfl, ⟨_, e, rfl⟩, call_meets F.slot_list_mul ⟨_, e, rfl⟩ F.entry_list_mul (F.args_list_mul_2 _ _) (list_mulW l its.toArray n sl k t hfit hcap hlong) ⟨e, ?_⟩⟩)
  rw [hnew]
  exact ⟨.ref _, _, I.lnew (t' := s.toks) (r.rep k.toNat) (by rw [PyProof.Rows.lm_len_rep_flat, Nat.mul_comm]; exact hz), rfl, q _ I.fresh⟩
theorem AtAll.repN {K : PySem.W.Frag} {O : Addr → Prop} {H : Hp} {vs : List V} {ds : List D} (h : AtAll K O H vs ds) : ∀ k : Nat, AtAll K O H (List.replicate k vs).flatten (List.replicate k ds).flatten
  | 0 => .nil
  | k + 1 => by
    rw [List.replicate_succ, List.replicate_succ, List.flatten_cons, List.flatten_cons]
    exact h.append (AtAll.repN h k)
def mulD : D → D → Option D
  | .int i, .int j => if CMulV i j then some (.int (i * j)) else none
  | .list ds, .int k => if -(2 ^ 63) ≤ k ∧ k < 2 ^ 63 ∧ ds.length * k.toNat ≤ sizeLine then some (.list (List.replicate k.toNat ds).flatten) else none
  | _, _ => none
theorem od_mul : OpD X (binaryOp .Mult) true mulD := by
  refine ⟨_, op_mulV.or op_repL, fun O H x y d e w Q od hx hy hw q => ?_⟩
  cases hx with
  | int i =>
    cases hy with
    | int j =>
      simp only [mulD] at hw
      split at hw
      · rename_i hc
        cases hw
        exact .inl ⟨i, j, rfl, rfl, hc, q _ _ (.flat (.int _) fun _ z => nomatch z)⟩
      · cases hw
    | _ => cases hw
  | lst l r =>
    cases hy with
    | int k =>
      simp only [mulD] at hw
      split at hw
      · rename_i hc
        cases hw
        exact .inr ⟨_, k, _, rfl, rfl, l.1, hc.1, hc.2.1, by rw [r.length]; exact hc.2.2, fun p hp => q _ _ (.lst od hp (r.repN _))⟩
      · cases hw
    | _ => cases hw
  | _ => cases hw
def modD : D → D → Option D
  | .int i, .int j => if j ≠ 0 then some (.int (i.fmod j)) else none
  | _, _ => none
theorem od_mod : OpD X (binaryOp .Mod) true modD := by
  refine ⟨_, op_modN, fun O H x y d e w Q od hx hy hw q => ?_⟩
  cases hx with
  | int i =>
    cases hy with
    | int j =>
      simp only [modD] at hw
      split at hw
      · rename_i hc
        cases hw
        exact ⟨i, j, rfl, rfl, hc, q _ _ (.flat (.int _) fun _ z => nomatch z)⟩
      · cases hw
    | _ => cases hw
  | _ => cases hw
def fdivD : D → D → Option D
  | .int i, .int j => if CDivN i j then some (.int (i.fdiv j)) else none
  | _, _ => none
theorem od_fdiv : OpD X (binaryOp .FloorDiv) true fdivD := by
  refine ⟨_, op_fdivN, fun O H x y d e w Q od hx hy hw q => ?_⟩
  cases hx with
  | int i =>
    cases hy with
    | int j =>
      simp only [fdivD] at hw
      split at hw
      · rename_i hc
        cases hw
        exact ⟨i, j, rfl, rfl, hc, q _ _ (.flat (.int _) fun _ z => nomatch z)⟩
      · cases hw
    | _ => cases hw
  | _ => cases hw
def powD : D → D → Option D
  | .int i, .int j => if CPow i j then some (.int (i ^ j.toNat)) else none
  | _, _ => none
theorem od_pow : OpD X (binaryOp .Pow) true powD := by
  refine ⟨_, op_pow, fun O H x y d e w Q od hx hy hw q => ?_⟩
  cases hx with
  | int i =>
    cases hy with
    | int j =>
      simp only [powD] at hw
      split at hw
      · rename_i hc
        cases hw
        exact ⟨i, j, rfl, rfl, hc, q _ _ (.flat (.int _) fun _ z => nomatch z)⟩
      · cases hw
    | _ => cases hw
  | _ => cases hw
def negD : D → Option D
  | .int i => some (.int (-i))
  | _ => none
theorem ud_neg : UnD X (unaryOp .USub) true negD := by
  refine ⟨_, un_neg, fun O H x d w Q od hx hw q => ?_⟩
  cases hx with
  | int i => cases hw; exact ⟨i, rfl, q _ _ (.flat (.int _) fun _ z => nomatch z)⟩
  | _ => cases hw
def cmpD (p : Int → Int → Bool) : D → D → Option D
  | .int i, .int j => some (.bool (p i j))
  | _, _ => none
theorem od_cmp {f : Value → Value → Sem Value} {p : Int → Int → Bool} (h : OpR X f (rI0 fun i j => .bl (p i j))) : OpD X f true (cmpD p) := by
  refine ⟨_, h, fun O H x y d e w Q od hx hy hw q => ?_⟩
  cases hx with
  | int i =>
    cases hy with
    | int j => cases hw; exact ⟨i, j, rfl, rfl, q _ _ (.flat (.bl _) fun _ z => nomatch z)⟩
    | _ => cases hw
  | _ => cases hw
def ltD := cmpD fun i j => decide (i < j)
def leD := cmpD fun i j => decide (i ≤ j)
def gtD := cmpD fun i j => decide (j < i)
def geD := cmpD fun i j => decide (j ≤ i)
theorem od_lt : OpD X (compareOp .Lt) true ltD := od_cmp op_lt
theorem od_le : OpD X (compareOp .LtE) true leD := od_cmp op_le
theorem od_gt : OpD X (compareOp .Gt) true gtD := od_cmp op_gt
theorem od_ge : OpD X (compareOp .GtE) true geD := od_cmp op_ge
def eqD (d e : D) : Option D := if (SeqAt.shaped d && SeqAt.shaped e) = true then some (.bool (PyData.eqv d e)) else none
def neD (d e : D) : Option D := if (SeqAt.shaped d && SeqAt.shaped e) = true then some (.bool (!PyData.eqv d e)) else none
theorem od_eq (hu : X.A.units + 64 < cLine) : OpD X (compareOp .Eq) true eqD := by
  refine ⟨_, op_eqD hu, fun O H x y d e w Q od hx hy hw q => ?_⟩
  unfold eqD at hw
  split at hw
  · rename_i hs
    cases hw
    rw [Bool.and_eq_true] at hs
    exact ⟨d, e, hx.dp (SeqAt.canLay_of_shaped hs.1), hy.dp (SeqAt.canLay_of_shaped hs.2), hs.1, hs.2, q _ _ (.flat (.bl _) fun _ z => nomatch z)⟩
  · cases hw
theorem od_ne (hu : X.A.units + 64 < cLine) : OpD X (compareOp .NotEq) true neD := by
  refine ⟨_, op_neD hu, fun O H x y d e w Q od hx hy hw q => ?_⟩
  unfold neD at hw
  split at hw
  · rename_i hs
    cases hw
    rw [Bool.and_eq_true] at hs
    exact ⟨d, e, hx.dp (SeqAt.canLay_of_shaped hs.1), hy.dp (SeqAt.canLay_of_shaped hs.2), hs.1, hs.2, q _ _ (.flat (.bl _) fun _ z => nomatch z)⟩
  · cases hw
/-- is, is not, of None and of bools -/
def isD (d e : D) : Option D := match d, e with
  | .none, .none => some (.bool true)
  | _, .none => some (.bool false)
  | .bool a, .bool b => some (.bool (decide (a = b)))
  | _, _ => none
def isntD (d e : D) : Option D := match d, e with
  | .none, .none => some (.bool false)
  | _, .none => some (.bool true)
  | .bool a, .bool b => some (.bool (!decide (a = b)))
  | _, _ => none
theorem od_is : OpD X (compareOp .Is) true isD := by
  refine ⟨_, op_isN.or op_isBl, fun O H x y d e w Q od hx hy hw q => ?_⟩
  cases hy with
  | non =>
    cases hx <;> cases hw <;> exact .inl ⟨rfl, q _ _ (.flat (.bl _) fun _ z => nomatch z)⟩
  | bl b =>
    cases hx with
    | bl a => cases hw; exact .inr ⟨a, b, rfl, rfl, q _ _ (.flat (.bl _) fun _ z => nomatch z)⟩
    | _ => cases hw
  | _ => cases hx <;> cases hw
theorem od_isnt : OpD X (compareOp .IsNot) true isntD := by
  refine ⟨_, op_notN.or op_notBl, fun O H x y d e w Q od hx hy hw q => ?_⟩
  cases hy with
  | non =>
    cases hx <;> cases hw <;> exact .inl ⟨rfl, q _ _ (.flat (.bl _) fun _ z => nomatch z)⟩
  | bl b =>
    cases hx with
    | bl a => cases hw; exact .inr ⟨a, b, rfl, rfl, q _ _ (.flat (.bl _) fun _ z => nomatch z)⟩
    | _ => cases hw
  | _ => cases hx <;> cases hw
/-- x in a list -/
def inD (d e : D) : Option D := match e with
  | .list ds => if (SeqAt.shaped d && SeqAt.shaped (.list ds)) = true then some (.bool (ds.any fun z => PyData.eqv z d)) else none
  | .str y => match d with
    | .str x => some (.bool (!(Builtin.Str.occurrences y x 0 y.length 1).isEmpty))
    | _ => none
  | _ => none
theorem od_in (hu : X.A.units + 65 < cLine) : OpD X (compareOp .In) true inD := by
  refine ⟨_, (op_inD hu).or op_in_str, fun O H x y d e w Q od hx hy hw q => ?_⟩
  cases hy with
  | lst l r =>
    simp only [inD] at hw
    split at hw
    · rename_i hs
      cases hw
      rw [Bool.and_eq_true] at hs
      exact .inl ⟨d, _, hx.dp (SeqAt.canLay_of_shaped hs.1), (At.lst l r).dp (SeqAt.canLay_of_shaped hs.2), hs.1, hs.2, q _ _ (.flat (.bl _) fun _ z => nomatch z)⟩
    · cases hw
  | str z =>
    cases hx with
    | str a => cases hw; exact .inr ⟨a, z, rfl, rfl, q _ _ (.flat (.bl _) fun _ z => nomatch z)⟩
    | _ => cases hw
  | _ => cases hw
theorem atI_at {vs : List V} {ds : List D} {i : Int} {d : D} (r : AtAll K O H vs ds) (h : atI ds i = some d) : ∃ v, atI vs i = some v ∧ At K O H v d := by
  unfold atI at h ⊢
  rw [r.length]
  cases e : ixN ds.length i with
  | none => rw [e] at h; cases h
  | some j =>
    rw [e] at h
    exact r.get h
def ixD (d e : D) : Option D := match d, e with
  | .list ds, .int i => atI ds i
  | .tuple ds, .int i => atI ds i
  | .str z, .int i => if z.length ≤ sizeLine then (atI z.cps.toList i).map fun c => .str ⟨#[c]⟩ else none
  | _, _ => none
theorem xd_ix : IxD X false ixD := by
  refine ⟨_, ix_seq, fun O H x y d e w Q od hx hy hw q => ?_⟩
  cases hy with
  | int i =>
    cases hx with
    | lst l r =>
      obtain ⟨v, h1, h2⟩ := atI_at r hw
      exact .inl ⟨_, _, i, v, rfl, rfl, l.1, h1, q _ _ (.sh h2)⟩
    | tup l r =>
      obtain ⟨v, h1, h2⟩ := atI_at r hw
      exact .inr (.inl ⟨_, _, i, v, rfl, rfl, l.1, h1, q _ _ (.sh h2)⟩)
    | str z =>
      simp only [ixD] at hw
      split at hw
      · rename_i hl
        rw [Option.map_eq_some_iff] at hw
        obtain ⟨c, e1, rfl⟩ := hw
        exact .inr (.inr ⟨z, i, c, rfl, rfl, hl, e1, q _ _ (.sh (.str _))⟩)
      · cases hw
    | _ => cases hw
  | _ => cases hx <;> cases hw
def cutD (xs : List D) (lo hi : Option Int) : List D := (xs.drop (HT.sIx xs.length 0 lo)).take (HT.sIx xs.length xs.length hi - HT.sIx xs.length 0 lo)
theorem AtAll.cut {vs : List V} {ds : List D} (r : AtAll K O H vs ds) (lo hi : Option Int) : AtAll K O H (cutV vs lo hi) (cutD ds lo hi) := by
  unfold cutV cutD
  rw [r.length]
  exact (r.drop _).take _
end
end DL
namespace DL
open PySem PySem.Spec PyProof.Rows L2
variable {K : PySem.W.Frag}
section
variable {X : Cx} {e : Expr} {es : List Expr} {z : Z}
def tO (K : PySem.W.Frag) (z : Z) (f : En → R En (Option Int × En)) : TO := fun σ H Q => ∃ (B : Bs) (env : En), SR K z.np B σ H env ∧
  (f env).post (fun p => ∀ H', SR K z.np B σ H' p.2 → Mv (B.O σ env) (B.O σ p.2) H H' → Q p.1 H') (XP K z B σ H env)
abbrev DO (z : Z) (X : Cx) (e : Option Expr) (f : En → R En (Option Int × En)) : Prop := PO X e (tO X.K z f)
theorem po_weak {eo : Option Expr} {t t' : TO} (h : PO X eo t) (i : ∀ σ H Q, t' σ H Q → t σ H Q) : PO X eo t' := ⟨fun pins s σ H Q I q => h.run pins s σ H Q I (i σ H Q q)⟩
def fPart (f : EF) : En → R En (Option Int × En) := fun env => (f env).bind fun p => match p.1 with
  | .int i => .ok (some i, p.2)
  | _ => .stuck
theorem do_none : DO z X none (fun env => .ok (none, env)) := po_weak po_none fun σ H Q ⟨B, env, I, p⟩ => p H I .refl
theorem do_some {fr : Bool} {f : EF} (h : DE z X fr e f) : DO z X (some e) (fPart f) := po_weak (po_some h) fun σ H Q ⟨B, env, I, hp⟩ => by
  refine ⟨B, env, I, (R.post_bind hp).imp (fun p hp v H1 I1 m1 a1 _ => ?_) fun _ _ q => q⟩
  obtain ⟨d, e'⟩ := p
  cases d with
  | int i => cases a1; exact ⟨i, rfl, hp H1 I1 m1⟩
  | _ => exact hp.elim
def SlD (X : Cx) (fr : Bool) (h : D → Option Int → Option Int → Option D) : Prop :=
  ∃ r : V → Option Int → Option Int → Hp → VK → Prop, SlR X r ∧ ∀ (O : Addr → Prop) (H : Hp) (x : V) (d w : D) (lo hi : Option Int) (Q : VK), Od O H → At X.K O H x d → h d lo hi = some w → (∀ v H', Res X.K fr O H H' v w → Q v H') → r x lo hi H Q
def fSl (h : D → Option Int → Option Int → Option D) (f : EF) (fl fh : En → R En (Option Int × En)) : EF := fun env => (f env).bind fun p => (fl p.2).bind fun l => (fh l.2).bind fun u => (ofO (h p.1 l.1 u.1)).bind fun r => .ok (r, u.2)
theorem de_slice {fa fr : Bool} {f : EF} {lo hi : Option Expr} {fl fh : En → R En (Option Int × En)} {h : D → Option Int → Option Int → Option D} {pos p2 : Pos} (ho : SlD X fr h) (ha : DE z X fa e f) (hl : DO z X lo fl) (hu : DO z X hi fh) :
    DE z X fr (.Subscript e (.Slice lo hi none p2) pos) (fSl h f fl fh) := by
  obtain ⟨r, hr, sem⟩ := ho
  refine de_imp (pe_slice hr ha hl hu) fun B env σ H Q I hp => ⟨B, env, I, (R.post_bind hp).imp (fun p hp v H1 I1 m1 a1 _ => ?_) fun _ _ q => q⟩
  refine ⟨B, p.2, I1, (R.post_bind hp).imp (fun l hl' H2 I2 m2 => ?_) fun _ _ q => q.step m1⟩
  refine ⟨B, l.2, I2, (R.post_bind hl').imp (fun u hu' H3 I3 m3 => ?_) fun _ _ q => q.step (m1.trans m2)⟩
  obtain ⟨w, ew, hw⟩ := ofO_post (R.post_bind hu')
  exact sem _ H3 v p.1 w l.1 u.1 Q I3.od (At.mv m3 (At.mv m2 a1)) ew fun v' H' rr => EP1.give hw I3 ((m1.trans m2).trans m3) rr
/-- xs[lo:hi] of a list, a tuple, a text -/
def slD (d : D) (lo hi : Option Int) : Option D := match d with
  | .list ds => some (.list (cutD ds lo hi))
  | .tuple ds => some (.tuple (cutD ds lo hi))
  | _ => none
theorem cut_whole {α : Type} (xs : List α) (lo hi : Option Int) (h : HT.sIx xs.length 0 lo = 0 ∧ HT.sIx xs.length xs.length hi = xs.length) : (xs.drop (HT.sIx xs.length 0 lo)).take (HT.sIx xs.length xs.length hi - HT.sIx xs.length 0 lo) = xs := by
  rw [h.1, h.2]; simp
theorem sd_sl : SlD X true slD := by
  refine ⟨_, sl_list.or sl_tupA, fun O H x d w lo hi Q od hx hw q => ?_⟩
  cases hx with
  | lst l r => cases hw; exact .inl ⟨_, _, rfl, l.1, fun p hp => q _ _ (.lst od hp (r.cut lo hi))⟩
  | tup l r =>
    cases hw
    refine .inr ⟨_, _, rfl, l.1, fun hw => ?_, fun _ p hp => q _ _ (.tup od hp (r.cut lo hi))⟩
    have e := cut_whole _ lo hi (by rw [← r.length]; exact hw)
    unfold cutD at q
    rw [e] at q
    exact q _ _ (.flat (.tup l r) fun _ z => nomatch z)
  | _ => cases hw
theorem AtAll.one {O : Addr → Prop} {H : Hp} {vs : List V} {d : D} (h : AtAll K O H vs [d]) : ∃ v, vs = [v] ∧ At K O H v d := by
  cases h with | cons a r => cases r; exact ⟨_, rfl, a⟩
theorem AtAll.two {O : Addr → Prop} {H : Hp} {vs : List V} {d e : D} (h : AtAll K O H vs [d, e]) : ∃ v u, vs = [v, u] ∧ At K O H v d ∧ At K O H u e := by
  cases h with | cons a r => cases r with | cons b r => cases r; exact ⟨_, _, rfl, a, b⟩
theorem CallR.or {f : Value} {r r' : List V → Hp → VK → Prop} (h : CallR X f r) (h' : CallR X f r') : CallR X f (fun xs H Q => r xs H Q ∨ r' xs H Q) := by
  intro pins s σ H xs us Q I rx q
  rcases q with q | q
  · exact h pins s σ H xs us Q I rx q
  · exact h' pins s σ H xs us Q I rx q
def lenD : List D → Option D
  | [.list ds] => some (.int ds.length)
  | [.tuple ds] => some (.int ds.length)
  | [.str x] => if x.length ≤ sizeLine then some (.int x.length) else none
  | _ => none
theorem cd_len : CallD X (.builtin "len") true lenD := by
  refine ⟨_, call_len_seq.or call_len_str, fun O H vs ds w Q od ha hw q => ?_⟩
  match ds, hw with
  | [.list xs], hw =>
    obtain ⟨v, rfl, a⟩ := ha.one
    obtain ⟨p, ys, rfl, l, r⟩ := a.list_inv
    cases hw
    exact .inl ⟨p, ys, rfl, .inl l.1, by rw [r.length]; exact q _ _ (.flat (.int _) fun _ z => nomatch z)⟩
  | [.tuple xs], hw =>
    obtain ⟨v, rfl, a⟩ := ha.one
    obtain ⟨p, ys, rfl, l, r⟩ := a.tuple_inv
    cases hw
    exact .inl ⟨p, ys, rfl, .inr l.1, by rw [r.length]; exact q _ _ (.flat (.int _) fun _ z => nomatch z)⟩
  | [.str x], hw =>
    obtain ⟨v, rfl, a⟩ := ha.one
    cases a
    simp only [lenD] at hw
    split at hw
    · rename_i hl
      cases hw
      exact .inr ⟨x, rfl, hl, q _ _ (.flat (.int _) fun _ z => nomatch z)⟩
    · cases hw
  | [], hw => cases hw
  | [.none], hw => cases hw
  | [.bool _], hw => cases hw
  | [.int _], hw => cases hw
  | [.dict _], hw => cases hw
  | _ :: _ :: _, hw => simp [lenD] at hw
def intD : List D → Option D
  | [.int i] => some (.int i)
  | [.bool b] => some (.int (if b then 1 else 0))
  | _ => none
theorem cd_int : CallD X (.type "int") true intD := by
  refine ⟨_, call_int1, fun O H vs ds w Q od ha hw q => ?_⟩
  match ds, hw with
  | [.int i], hw =>
    obtain ⟨v, rfl, a⟩ := ha.one
    cases a
    cases hw
    exact .inl ⟨i, rfl, q _ _ (.flat (.int _) fun _ z => nomatch z)⟩
  | [.bool b], hw =>
    obtain ⟨v, rfl, a⟩ := ha.one
    cases a
    cases hw
    exact .inr ⟨b, rfl, q _ _ (.flat (.int _) fun _ z => nomatch z)⟩
  | [], hw => cases hw
  | [.none], hw => cases hw
  | [.str _], hw => cases hw
  | [.list _], hw => cases hw
  | [.tuple _], hw => cases hw
  | [.dict _], hw => cases hw
  | _ :: _ :: _, hw => simp [intD] at hw
def absD : List D → Option D
  | [.int i] => some (.int (if i < 0 then -i else i))
  | _ => none
theorem absD_inv {ds : List D} {w : D} (h : absD ds = some w) : ∃ i, ds = [.int i] ∧ w = .int (if i < 0 then -i else i) := by
  unfold absD at h
  split at h
  · cases h; exact ⟨_, rfl, rfl⟩
  · cases h
theorem cd_abs : CallD X (.builtin "abs") true absD := by
  refine ⟨_, call_abs, fun O H vs ds w Q od ha hw q => ?_⟩
  obtain ⟨i, rfl, rfl⟩ := absD_inv hw
  obtain ⟨v, rfl, a⟩ := ha.one
  cases a
  exact ⟨i, rfl, q _ _ (.flat (.int _) fun _ z => nomatch z)⟩
/-- the ints of data -/
def intsD : List D → Option (List Int)
  | [] => some []
  | .int i :: r => (intsD r).map (i :: ·)
  | _ :: _ => none
theorem intsD_inv : ∀ {ds : List D} {ns : List Int}, intsD ds = some ns → ds = ns.map PyData.int
  | [], ns, h => by cases h; rfl
  | d :: r, ns, h => by
    cases d with
    | int i =>
      simp only [intsD, Option.map_eq_some_iff] at h
      obtain ⟨ms, h1, rfl⟩ := h
      rw [intsD_inv h1]
      rfl
    | _ => cases h
theorem intsD_map : ∀ ns : List Int, intsD (ns.map PyData.int) = some ns
  | [] => rfl
  | i :: r => by simp only [List.map_cons, intsD, intsD_map r, Option.map_some]
theorem intsD_at {O : Addr → Prop} {H : Hp} {vs : List V} {ds : List D} {ns : List Int} (r : AtAll K O H vs ds) (h : intsD ds = some ns) : vs = ns.map V.int := by
  rw [intsD_inv h] at r
  exact r.ints
/-- sum of a tuple -/
theorem call_sum_tup (hc : X.calm = true) : CallR X (.builtin "sum") (fun vs H Q => ∃ (a : Addr) (ns : List Int), vs = [V.ref a] ∧ SqT X.K H a (ns.map V.int) ∧ Q (.int ns.sum) H) := by
  intro pins s σ H vs us Q I r h
  obtain ⟨a, ns, rfl, hs, q⟩ := h
  obtain ⟨its, rv, hl, _⟩ := I.tuple hs
  rw [Vals.ref1 r]
  have hi := rv.ints
  obtain ⟨xs, e⟩ := hi.allInts.items
  have hn : numsOf (intItems xs).toList = ns := by rw [← e]; exact hi.numsOf
  rw [nums_intItems] at hn
  have hT : s.heap.IsTuple a (intItems xs) := by rw [← e]; exact hl
  have hlt : a < s.heap.objs.size := hl.lt
  refine call_sum_walkG (wpAny_pyIter_tuple hT ?_)
  refine ⟨_, [_, a], [_], _, _, _, numAt xs, rfl, Walks.tuple (A := X.A.in1) (I.ok.hd hc) _ a (Nat.ne_of_lt hlt) (intItems xs), ⟨⟨_, Heap.get?_push_size _ rfl, rfl, rfl⟩, hT.push _⟩, fun b hb => ?_, (fun _ _ => intItems_at), fun h' tk t' hk => ?_⟩
  · show b < (s.heap.push _).objs.size
    rw [Heap.size_push]
    rcases List.mem_cons.mp hb with rfl | hb
    · exact Nat.lt_succ_self _
    · rcases List.mem_cons.mp hb with rfl | hb
      · exact Nat.lt_succ_of_lt hlt
      · cases hb
  · have hold : ∀ c o, s.heap.get? c = some o → h'.get? c = some o := fun c o e => by
      refine hk c o (fun hm => ?_) (Heap.get?_push_of_some _ e)
      rcases List.mem_cons.mp hm with e1 | hm
      · have := Heap.lt_size e; rw [e1] at this; exact Nat.lt_irrefl _ this
      · cases hm
    refine ⟨.int _, H, I.kept (t' := tk) hold, ⟨t', ?_⟩, q⟩
    rw [← hn]
    have : (intItems xs).size = xs.size := by simp [intItems]
    rw [this, preSum_eq, List.take_of_length_le (by simp)]
def sumD : List D → Option D
  | [.list ds] => (intsD ds).map fun ns => .int ns.sum
  | [.tuple ds] => (intsD ds).map fun ns => .int ns.sum
  | _ => none
theorem sumD_inv {ds : List D} {w : D} (h : sumD ds = some w) : ∃ xs ns, (ds = [.list xs] ∨ ds = [.tuple xs]) ∧ intsD xs = some ns ∧ w = .int ns.sum := by
  unfold sumD at h
  split at h
  · rw [Option.map_eq_some_iff] at h
    obtain ⟨ns, h1, rfl⟩ := h
    exact ⟨_, ns, .inl rfl, h1, rfl⟩
  · rw [Option.map_eq_some_iff] at h
    obtain ⟨ns, h1, rfl⟩ := h
    exact ⟨_, ns, .inr rfl, h1, rfl⟩
  · cases h
theorem cd_sum (hc : X.calm = true) : CallD X (.builtin "sum") true sumD := by
  refine ⟨_, (cr_sum hc).or (call_sum_tup hc), fun O H vs ds w Q od ha hw q => ?_⟩
  obtain ⟨xs, ns, e, hn, rfl⟩ := sumD_inv hw
  have fin : Q (.int ns.sum) H := q _ _ (.flat (.int _) fun _ z => nomatch z)
  rcases e with rfl | rfl
  · obtain ⟨v, rfl, a⟩ := ha.one
    obtain ⟨p, ys, rfl, l, r⟩ := a.list_inv
    have := intsD_at r hn
    subst this
    exact .inl ⟨p, ns, rfl, l.1, fin⟩
  · obtain ⟨v, rfl, a⟩ := ha.one
    obtain ⟨p, ys, rfl, l, r⟩ := a.tuple_inv
    have := intsD_at r hn
    subst this
    exact .inr ⟨p, ns, rfl, l.1, fin⟩
/-- the greatest, the least -/
def maxI : List Int → Option Int
  | [] => none
  | i :: r => some (r.foldl (fun a b => max a b) i)
def minI : List Int → Option Int
  | [] => none
  | i :: r => some (r.foldl (fun a b => min a b) i)
theorem foldl_max : ∀ (r : List Int) (i : Int), (r.foldl (fun a b => max a b) i ∈ i :: r) ∧ ∀ y ∈ i :: r, y ≤ r.foldl (fun a b => max a b) i
  | [], i => ⟨by simp, fun y h => by simp at h; simp [h]⟩
  | j :: r, i => by
    obtain ⟨h1, h2⟩ := foldl_max r (max i j)
    simp only [List.foldl_cons]
    have h3 := h2 (max i j) (by simp)
    refine ⟨?_, fun y h => ?_⟩
    · rcases List.mem_cons.mp h1 with h | h
      · rw [h]
        have : max i j = i ∨ max i j = j := by omega
        rcases this with e | e <;> rw [e] <;> simp
      · simp [h]
    · rcases List.mem_cons.mp h with rfl | h
      · omega
      · rcases List.mem_cons.mp h with rfl | h
        · omega
        · exact h2 y (by simp [h])
theorem foldl_min : ∀ (r : List Int) (i : Int), (r.foldl (fun a b => min a b) i ∈ i :: r) ∧ ∀ y ∈ i :: r, r.foldl (fun a b => min a b) i ≤ y
  | [], i => ⟨by simp, fun y h => by simp at h; simp [h]⟩
  | j :: r, i => by
    obtain ⟨h1, h2⟩ := foldl_min r (min i j)
    simp only [List.foldl_cons]
    have h3 := h2 (min i j) (by simp)
    refine ⟨?_, fun y h => ?_⟩
    · rcases List.mem_cons.mp h1 with h | h
      · rw [h]
        have : min i j = i ∨ min i j = j := by omega
        rcases this with e | e <;> rw [e] <;> simp
      · simp [h]
    · rcases List.mem_cons.mp h with rfl | h
      · omega
      · rcases List.mem_cons.mp h with rfl | h
        · omega
        · exact h2 y (by simp [h])
theorem maxI_is {ns : List Int} {m : Int} (h1 : m ∈ ns) (h2 : ∀ y, y ∈ ns → y ≤ m) : maxI ns = some m := by
  cases ns with
  | nil => cases h1
  | cons i r =>
    obtain ⟨h3, h4⟩ := foldl_max r i
    have := h2 _ h3
    have := h4 m h1
    show some _ = some m
    congr 1
    omega
theorem minI_is {ns : List Int} {m : Int} (h1 : m ∈ ns) (h2 : ∀ y, y ∈ ns → m ≤ y) : minI ns = some m := by
  cases ns with
  | nil => cases h1
  | cons i r =>
    obtain ⟨h3, h4⟩ := foldl_min r i
    have := h2 _ h3
    have := h4 m h1
    show some _ = some m
    congr 1
    omega
def maxD : List D → Option D
  | [.list ds] => (intsD ds).bind fun ns => (maxI ns).map .int
  | [.int i, .int j] => some (.int (max i j))
  | _ => none
def minD : List D → Option D
  | [.list ds] => (intsD ds).bind fun ns => (minI ns).map .int
  | [.int i, .int j] => some (.int (min i j))
  | _ => none
theorem cd_max (hc : X.calm = true) : CallD X (.builtin "max") true maxD := by
  refine ⟨_, (cr_max hc).or (call_max2 hc), fun O H vs ds w Q od ha hw q => ?_⟩
  unfold maxD at hw
  split at hw
  · rename_i xs
    rw [Option.bind_eq_some_iff] at hw
    obtain ⟨ns, h1, h2⟩ := hw
    rw [Option.map_eq_some_iff] at h2
    obtain ⟨m, h2, rfl⟩ := h2
    obtain ⟨v, rfl, a⟩ := ha.one
    obtain ⟨p, ys, rfl, l, r⟩ := a.list_inv
    have := intsD_at r h1
    subst this
    refine .inl ⟨p, ns, rfl, l.1, ?_, fun m' g1 g2 => ?_⟩
    · cases ns with
      | nil => cases h2
      | cons => simp
    · rw [maxI_is g1 g2] at h2
      cases h2
      exact q _ _ (.flat (.int _) fun _ z => nomatch z)
  · rename_i i j
    cases hw
    obtain ⟨v, u, rfl, a, b⟩ := ha.two
    cases a
    cases b
    refine .inr ⟨i, j, rfl, ?_⟩
    have : (if j > i then j else i) = max i j := by split <;> omega
    rw [this]
    exact q _ _ (.flat (.int _) fun _ z => nomatch z)
  · cases hw
theorem cd_min (hc : X.calm = true) : CallD X (.builtin "min") true minD := by
  refine ⟨_, (cr_min hc).or (call_min2 hc), fun O H vs ds w Q od ha hw q => ?_⟩
  unfold minD at hw
  split at hw
  · rename_i xs
    rw [Option.bind_eq_some_iff] at hw
    obtain ⟨ns, h1, h2⟩ := hw
    rw [Option.map_eq_some_iff] at h2
    obtain ⟨m, h2, rfl⟩ := h2
    obtain ⟨v, rfl, a⟩ := ha.one
    obtain ⟨p, ys, rfl, l, r⟩ := a.list_inv
    have := intsD_at r h1
    subst this
    refine .inl ⟨p, ns, rfl, l.1, ?_, fun m' g1 g2 => ?_⟩
    · cases ns with
      | nil => cases h2
      | cons => simp
    · rw [minI_is g1 g2] at h2
      cases h2
      exact q _ _ (.flat (.int _) fun _ z => nomatch z)
  · rename_i i j
    cases hw
    obtain ⟨v, u, rfl, a, b⟩ := ha.two
    cases a
    cases b
    refine .inr ⟨i, j, rfl, ?_⟩
    have : (if j < i then j else i) = min i j := by split <;> omega
    rw [this]
    exact q _ _ (.flat (.int _) fun _ z => nomatch z)
  · cases hw
def listD : List D → Option D
  | [.list ds] => some (.list ds)
  | [.tuple ds] => some (.list ds)
  | _ => none
def tupleD : List D → Option D
  | [.list ds] => some (.tuple ds)
  | [.tuple ds] => some (.tuple ds)
  | _ => none
theorem cd_tuple : CallD X (.type "tuple") true tupleD := by
  refine ⟨_, call_tuple_of, fun O H vs ds w Q od ha hw q => ?_⟩
  unfold tupleD at hw
  split at hw
  · cases hw
    obtain ⟨v, rfl, a⟩ := ha.one
    obtain ⟨p, ys, rfl, l, r⟩ := a.list_inv
    exact ⟨p, ys, rfl, .inl ⟨l.1, fun p hp => q _ _ (.tup od hp r)⟩⟩
  · cases hw
    obtain ⟨v, rfl, a⟩ := ha.one
    obtain ⟨p, ys, rfl, l, r⟩ := a.tuple_inv
    exact ⟨p, ys, rfl, .inr ⟨l.1, q _ _ (.flat (.tup l r) fun _ z => nomatch z)⟩⟩
  · cases hw
def boolsD : List D → Option (List Bool)
  | [] => some []
  | .bool b :: r => (boolsD r).map (b :: ·)
  | _ :: _ => none
theorem boolsD_at {O : Addr → Prop} {H : Hp} : ∀ {vs : List V} {ds : List D} {bs : List Bool}, AtAll K O H vs ds → boolsD ds = some bs → vs = bs.map V.bl
  | _, [], bs, .nil, h => by cases h; rfl
  | _, d :: r, bs, .cons a q, h => by
    cases d with
    | bool b =>
      simp only [boolsD, Option.map_eq_some_iff] at h
      obtain ⟨cs, h1, rfl⟩ := h
      cases a
      rw [boolsD_at q h1]
      rfl
    | _ => cases h
def allD : List D → Option D
  | [.list ds] => (boolsD ds).map fun bs => .bool (bs.all id)
  | _ => none
theorem cd_all (hc : X.calm = true) : CallD X (.builtin "all") true allD := by
  refine ⟨_, cr_all hc, fun O H vs ds w Q od ha hw q => ?_⟩
  unfold allD at hw
  split at hw
  · rw [Option.map_eq_some_iff] at hw
    obtain ⟨bs, h1, rfl⟩ := hw
    obtain ⟨v, rfl, a⟩ := ha.one
    obtain ⟨p, ys, rfl, l, r⟩ := a.list_inv
    have := boolsD_at r h1
    subst this
    exact ⟨p, bs, rfl, l.1, q _ _ (.flat (.bl _) fun _ z => nomatch z)⟩
  · cases hw
/-- ints in order -/
def insI (i : Int) : List Int → List Int
  | [] => [i]
  | j :: r => if i ≤ j then i :: j :: r else j :: insI i r
def sortI : List Int → List Int
  | [] => []
  | i :: r => insI i (sortI r)
theorem insI_perm (i : Int) : ∀ l, (insI i l).Perm (i :: l)
  | [] => .refl _
  | j :: r => by
    unfold insI
    split
    · exact .refl _
    · exact ((insI_perm i r).cons j).trans (.swap i j r)
theorem insI_sorted (i : Int) : ∀ l : List Int, l.Pairwise (· ≤ ·) → (insI i l).Pairwise (· ≤ ·)
  | [], _ => by simp [insI]
  | j :: r, h => by
    rw [List.pairwise_cons] at h
    unfold insI
    split
    · rename_i hl
      refine List.pairwise_cons.mpr ⟨fun k hk => ?_, List.pairwise_cons.mpr h⟩
      rcases List.mem_cons.mp hk with rfl | hk
      · exact hl
      · have := h.1 k hk; omega
    · rename_i hl
      refine List.pairwise_cons.mpr ⟨fun k hk => ?_, insI_sorted i r h.2⟩
      rcases List.mem_cons.mp ((insI_perm i r).mem_iff.mp hk) with rfl | hk
      · omega
      · exact h.1 k hk
theorem sortI_perm : ∀ l : List Int, (sortI l).Perm l
  | [] => .refl _
  | i :: r => (insI_perm i (sortI r)).trans ((sortI_perm r).cons i)
theorem sortI_sorted : ∀ l : List Int, (sortI l).Pairwise (· ≤ ·)
  | [] => .nil
  | i :: r => insI_sorted i _ (sortI_sorted r)
theorem sortI_is {ns ms : List Int} (h : ms.Perm ns) (s : ms.Pairwise (· ≤ ·)) : ms = sortI ns :=
  List.Perm.eq_of_pairwise (le := (· ≤ ·)) (fun a b _ _ h1 h2 => by omega) s (sortI_sorted ns) (h.trans (sortI_perm ns).symm)
def sortedD : List D → Option D
  | [.list ds] => (intsD ds).map fun ns => .list ((sortI ns).map .int)
  | _ => none
theorem cd_sorted : CallD X (.builtin "sorted") true sortedD := by
  refine ⟨_, cr_sortedI, fun O H vs ds w Q od ha hw q => ?_⟩
  unfold sortedD at hw
  split at hw
  · rw [Option.map_eq_some_iff] at hw
    obtain ⟨ns, h1, rfl⟩ := hw
    obtain ⟨v, rfl, a⟩ := ha.one
    obtain ⟨p, ys, rfl, l, r⟩ := a.list_inv
    have := intsD_at r h1
    subst this
    refine ⟨p, ns, rfl, l.1, fun ms p hperm hs hp => ?_⟩
    rw [sortI_is hperm hs]
    exact q _ _ (.lst od hp (.of_ints _))
  · cases hw
end
end DL
namespace DL
open PySem PySem.Spec PyProof.Rows L2
variable {K : PySem.W.Frag}
section
variable {X : Cx} {e : Expr} {es : List Expr} {z : Z}
def reprD : List D → Option D
  | [d] => if (d.showable && SeqAt.shaped d && decide (d.shown.length ≤ sizeLine)) = true then some (.str d.shown) else none
  | _ => none
def tyN : D → String
  | .none => "NoneType"
  | .bool _ => "bool"
  | .int _ => "int"
  | .str _ => "str"
  | .list _ => "list"
  | .tuple _ => "tuple"
  | .dict _ => "dict"
def stiB : D → Bool
  | .dict ((_, .int _) :: _) => true
  | _ => false
theorem At.ty {O : Addr → Prop} {H : Hp} {v : V} {d : D} (h : At K O H v d) : ((∀ kvs, d ≠ .dict kvs) ∧ TyX K H v (.type (tyN d))) ∨ (∃ (a : Addr) (n : Str) (od : Option Addr), v = .ref a ∧ (∃ kvs, d = .dict kvs) ∧ (H a = some (ExB (.ref (caK K n)) od a) ∧ ∀ dx, od = some dx → ∃ fs, H dx = some (.xd fs)) ∧ ExI K n) ∨
    ((∃ kvs, d = .dict kvs) ∧ stiB d = true ∧ TyX K H v (.ref (caK K "Stints")) ∧ StI K) := by
  cases h with
  | non => exact .inl ⟨(fun _ z => nomatch z), .base .non⟩
  | bl b => exact .inl ⟨(fun _ z => nomatch z), .base (.bl b)⟩
  | int i => exact .inl ⟨(fun _ z => nomatch z), .base (.int i)⟩
  | str x => exact .inl ⟨(fun _ z => nomatch z), .base (.str x)⟩
  | lst l r =>
    refine .inl ⟨(fun _ z => nomatch z), ?_⟩
    rcases l.1 with (h | ⟨o, h⟩) | ⟨o, its, n, h1, h2, _⟩
    · exact .base (.lst h)
    · exact .base (.frz h)
    · exact .kList h1 h2
  | tup l r =>
    refine .inl ⟨(fun _ z => nomatch z), ?_⟩
    rcases l.1 with (h | ⟨o, h⟩) | ⟨o, its, n, h1, h2, _⟩
    · exact .base (.tup h)
    · exact .fTuple h
    · exact .kTuple h1 h2
  | sti m c i h _ _ _ => exact .inr (.inr ⟨⟨_, rfl⟩, rfl, .base (.ins h.1 i.cl i.ha i.hn i.ht i.hm), i⟩)
  | exc n h i => exact .inr (.inl ⟨_, n, none, rfl, ⟨_, rfl⟩, ⟨h.1, fun _ q => nomatch q⟩, i⟩)
  | excP n f h i a =>
    obtain ⟨⟨h1, _⟩, ⟨fs, h2, _⟩, _⟩ := h
    exact .inr (.inl ⟨_, n, _, rfl, ⟨_, rfl⟩, ⟨h1, fun dx q => by cases q; exact ⟨fs, h2⟩⟩, i⟩)
/-- isinstance(e, c), e an error that is kept -/
def rIsX (K : PySem.W.Frag) : List V → Hp → VK → Prop := fun xs H Q => ∃ (a C : Addr) (c : V) (u : Value) (b : Bool) (od : Option Addr), xs = [.ref a, c] ∧ ClsV c u ∧ (H a = some (ExB (.ref C) od a) ∧ ∀ dx, od = some dx → ∃ fs, H dx = some (.xd fs)) ∧ ExcC K C ∧ PySem.W.kitOne K (.ref C) u = some b ∧ Q (.bl b) H
theorem call_isX : CallR X (.builtin "isinstance") (rIsX X.K) := by
  intro pins s σ H vs us Q I r h
  obtain ⟨a, C, c, u, b, od, rfl, k, ⟨hH, hdx⟩, hC, e, q⟩ := h
  obtain ⟨u1, u2, rfl, r1, r2⟩ := vals2 r
  obtain rfl := k.eq r2
  cases (show u1 = Value.ref a from r1)
  obtain ⟨⟨⟨oc, od', ot, osl⟩, fs, h0, ⟨h1, h2⟩, h3⟩, _⟩ := (show ObjOk X.prog X.w H s.heap a (ExB (.ref C) od a) from I.hok a _ hH)
  dsimp only at h1 h2 h3
  subst h1 h2 h3
  obtain ⟨oD, J⟩ : ∃ oD, PySem.W.InstAt s.heap a ⟨.ref C, od', .fields fs, osl⟩ C oD := by
    cases od' with
    | none => exact ⟨none, h0, rfl, rfl, trivial⟩
    | some dx =>
      obtain ⟨xs, hx⟩ := hdx dx rfl
      obtain ⟨mA, hns, _⟩ := (show ObjOk X.prog X.w H s.heap dx (.xd xs) from I.hok dx _ hx)
      obtain ⟨o, ho, _⟩ := lookIn_ns hns
      exact ⟨some o, h0, rfl, rfl, ho⟩
  exact PySem.W.kia_one (PySem.W.kitx_exc (by obtain ⟨cd, q, _⟩ := PySem.W.any_some hC.hd; rw [q]; rfl) hC.hg hC.hk hC.hs hC.ha hC.hn hC.ht hC.hm) I.kIn J e (fun z => nomatch z) fun tk => ⟨.bl b, H, I.tok tk, rfl, q⟩
def isTy (T : String) (d : D) : Option D := match d with
  | .dict kvs => if T = "ValueError" then (if stiB (.dict kvs) = true then none else some (.bool true)) else if T ∈ tyFive then some (.bool false) else none
  | _ => (kitB (tyN d) T).map .bool
theorem isTy_inv {T : String} {d w : D} (h : isTy T d = some w) : ∃ b, w = .bool b ∧ ((∀ kvs, d ≠ .dict kvs) → kitB (tyN d) T = some b) ∧ ((∃ kvs, d = .dict kvs) → (T = "ValueError" ∧ b = true ∧ stiB d = false) ∨ (T ∈ tyFive ∧ b = false)) := by
  cases d with
  | dict kvs =>
    unfold isTy at h
    simp only at h
    split at h
    · rename_i e
      split at h
      · cases h
      · rename_i hs
        cases h
        exact ⟨true, rfl, fun z => absurd rfl (z kvs), fun _ => .inl ⟨e, rfl, by simpa using hs⟩⟩
    · split at h
      · rename_i e
        cases h
        exact ⟨false, rfl, fun z => absurd rfl (z kvs), fun _ => .inr ⟨e, rfl⟩⟩
      · cases h
  | _ =>
    unfold isTy at h
    simp only at h
    rw [Option.map_eq_some_iff] at h
    obtain ⟨b, hb, rfl⟩ := h
    exact ⟨b, rfl, fun _ => hb, fun ⟨kvs, e⟩ => nomatch e⟩
def fIsi (T : String) (f : EF) : EF := fUn (isTy T) f
theorem de_isi {T : String} {x : Str} {p p2 pos : Pos} {fr : Bool} {f : EF} (he : DE z X fr e f) (hg : Gl X "isinstance") (hm : X.mg "isinstance" = none) (hgT : Gl X x) (hmT : X.mg x = none) (hvT : bootBuiltins x = some (.type T))
    (hn : x ≠ "__name__" := by decide) (hd : (x == ("__debug__" : Str)) = false := by decide)
    (he1 : starEach [e, .Name x p2] X.env = (false, eval e X.env) :: starEach [.Name x p2] X.env := by rfl) (he2 : starEach [.Name x p2] X.env = (false, eval (.Name x p2) X.env) :: starEach [] X.env := by rfl) (hpl : (backTo pos (starEach [.Name x p2] X.env)).any (·.1) = false := by rfl) :
    DE z X true (.Call (.Name "isinstance" p) [e, .Name x p2] [] pos) (fIsi T f) := by
  refine de_imp (pe_callB (call_isi.or call_isX) hg hm (by decide +kernel) (pa_cons he (pa_cons (pe_bltn (v := .ty T) hgT hmT hvT rfl hn hd) pa_nil he2) he1) (by decide) (by decide) he1 hpl) fun B env σ H Q I hp => ?_
  refine ⟨B, env, I, (R.post_bind hp).imp (fun p hp v H1 I1 m1 a1 _ => ?_) fun _ _ q => q⟩
  obtain ⟨w, ew, hw⟩ := ofO_post (R.post_bind hp)
  obtain ⟨b, rfl, hb, hx⟩ := isTy_inv ew
  have fin : Q (.bl b) H1 := EP1.give hw I1 m1 (.flat (.bl _) fun _ q => nomatch q)
  rcases a1.ty with ⟨nd, ty⟩ | ⟨a, n, od, rfl, ed, hE, hI⟩ | ⟨ed, hs, ty, hI⟩
  · exact .inl ⟨v, .ty T, _, _, b, rfl, .ty T, ty, kit_ty (hb nd), fin⟩
  · refine .inr ⟨a, caK X.K n, .ty T, _, b, od, rfl, .ty T, hE, hI.c, ?_, fin⟩
    rcases hx ed with ⟨rfl, rfl, _⟩ | ⟨hT, rfl⟩
    · exact hI.v
    · exact hI.b T hT
  · rcases hx ed with ⟨_, _, hs'⟩ | ⟨hT, rfl⟩
    · rw [hs] at hs'; cases hs'
    · exact .inl ⟨v, .ty T, _, _, false, rfl, .ty T, ty, hI.b T hT, fin⟩
theorem de_glob {x : Str} {v : V} {u : Value} {d : D} {pos : Pos} (hg : Gl X x) (hm : X.mg x = some u) (r : RelV v u) (ha : ∀ O H, At X.K O H v d) (hdl : ∀ ds, d ≠ .list ds) (hd : (x == ("__debug__" : Str)) = false := by decide) : DE z X true (.Name x pos) (fC d) := de_c (pe_glob hg hm r hd) ha hdl
def fIxO (i : Nat) (g : EF) : EF := fun env => match env[i]? with
  | some (some (.ow _)) => (g env).bind fun q => match q.2[i]? with
    | some (some (.ow ds)) => (ofO (ixD (.list ds) q.1)).bind fun r => .ok (r, q.2)
    | _ => .stuck
  | _ => .stuck
theorem de_ixO {i : Nat} {a b : Expr} {fb : Bool} {g : EF} {pos : Pos} (ha : PE X a (tVar i)) (hb : DE z X fb b g) (hs : PlainIx b) : DE z X false (.Subscript a b pos) (fIxO i g) := by
  refine de_imp (pe_ix ix_list ha hb hs) fun B env σ H Q I hp => ?_
  unfold fIxO at hp
  split at hp
  · rename_i ds0 e0
    obtain ⟨a0, _, hv, _⟩ := I.ow e0
    refine ⟨_, hv, B, env, I, (R.post_bind hp).imp (fun q hq u H2 I2 m2 a2 _ => ?_) fun _ _ q => q⟩
    split at hq
    · rename_i ds e
      obtain ⟨w, ew, hw⟩ := ofO_post (R.post_bind hq)
      obtain ⟨a, xs, e1, hO, hH, r⟩ := I2.ow e
      rw [hv] at e1
      cases e1
      obtain ⟨dd, e'⟩ := q
      cases dd with
      | int k =>
        cases a2
        obtain ⟨x, h1, h2⟩ := atI_at r ew
        exact ⟨a0, xs, k, x, rfl, rfl, SqL.of hH, h1, EP1.give hw I2 m2 (.sh h2)⟩
      | _ => cases ew
    · exact hq.elim
  · exact hp.elim
/-- len of an own list -/
def fLenO (i : Nat) : EF := fun env => match env[i]? with
  | some (some (.ow ds)) => .ok (.int ds.length, env)
  | _ => .stuck
theorem AtAll.rep {O : Addr → Prop} {H : Hp} {vs : List V} {ds : List D} (r : AtAll K O H vs ds) : ∀ n : Nat, AtAll K O H (List.replicate n vs).flatten (List.replicate n ds).flatten
  | 0 => by simp; exact .nil
  | n + 1 => by
    simp only [List.replicate_succ, List.flatten_cons]
    exact r.append (AtAll.rep r n)
def repD (d e : D) : Option D := match d, e with
  | .list ds, .int k => if -(2 ^ 63) ≤ k ∧ k < 2 ^ 63 ∧ ds.length * k.toNat ≤ sizeLine then some (.list (List.replicate k.toNat ds).flatten) else none
  | _, _ => none
theorem de_rep {fb : Bool} {f g : EF} {a b : Expr} {pos : Pos} (ha : DE z X true a f) (hb : DE z X fb b g) : DE z X true (.BinOp a .Mult b pos) (fOp repD f g) := by
  refine de_imp (pe_op op_rep ha hb) fun B env σ H Q I hp => ?_
  refine ⟨B, env, I, (R.post_bind hp).imp (fun p hp v H1 I1 m1 a1 f1 => ?_) fun _ _ q => q⟩
  refine ⟨B, p.2, I1, (R.post_bind hp).imp (fun q hq u H2 I2 m2 a2 _ => ?_) fun x e hx => hx.step m1⟩
  obtain ⟨w, ew, hw⟩ := ofO_post (R.post_bind hq)
  obtain ⟨d, e1⟩ := p
  obtain ⟨k, e2⟩ := q
  cases d with
  | list ds =>
    cases k with
    | int k =>
      simp only [repD] at ew
      split at ew
      · rename_i hc
        cases ew
        cases a2
        obtain ⟨a, xs, rfl, na, nO, hH, hx, _⟩ := f1 rfl ds rfl
        have hx' : AtAll X.K (B.O σ e2) H2 xs ds := AtAll.mv m2 (AtAll.mv (Mv.less fun _ z => .inl z) hx)
        exact ⟨a, k, xs, rfl, rfl, m2.keep a _ hH nO, hc.1, hc.2.1, by rw [hx'.length]; exact hc.2.2, fun p hp => EP1.give hw I2 (m1.trans m2) (.lst I2.od hp (hx'.rep _))⟩
      · cases ew
    | _ => cases ew
  | _ => cases ew
end
end DL
namespace DL
open PySem PySem.Spec PyProof.Rows L2
variable {K : PySem.W.Frag}
set_option maxHeartbeats 1000000 in
theorem meets_enumerate_newB1 {v : Value} {o : Obj} {H : Heap → Prop} (B : Begins v o H) :
    Meets (Builtin.«enumerate.__new__» ⟨[.type "enumerate", v], []⟩) (fun _ R s => H s.heap ∧
      R (.ok (.ret (.ref (s.heap.push o).objs.size))) { s with heap := (s.heap.push o).push { cls := .type "enumerate", data := .fields #[.none, .bool false, .ref s.heap.objs.size, rawInt 0, .none, .none] } }) :=
  .of_wp fun prog w A R s h => by
    obtain ⟨hp, g, d, tk, os⟩ := s; obtain ⟨h1, h⟩ := h
    have hsub := sub_enumerate
    have q1 : ∀ {A' : Around} {E : Value → Shared → Prop} {Q : Value → Shared → Prop}, Q (.ref hp.objs.size) ⟨hp.push o, g, d, tk, os⟩ → wpAny (model prog w) A' (pyIter v) Q E ⟨hp, g, d, tk, os⟩ :=
      fun q => B.iter prog w _ _ ⟨hp, g, d, tk, os⟩ _ h1 q
    wp_walk using q1
    refine wpAny_stack_any fun st => wpAny_pure ?_
    split
    · rename_i c _ _ _ _ _
      cases (c == Value.type "enumerate")
      · wp_walk using q1
        exact ⟨_, rfl, h⟩
      · wp_walk using q1
        exact ⟨_, rfl, h⟩
    · wp_walk using q1
      exact ⟨_, rfl, h⟩
section
variable {prog : Program} {w : World} {A : Around} {E : Value → Shared → Prop} {s : Shared}
theorem enum_begins1 {v : Value} {o : Obj} {H : Heap → Prop} {Q : Value → Shared → Prop} (B : Begins v o H) (h1 : H s.heap)
    (h : ∀ h', IsEnum h' (s.heap.objs.size + 1) s.heap.objs.size 0 .none → h'.get? s.heap.objs.size = some o → h'.objs.size = s.heap.objs.size + 2 →
      (∀ b o, s.heap.get? b = some o → h'.get? b = some o) → Q (.ref (s.heap.objs.size + 1)) { s with heap := h' }) :
    wpAny (model prog w) A (call (.type "enumerate") [v]) Q E s := by
  refine callType_new F.called_enumerate (by decide) (F.typeCall_enumerate_1 _) (F.newCall_enumerate_1 _) (fun obj => F.args_object_init_2 obj _) F.entry_enumerate_new
    (meets_enumerate_newB1 B) ⟨h1, ?_⟩
  have hz : (s.heap.push o).objs.size = s.heap.objs.size + 1 := Heap.size_push ..
  show _ ∧ _
  rw [hz]
  have he : IsEnum ((s.heap.push o).push { cls := .type "enumerate", data := .fields #[.none, .bool false, .ref s.heap.objs.size, rawInt 0, .none, .none] }) (s.heap.objs.size + 1) s.heap.objs.size 0 .none := by
    have := Heap.get?_push_size (s.heap.push o) (o := { cls := .type "enumerate", data := .fields #[.none, .bool false, .ref s.heap.objs.size, rawInt 0, .none, .none] }) rfl
    rw [hz] at this; exact this
  refine ⟨⟨_, he, rfl⟩, h _ he (Heap.get?_push_of_some _ (Heap.get?_push_size _ B.free)) (by rw [Heap.size_push, hz]) fun b o x => Heap.get?_push_of_some _ (Heap.get?_push_of_some _ x)⟩
end
/-- the tuple at a, each item in a new pair -/
def IteT (K : PySem.W.Frag) (a : Addr) : It :=
  ⟨fun i H => ∃ (xs : List V) (x : V), SqT K H a xs ∧ xs[i]? = some x, fun i H v H' => ∃ T x, v = .ref T ∧ H T = none ∧ H' = upd H T (.tup [.int (i : Nat), x]) ∧ ∀ xs, SqT K H a xs → xs[i]? = some x, fun i H => ∃ xs : List V, SqT K H a xs ∧ xs.length = i⟩
theorem turn_enumT {P : Program} {w : World} {K : PySem.W.Frag} {elts : List Expr} {kk : Nat} {tpos : Pos} (a e it : Addr) :
    Turn P w K (.Tuple elts kk tpos) (IteT K a) [e, it] e (fun i h => (∃ old, IsEnum h e it ((i : Nat) : Int) old) ∧ h.IsTupleIter it a i ∧ e ≠ it) where
  mem := by simp
  obj := fun i h st b hb => by
    obtain ⟨⟨old, he⟩, ⟨o, ho, hc, hd⟩, _⟩ := st
    have e' : b = e ∨ b = it := by simpa using hb
    rcases e' with z | z
    · rw [z]; exact ⟨_, he, fun v q => nomatch q⟩
    · rw [z]; exact ⟨o, ho, fun v q => by rw [hd] at q; cases q⟩
  keep := fun i h h' st k => let ⟨⟨old, he⟩, hi, hne⟩ := st; ⟨⟨old, k e (by simp) _ he⟩, hi.at fun o q => k it (by simp) o q, hne⟩
  item := by
    intro X hP hw hK hc i pins s σ H E I hf st hg
    subst hP hw hK
    obtain ⟨⟨old, he⟩, hit, hne⟩ := st
    obtain ⟨xs, x, hq, hx⟩ := hg
    obtain ⟨its, rv, p, hz⟩ := I.tuple hq
    obtain ⟨u, hu, ru⟩ := rv.get hx
    have hel : e < s.heap.objs.size := Heap.lt_size he
    have hil : it < s.heap.objs.size := by obtain ⟨_, q, _⟩ := hit; exact Heap.lt_size q
    have hai : a ≠ it := fun z => by
      obtain ⟨o, h1, h2, _⟩ := id p
      obtain ⟨o', h3, h4, _⟩ := id hit
      rw [z, h3] at h1; cases h1; rw [h4] at h2; exact absurd (Value.type.inj h2) (by decide)
    have hae : a ≠ e := fun z => by
      obtain ⟨o, h1, h2, _⟩ := id p
      have h3 : s.heap.get? e = some _ := he
      rw [z, h3] at h1; cases h1; exact absurd (Value.type.inj h2) (by decide)
    have hlt : i < its.toArray.size := by
      rw [List.size_toArray]
      exact (List.getElem?_eq_some_iff.mp hu).1
    have hef : e ∉ [it, a] := by simp [hne, Ne.symm hae]
    refine wpAny_pyNext_enum_itemC (Draws.tuple (A := X.A.in1) (I.ok.hd hc) it a hai its.toArray) he ⟨hit, p⟩ hlt hne hef fun x' h' tk hP ho hst hT hsz hk => ?_
    have ex : x' = u := by
      have : its.toArray[i]? = some u := by simpa using hu
      exact Option.some.inj (hP.symm.trans this)
    subst ex
    refine ⟨_, rfl, wpAny_letOwnedTupleGo_enum (s := { s with heap := h', toks := tk + 1 }) ho fun h'' he' sb => ?_⟩
    have hT2 : h''.get? s.heap.objs.size = some { cls := .type "tuple", data := .seq #[.int i tk, x'] } := (sb.2 _ (Nat.ne_of_gt hel)).trans hT
    have new : ObjOk X.prog X.w (upd H s.heap.objs.size (.tup [.int (i : Nat), x])) h'' s.heap.objs.size (.tup [.int (i : Nat), x]) :=
      ⟨by show 2 ≤ sizeLine; decide, [.int i tk, x'], .cons ⟨_, rfl⟩ (.cons ru .nil), ⟨_, hT2, rfl, _, rfl⟩⟩
    have I1 : Inv X pins σ (upd H s.heap.objs.size (.tup [.int (i : Nat), x])) { s with heap := h'', toks := tk + 1 } :=
      I.turnedNew (ch := [e, it]) (fun b ob hb q => (sb.2 b (fun z => hb (by simp [z]))).trans (hk b ob (fun z => hb (by simp [z])) (fun z => hb (by simp [z])) q)) hf (Nat.le_refl _) new
    refine ⟨.ref s.heap.objs.size, _, I1, rfl, ⟨_, x, rfl, I.hok.fresh (Nat.le_refl _), rfl, fun ys hy => by rw [I.tuple_inj hy hq]; exact hx⟩, ⟨⟨x', ?_⟩, hst.1.at fun o q => (sb.2 it (Ne.symm hne)).trans q, hne⟩, fun b hb => ?_⟩
    · have e1 : ((i + 1 : Nat) : Int) = (i : Int) + 1 := by omega
      rw [e1]; exact he'
    · have hb' : b < s.heap.objs.size := by
        have e' : b = e ∨ b = it := by simpa using hb
        rcases e' with z | z
        · rw [z]; exact hel
        · rw [z]; exact hil
      rw [upd_ne (Nat.ne_of_lt hb')]
      exact (hf b hb).1
  done := by
    intro X hP hw hK hc i pins s σ H E I hf st hg
    subst hP hw hK
    obtain ⟨⟨old, he⟩, hit, hne⟩ := st
    obtain ⟨xs, hq, hx⟩ := hg
    obtain ⟨its, rv, p, hz⟩ := I.tuple hq
    obtain ⟨f0, f1, f2, f3, f4, f5⟩ := hf it (by simp)
    have hl := rv.length
    have hai : a ≠ it := fun z => by
      obtain ⟨o, h1, h2, _⟩ := id p
      obtain ⟨o', h3, h4, _⟩ := id hit
      rw [z, h3] at h1; cases h1; rw [h4] at h2; exact absurd (Value.type.inj h2) (by decide)
    have hsz : its.toArray.size = i := by rw [List.size_toArray, ← hl, hx]
    exact wpAny_pyNext_enum_endD (Draws.tuple (A := X.A.in1) (I.ok.hd hc) it a hai its.toArray) he ⟨by rw [hsz]; exact hit, p⟩ fun h' eb => ⟨rfl, I.turned (t' := s.toks) (fun b o hb q => eb b o hb q) f0 f1 f3 f4 f5⟩
  self := fun A i s Q E st h => let ⟨⟨_, he⟩, _⟩ := st; wpAny_pyIter_enum he h
def iEnumS (K : PySem.W.Frag) (ta : TA) : TI := fun σ H R => ta σ H fun vs H1 => (∃ a xs, vs = [.ref a] ∧ SqL K H1 a xs ∧ R (Ite K a) H1) ∨ (∃ a xs, vs = [.ref a] ∧ SqT K H1 a xs ∧ R (IteT K a) H1)
theorem pi_enumS {X : Cx} {e : Expr} {ta : TA} {p pos tpos : Pos} {elts : List Expr} {kk : Nat} (hg : Gl X "enumerate") (hm : X.mg "enumerate" = none) (ha : PA X [e] ta) (hs : starEach [e] X.env = [(false, eval e X.env)] := by rfl) :
    PI X (.Tuple elts kk tpos) (.Call (.Name "enumerate" p) [e] [] pos) (iEnumS X.K ta) := by
  refine ⟨fun pins s σ H R I h => ?_⟩
  refine Call_ (ld_blt I hg hm boot_enumerate (PyProof.Rows.callWith_type1 (thn (ha.run pos pins s σ H _ I h) fun us s1 ⟨vs, H1, I1, r1, q1⟩ => ?_) hs rfl))
  rcases q1 with q1 | q1
  · obtain ⟨a, xs, ex, hq, q⟩ := q1
    subst ex
    cases r1 with
    | cons r rr =>
      cases rr
      cases r
      obtain ⟨its, rv, p', hz⟩ := I1.list hq
      refine call_enumerate_list p'.isList fun h' he hit hsz hk => wpAny_pyIter_enum he ?_
      have I2 : Inv X pins σ H1 { s1 with heap := h' } := I1.kept (t' := s1.toks) hk
      refine ⟨s1.heap.objs.size + 1, [s1.heap.objs.size + 1, s1.heap.objs.size], _, _, H1, rfl, I2, turn_enum a (s1.heap.objs.size + 1) s1.heap.objs.size, ⟨⟨.none, he⟩, hit, Nat.succ_ne_self _⟩, fun b hb => ?_, q⟩
      have e' : b = s1.heap.objs.size + 1 ∨ b = s1.heap.objs.size := by simpa using hb
      have hle : s1.heap.objs.size ≤ b := by
        rcases e' with z | z
        · rw [z]; exact Nat.le_add_right _ _
        · rw [z]; exact Nat.le_refl _
      exact I1.fpOk hle (I1.hok.fresh hle)
  · obtain ⟨a, xs, ex, hq, q⟩ := q1
    subst ex
    cases r1 with
    | cons r rr =>
      cases rr
      cases r
      obtain ⟨its, rv, p', hz⟩ := I1.tuple hq
      refine enum_begins1 (begins_tuple a its.toArray) p' fun h' he hit hsz hk => wpAny_pyIter_enum he ?_
      have I2 : Inv X pins σ H1 { s1 with heap := h' } := I1.kept (t' := s1.toks) hk
      refine ⟨s1.heap.objs.size + 1, [s1.heap.objs.size + 1, s1.heap.objs.size], _, _, H1, rfl, I2, turn_enumT a (s1.heap.objs.size + 1) s1.heap.objs.size, ⟨⟨.none, he⟩, ⟨_, hit, rfl, rfl⟩, Nat.succ_ne_self _⟩, fun b hb => ?_, q⟩
      have e' : b = s1.heap.objs.size + 1 ∨ b = s1.heap.objs.size := by simpa using hb
      have hle : s1.heap.objs.size ≤ b := by
        rcases e' with z | z
        · rw [z]; exact Nat.le_add_right _ _
        · rw [z]; exact Nat.le_refl _
      exact I1.fpOk hle (I1.hok.fresh hle)
def iSeq (K : PySem.W.Frag) (tl : TE) : TI := fun σ H R => tl σ H fun x H1 => (∃ a, x = .ref a ∧ (∃ xs, SqL K H1 a xs) ∧ R (Itl K a) H1) ∨ (∃ a, x = .ref a ∧ (∃ xs, SqT K H1 a xs) ∧ R (Itt K a) H1)
theorem pi_seq {X : Cx} {tg l : Expr} {tl : TE} (hl : PE X l tl) : PI X tg l (iSeq X.K tl) := by
  refine ⟨fun pins s σ H R I h => ?_⟩
  refine thn (hl.run pins s σ H _ I h) fun v s1 ⟨x, H1, I1, r1, q1⟩ => ?_
  rcases q1 with q1 | q1
  · obtain ⟨a, e, ⟨xs, hq⟩, q⟩ := q1
    subst e
    cases r1
    obtain ⟨its, rv, p, hz⟩ := I1.list hq
    refine wpAny_pyIter_list p.isList ?_
    refine ⟨s1.heap.objs.size, [s1.heap.objs.size], _, _, H1, rfl, I1.kept (t' := s1.toks) fun b o e => Heap.get?_push_of_some _ e, turn_list a _, ⟨_, Heap.get?_push_size _ rfl, rfl, rfl⟩, fun b hb => ?_, q⟩
    have e : b = s1.heap.objs.size := by simpa using hb
    subst e
    exact I1.fpOk (Nat.le_refl _) (I1.hok.fresh (Nat.le_refl _))
  · obtain ⟨a, e, ⟨xs, hq⟩, q⟩ := q1
    subst e
    cases r1
    obtain ⟨its, rv, p, hz⟩ := I1.tuple hq
    refine wpAny_pyIter_tuple (show s1.heap.IsTuple a its.toArray from p) ?_
    refine ⟨s1.heap.objs.size, [s1.heap.objs.size], _, _, H1, rfl, I1.kept (t' := s1.toks) fun b o e => Heap.get?_push_of_some _ e, turn_tuple a _, ⟨_, Heap.get?_push_size _ rfl, rfl, rfl⟩, fun b hb => ?_, q⟩
    have e : b = s1.heap.objs.size := by simpa using hb
    subst e
    exact I1.fpOk (Nat.le_refl _) (I1.hok.fresh (Nat.le_refl _))
def ItR (K : PySem.W.Frag) (O : Addr → Prop) (H : Hp) (J : It) (ds : List D) : Prop := ∀ (O' : Addr → Prop) (H1 : Hp), Mv O O' H H1 → Od O' H1 →
  (∀ i, i < ds.length → J.go i H1) ∧ J.stop ds.length H1 ∧ ∀ (i : Nat) (x : V) (H2 : Hp) (d : D), ds[i]? = some d → J.yld i H1 x H2 → Ex H1 H2 ∧ At K O' H2 x d
def tI (K : PySem.W.Frag) (z : Z) (f : En → R En (List D × En)) : TI := fun σ H R => ∃ (B : Bs) (env : En), SR K z.np B σ H env ∧
  (f env).post (fun p => ∀ J H', SR K z.np B σ H' p.2 → Mv (B.O σ env) (B.O σ p.2) H H' → ItR K (B.O σ p.2) H' J p.1 → R J H') (XP K z B σ H env)
abbrev DI (z : Z) (X : Cx) (tg iter : Expr) (f : En → R En (List D × En)) : Prop := PI X tg iter (tI X.K z f)
section
variable {X : Cx} {tg e : Expr} {es : List Expr} {z : Z}
theorem pi_weak {t t' : TI} (h : PI X tg e t) (i : ∀ σ H R, t' σ H R → t σ H R) : PI X tg e t' := ⟨fun pins s σ H R I q => h.run pins s σ H R I (i σ H R q)⟩
theorem itr_list {O : Addr → Prop} {H : Hp} {a : Addr} {xs : List V} {ds : List D} (l : LL K O H a xs) (r : AtAll K O H xs ds) : ItR K O H (Itl K a) ds := fun O' H1 m od => by
  have l1 := (LL.mv m l).1
  have r1 := AtAll.mv m r
  refine ⟨fun i hi => ?_, ⟨xs, l1, by rw [r.length]; exact Nat.le_refl _⟩, fun i x H2 d hd y => ?_⟩
  · obtain ⟨v, h1, _⟩ := r1.get (List.getElem?_eq_getElem hi)
    exact ⟨xs, v, l1, h1⟩
  · obtain ⟨rfl, y⟩ := y
    obtain ⟨v, h1, h2⟩ := r1.get hd
    rw [y xs l1] at h1
    cases h1
    exact ⟨fun _ _ q => q, h2⟩
theorem itr_tup {O : Addr → Prop} {H : Hp} {a : Addr} {xs : List V} {ds : List D} (l : LT K O H a xs) (r : AtAll K O H xs ds) : ItR K O H (Itt K a) ds := fun O' H1 m od => by
  have l1 := (LT.mv m l).1
  have r1 := AtAll.mv m r
  refine ⟨fun i hi => ?_, ⟨xs, l1, by rw [r.length]; exact Nat.le_refl _⟩, fun i x H2 d hd y => ?_⟩
  · obtain ⟨v, h1, _⟩ := r1.get (List.getElem?_eq_getElem hi)
    exact ⟨xs, v, l1, h1⟩
  · obtain ⟨rfl, y⟩ := y
    obtain ⟨v, h1, h2⟩ := r1.get hd
    rw [y xs l1] at h1
    cases h1
    exact ⟨fun _ _ q => q, h2⟩
def itemsD : D → Option (List D)
  | .list ds => some ds
  | .tuple ds => some ds
  | _ => none
def fItems (f : EF) : En → R En (List D × En) := fun env => (f env).bind fun p => (ofO (itemsD p.1)).bind fun ds => .ok (ds, p.2)
theorem di_seq {fr : Bool} {f : EF} (h : DE z X fr e f) : DI z X tg e (fItems f) := pi_weak (pi_seq h) fun σ H Rr ⟨B, env, I, hp⟩ =>
  ⟨B, env, I, (R.post_bind hp).imp (fun p hp v H1 I1 m1 a1 _ => by
    obtain ⟨ds, ed, hd⟩ := ofO_post (R.post_bind hp)
    obtain ⟨d, e'⟩ := p
    replace a1 : At X.K (B.O σ e') H1 v d := a1
    cases a1 with
    | lst l r => cases ed; exact .inl ⟨_, rfl, ⟨_, l.1⟩, hd _ H1 I1 m1 (itr_list l r)⟩
    | tup l r => cases ed; exact .inr ⟨_, rfl, ⟨_, l.1⟩, hd _ H1 I1 m1 (itr_tup l r)⟩
    | _ => cases ed) fun _ _ q => q⟩
def rangeL (lo : Int) (n : Nat) : List D := (List.range n).map fun i => .int (lo + (i : Nat))
theorem itr_range {O : Addr → Prop} {H : Hp} (lo : Int) (n : Nat) : ItR K O H (Itr lo n) (rangeL lo n) := fun O' H1 m od => by
  have hl : (rangeL lo n).length = n := by simp [rangeL]
  refine ⟨fun i hi => by rw [hl] at hi; exact hi, by rw [hl]; exact Nat.le_refl _, fun i x H2 d hd y => ?_⟩
  obtain ⟨rfl, rfl⟩ := y
  have hi : i < n := by
    have := (List.getElem?_eq_some_iff.mp hd).1
    rw [hl] at this
    exact this
  have : d = .int (lo + (i : Nat)) := by
    simp [rangeL, hi] at hd
    exact hd.symm
  subst this
  exact ⟨fun _ _ q => q, .int _⟩
def rangeD1 : List D → Option (List D)
  | [.int j] => if -(2 ^ 62) ≤ j ∧ j < 2 ^ 62 then some (rangeL 0 j.toNat) else none
  | _ => none
def rangeD2 : List D → Option (List D)
  | [.int i, .int j] => if -(2 ^ 62) ≤ i ∧ i < 2 ^ 62 ∧ -(2 ^ 62) ≤ j ∧ j < 2 ^ 62 then some (rangeL i (j - i).toNat) else none
  | _ => none
def fWalk (h : List D → Option (List D)) (g : En → R En (List D × En)) : En → R En (List D × En) := fun env => (g env).bind fun p => (ofO (h p.1)).bind fun ds => .ok (ds, p.2)
theorem di_range1 {a : Expr} {g : En → R En (List D × En)} {p pos : Pos} (hg : Gl X "range") (hm : X.mg "range" = none) (ha : DA z X [a] g) (hs : starEach [a] X.env = [(false, eval a X.env)] := by rfl) : DI z X tg (.Call (.Name "range" p) [a] [] pos) (fWalk rangeD1 g) :=
  pi_weak (pi_range1 hg hm ha hs) fun σ H Rr ⟨B, env, I, hp⟩ => ⟨B, env, I, (R.post_bind hp).imp (fun p hp vs H1 I1 m1 a1 => by
    obtain ⟨ds, ed, hd⟩ := ofO_post (R.post_bind hp)
    obtain ⟨l, e'⟩ := p
    replace a1 : AtAll X.K (B.O σ e') H1 vs l := a1
    dsimp only at ed
    unfold rangeD1 at ed
    split at ed
    · split at ed
      · rename_i hc
        cases ed
        obtain ⟨v, rfl, a⟩ := a1.one
        cases a
        exact ⟨_, rfl, hc.1, hc.2, hd _ H1 I1 m1 (itr_range 0 _)⟩
      · cases ed
    · cases ed) fun _ _ q => q⟩
/-- pairs with their numbers -/
def enumL (ds : List D) : List D := ds.zipIdx.map fun p => .tuple [.int (p.2 : Nat), p.1]
def enumD : List D → Option (List D)
  | [.list ds] => some (enumL ds)
  | [.tuple ds] => some (enumL ds)
  | _ => none
theorem enumL_get {ds : List D} {i : Nat} {d : D} (h : (enumL ds)[i]? = some d) : ∃ e, ds[i]? = some e ∧ d = .tuple [.int (i : Nat), e] := by
  simp only [enumL, List.getElem?_map, List.getElem?_zipIdx, Option.map_map, Option.map_eq_some_iff] at h
  obtain ⟨e, h1, h2⟩ := h
  refine ⟨e, h1, ?_⟩
  rw [← h2]
  simp
theorem enumL_length (ds : List D) : (enumL ds).length = ds.length := by simp [enumL]
theorem itr_enum {O : Addr → Prop} {H : Hp} {a : Addr} {xs : List V} {ds : List D} (l : LL K O H a xs) (r : AtAll K O H xs ds) : ItR K O H (Ite K a) (enumL ds) := fun O' H1 m od => by
  have l1 := (LL.mv m l).1
  have r1 := AtAll.mv m r
  rw [enumL_length]
  refine ⟨fun i hi => ?_, ⟨xs, l1, by rw [r.length]; exact Nat.le_refl _⟩, fun i x H2 d hd y => ?_⟩
  · obtain ⟨v, h1, _⟩ := r1.get (List.getElem?_eq_getElem hi)
    exact ⟨xs, v, l1, h1⟩
  · obtain ⟨T, y, rfl, hT, rfl, y1⟩ := y
    obtain ⟨e, he, rfl⟩ := enumL_get hd
    obtain ⟨v, h1, h2⟩ := r1.get he
    rw [y1 xs l1] at h1
    cases h1
    have rr := Res.tup (K := K) (fr := false) od hT (.cons (.int (i : Nat)) (.cons h2 .nil))
    exact ⟨rr.1, rr.2.1⟩
theorem itr_enumT {O : Addr → Prop} {H : Hp} {a : Addr} {xs : List V} {ds : List D} (l : LT K O H a xs) (r : AtAll K O H xs ds) : ItR K O H (IteT K a) (enumL ds) := fun O' H1 m od => by
  have l1 := (LT.mv m l).1
  have r1 := AtAll.mv m r
  rw [enumL_length]
  refine ⟨fun i hi => ?_, ⟨xs, l1, r.length⟩, fun i x H2 d hd y => ?_⟩
  · obtain ⟨v, h1, _⟩ := r1.get (List.getElem?_eq_getElem hi)
    exact ⟨xs, v, l1, h1⟩
  · obtain ⟨T, y, rfl, hT, rfl, y1⟩ := y
    obtain ⟨e, he, rfl⟩ := enumL_get hd
    obtain ⟨v, h1, h2⟩ := r1.get he
    rw [y1 xs l1] at h1
    cases h1
    have rr := Res.tup (K := K) (fr := false) od hT (.cons (.int (i : Nat)) (.cons h2 .nil))
    exact ⟨rr.1, rr.2.1⟩
theorem di_enum {a : Expr} {g : En → R En (List D × En)} {p pos tpos : Pos} {elts : List Expr} {kk : Nat} (hg : Gl X "enumerate") (hm : X.mg "enumerate" = none) (ha : DA z X [a] g) (hs : starEach [a] X.env = [(false, eval a X.env)] := by rfl) :
    DI z X (.Tuple elts kk tpos) (.Call (.Name "enumerate" p) [a] [] pos) (fWalk enumD g) :=
  pi_weak (pi_enumS hg hm ha hs) fun σ H Rr ⟨B, env, I, hp⟩ => ⟨B, env, I, (R.post_bind hp).imp (fun p hp vs H1 I1 m1 a1 => by
    obtain ⟨ds, ed, hd⟩ := ofO_post (R.post_bind hp)
    obtain ⟨l, e'⟩ := p
    replace a1 : AtAll X.K (B.O σ e') H1 vs l := a1
    dsimp only at ed
    unfold enumD at ed
    split at ed
    · cases ed
      obtain ⟨v, rfl, a⟩ := a1.one
      obtain ⟨p, ys, rfl, l, r⟩ := a.list_inv
      exact .inl ⟨p, ys, rfl, l.1, hd _ H1 I1 m1 (itr_enum l r)⟩
    · cases ed
      obtain ⟨v, rfl, a⟩ := a1.one
      obtain ⟨p, ys, rfl, l, r⟩ := a.tuple_inv
      exact .inr ⟨p, ys, rfl, l.1, hd _ H1 I1 m1 (itr_enumT l r)⟩
    · cases ed) fun _ _ q => q⟩
/-- zip of two lists -/
def zipL (ds es : List D) : List D := (ds.zip es).map fun p => .tuple [p.1, p.2]
def zipD : List D → Option (List D)
  | [.list ds, .list es] => some (zipL ds es)
  | _ => none
theorem zipL_get {ds es : List D} {i : Nat} {d : D} (h : (zipL ds es)[i]? = some d) : ∃ a b, ds[i]? = some a ∧ es[i]? = some b ∧ d = .tuple [a, b] := by
  simp only [zipL, List.getElem?_map, Option.map_eq_some_iff, List.getElem?_zip_eq_some] at h
  obtain ⟨⟨a, b⟩, ⟨h1, h2⟩, rfl⟩ := h
  exact ⟨a, b, h1, h2, rfl⟩
theorem zipL_length (ds es : List D) : (zipL ds es).length = min ds.length es.length := by simp [zipL]
theorem itr_zip {O : Addr → Prop} {H : Hp} {a b : Addr} {xs ys : List V} {ds es : List D} (l : LL K O H a xs) (r : AtAll K O H xs ds) (l' : LL K O H b ys) (r' : AtAll K O H ys es) : ItR K O H (Itz K a b) (zipL ds es) := fun O' H1 m od => by
  have l1 := (LL.mv m l).1
  have r1 := AtAll.mv m r
  have l2 := (LL.mv m l').1
  have r2 := AtAll.mv m r'
  rw [zipL_length]
  refine ⟨fun i hi => ?_, ⟨xs, ys, l1, l2, by rw [r.length, r'.length]; omega⟩, fun i x H2 d hd y => ?_⟩
  · obtain ⟨v, h1, _⟩ := r1.get (List.getElem?_eq_getElem (show i < ds.length by omega))
    obtain ⟨u, h2, _⟩ := r2.get (List.getElem?_eq_getElem (show i < es.length by omega))
    exact ⟨xs, ys, v, u, l1, l2, h1, h2⟩
  · obtain ⟨T, y, y', rfl, hT, rfl, y1, y2⟩ := y
    obtain ⟨e, e', he, he', rfl⟩ := zipL_get hd
    obtain ⟨v, h1, h2⟩ := r1.get he
    obtain ⟨u, h3, h4⟩ := r2.get he'
    rw [y1 xs l1] at h1
    cases h1
    rw [y2 ys l2] at h3
    cases h3
    have rr := Res.tup (K := K) (fr := false) od hT (.cons h2 (.cons h4 .nil))
    exact ⟨rr.1, rr.2.1⟩
theorem di_zip {a b : Expr} {g : En → R En (List D × En)} {p pos tpos : Pos} {elts : List Expr} {kk : Nat} (hg : Gl X "zip") (hm : X.mg "zip" = none) (ha : DA z X [a, b] g)
    (hs : starEach [a, b] X.env = (false, eval a X.env) :: starEach [b] X.env := by rfl) (hpl : (backTo pos (starEach [b] X.env)).any (·.1) = false := by rfl) :
    DI z X (.Tuple elts kk tpos) (.Call (.Name "zip" p) [a, b] [] pos) (fWalk zipD g) :=
  pi_weak (pi_zip hg hm ha hs hpl) fun σ H Rr ⟨B, env, I, hp⟩ => ⟨B, env, I, (R.post_bind hp).imp (fun p hp vs H1 I1 m1 a1 => by
    obtain ⟨ds, ed, hd⟩ := ofO_post (R.post_bind hp)
    obtain ⟨l, e'⟩ := p
    replace a1 : AtAll X.K (B.O σ e') H1 vs l := a1
    dsimp only at ed
    unfold zipD at ed
    split at ed
    · cases ed
      obtain ⟨v, u, rfl, a, b⟩ := a1.two
      obtain ⟨p, ys, rfl, l, r⟩ := a.list_inv
      obtain ⟨p', ys', rfl, l', r'⟩ := b.list_inv
      exact ⟨p, p', ys, ys', rfl, l.1, l'.1, hd _ H1 I1 m1 (itr_zip l r l' r')⟩
    · cases ed) fun _ _ q => q⟩
end
end DL
namespace DL
open PySem PySem.Spec PyProof.Rows L2
variable {K : PySem.W.Frag}
theorem wipe_get (σ : Sg) (j : Nat) : ∀ vs : List Nat, (wipe σ vs)[j]? = if j ∈ vs then σ[j]?.map fun _ => none else σ[j]?
  | [] => by simp [wipe]
  | v :: vs => by
    unfold wipe
    have ih := wipe_get σ j vs
    by_cases e : v = j
    · subst e
      simp only [List.mem_cons, true_or, if_true]
      by_cases hl : v < σ.length
      · rw [List.getElem?_set_self (by rw [wipe_length]; exact hl), List.getElem?_eq_getElem hl]
        rfl
      · rw [List.getElem?_eq_none (by simpa [wipe_length] using hl), List.getElem?_eq_none (by simpa using hl)]
        rfl
    · rw [List.getElem?_set_ne e, ih]
      have : (j ∈ v :: vs) ↔ j ∈ vs := by simp [Ne.symm e]
      simp only [this]
theorem wipe_set {σ : Sg} {i : Nat} {x : Option V} {vs : List Nat} (h : i ∈ vs) : wipe (σ.set i x) vs = wipe σ vs := by
  apply List.ext_getElem?
  intro j
  rw [wipe_get, wipe_get]
  by_cases e : i = j
  · subst e
    simp only [h, if_true]
    by_cases hl : i < σ.length
    · rw [List.getElem?_set_self hl, List.getElem?_eq_getElem hl]; rfl
    · rw [List.getElem?_eq_none (by simpa using hl), List.getElem?_eq_none (by simpa using hl)]
  · rw [List.getElem?_set_ne e]
abbrev TF := D → En → Option En
abbrev TFs := List D → En → Option En
def tG (K : PySem.W.Frag) (z : Z) (ws : List Nat) (T : TF) : TG := fun v σ H Q => ∃ (B : Bs) (env : En) (d : D) (env' : En), SR K z.np B σ H env ∧ At K (B.O σ env) H v d ∧ T d env = some env' ∧
  ∀ σ', SR K z.np B σ' H env' → Mv (B.O σ env) (B.O σ' env') H H → (∀ vs : List Nat, (∀ w ∈ ws, w ∈ vs) → wipe σ' vs = wipe σ vs) → Q σ' H
def tGs (K : PySem.W.Frag) (z : Z) (ws : List Nat) (T : TFs) : TGs := fun us σ H Q => ∃ (B : Bs) (env : En) (ds : List D) (env' : En), SR K z.np B σ H env ∧ AtAll K (B.O σ env) H us ds ∧ T ds env = some env' ∧
  ∀ σ', SR K z.np B σ' H env' → Mv (B.O σ env) (B.O σ' env') H H → (∀ vs : List Nat, (∀ w ∈ ws, w ∈ vs) → wipe σ' vs = wipe σ vs) → Q σ' H
abbrev DG (z : Z) (X : Cx) (e : Expr) (ws : List Nat) (T : TF) : Prop := PG X e (tG X.K z ws T)
abbrev DGs (z : Z) (X : Cx) (es : List Expr) (ws : List Nat) (T : TFs) : Prop := PGs X es (tGs X.K z ws T)
section
variable {X : Cx} {e : Expr} {es : List Expr} {z : Z}
theorem pg_weak {t t' : TG} (h : PG X e t) (i : ∀ v σ H Q, t' v σ H Q → t v σ H Q) : PG X e t' := ⟨fun pins s σ H v u Q I r q => h.run pins s σ H v u Q I r (i v σ H Q q)⟩
theorem pgs_weak {t t' : TGs} (h : PGs X es t) (i : ∀ v σ H Q, t' v σ H Q → t v σ H Q) : PGs X es t' := ⟨fun pins s σ H v u Q I r q => h.run pins s σ H v u Q I r (i v σ H Q q)⟩
def tN (i : Nat) : TF := fun d env => some (env.set i (some (.im d)))
theorem dg_name {i : Nat} (h : PG X e (gName i)) (hi : i ∉ z.np) : DG z X e [i] (tN i) := pg_weak h fun v σ H Q ⟨B, env, d, env', I, a, ht, q⟩ => by
  cases ht
  obtain ⟨I', m⟩ := I.setIm hi a
  exact q _ I' m fun vs hv => wipe_set (hv i (by simp))
def tsNil : TFs := fun ds env => match ds with
  | [] => some env
  | _ => none
def tsCons (t : TF) (u : TFs) : TFs := fun ds env => match ds with
  | d :: r => (t d env).bind fun e => u r e
  | [] => none
theorem dgs_nil : DGs z X [] [] tsNil := pgs_weak pgs_nil fun v σ H Q ⟨B, env, ds, env', I, a, ht, q⟩ => by
  cases a with
  | nil => cases ht; exact ⟨rfl, q σ I .refl fun _ _ => rfl⟩
  | cons _ _ => cases ht
theorem dgs_cons {ws ws' : List Nat} {t : TF} {u : TFs} (h1 : DG z X e ws t) (h2 : DGs z X es ws' u) (ha : (assignEach (e :: es) X.env).map (·.2) = assign e X.env :: (assignEach es X.env).map (·.2) := by rfl) : DGs z X (e :: es) (ws ++ ws') (tsCons t u) := by
  refine pgs_weak (pgs_cons h1 h2 ha) fun v σ H Q ⟨B, env, ds, env', I, a, ht, q⟩ => ?_
  cases a with
  | nil => cases ht
  | cons a r =>
    simp only [tsCons, Option.bind_eq_some_iff] at ht
    obtain ⟨e1, h1, h2⟩ := ht
    refine ⟨_, _, rfl, B, env, _, e1, I, a, h1, fun σ1 I1 m1 w1 => ?_⟩
    exact ⟨B, e1, _, env', I1, AtAll.mv m1 r, h2, fun σ2 I2 m2 w2 => q σ2 I2 (m1.trans m2) fun vs hv =>
      (w2 vs fun w hw => hv w (List.mem_append_right _ hw)).trans (w1 vs fun w hw => hv w (List.mem_append_left _ hw))⟩
def tTuple (n : Nat) (u : TFs) : TF := fun d env => match d with
  | .tuple ds => if ds.length = n then u ds env else none
  | _ => none
theorem dg_tup {k n : Nat} {ws : List Nat} {u : TFs} {pos : Pos} (hc : X.calm = true) (h : DGs z X es ws u) (hn : (assignEach es X.env).length = n := by rfl) (hst : (assignEach es X.env).findIdx? (·.1) = none := by rfl) : DG z X (.Tuple es k pos) ws (tTuple n u) :=
  pg_weak (pg_tup hc h hn hst) fun v σ H Q ⟨B, env, d, env', I, a, ht, q⟩ => by
    cases a with
    | tup l r =>
      simp only [tTuple] at ht
      split at ht
      · rename_i hl
        exact ⟨_, _, rfl, l.1, by rw [r.length]; exact hl, B, env, _, env', I, r, ht, q⟩
      · cases ht
    | _ => cases ht
end
def wipeE (env : En) : List Nat → En
  | [] => env
  | v :: vs => (wipeE env vs).set v none
theorem wipeE_length (env : En) : ∀ vs : List Nat, (wipeE env vs).length = env.length
  | [] => rfl
  | v :: vs => by unfold wipeE; rw [List.length_set, wipeE_length env vs]
theorem wipeE_some {env : En} {j : Nat} {s : Sl} : ∀ {vs : List Nat}, (wipeE env vs)[j]? = some (some s) → j ∉ vs ∧ env[j]? = some (some s)
  | [], h => ⟨by simp, h⟩
  | v :: vs, h => by
    unfold wipeE at h
    rcases getElem?_set_some h with ⟨_, e⟩ | ⟨e, h⟩
    · cases e
    · obtain ⟨h1, h2⟩ := wipeE_some h
      exact ⟨by simp [e, h1], h2⟩
theorem wipeE_out {env : En} {j : Nat} : ∀ {vs : List Nat}, j ∉ vs → (wipeE env vs)[j]? = env[j]?
  | [], _ => rfl
  | v :: vs, h => by
    simp only [List.mem_cons, not_or] at h
    unfold wipeE
    rw [List.getElem?_set_ne (Ne.symm h.1), wipeE_out h.2]
/-- the slots vs again as they were -/
def restE (env0 env1 : En) : List Nat → En
  | [] => env1
  | v :: vs => (restE env0 env1 vs).set v (env0[v]?.getD none)
theorem restE_length (env0 env1 : En) : ∀ vs : List Nat, (restE env0 env1 vs).length = env1.length
  | [] => rfl
  | v :: vs => by unfold restE; rw [List.length_set, restE_length env0 env1 vs]
theorem restE_some {env0 env1 : En} {j : Nat} {s : Sl} : ∀ {vs : List Nat}, (restE env0 env1 vs)[j]? = some (some s) → (j ∈ vs ∧ env0[j]? = some (some s)) ∨ (j ∉ vs ∧ env1[j]? = some (some s))
  | [], h => .inr ⟨by simp, h⟩
  | v :: vs, h => by
    unfold restE at h
    rcases getElem?_set_some h with ⟨e1, e⟩ | ⟨e, h⟩
    · subst e1
      refine .inl ⟨by simp, ?_⟩
      cases q : env0[j]? with
      | none => rw [q] at e; cases e
      | some x => rw [q] at e; rw [e]; rfl
    · rcases restE_some h with ⟨h1, h2⟩ | ⟨h1, h2⟩
      · exact .inl ⟨by simp [h1], h2⟩
      · exact .inr ⟨by simp [e, h1], h2⟩
theorem restE_out {env0 env1 : En} {j : Nat} : ∀ {vs : List Nat}, j ∉ vs → (restE env0 env1 vs)[j]? = env1[j]?
  | [], _ => rfl
  | v :: vs, h => by
    simp only [List.mem_cons, not_or] at h
    unfold restE
    rw [List.getElem?_set_ne (Ne.symm h.1), restE_out h.2]
def okVs (env : En) (vs : List Nat) : Bool := vs.all fun i => match env[i]? with
  | some (some s) => !s.own
  | _ => true
theorem okVs_not {env : En} {vs : List Nat} {i : Nat} {s : Sl} (h : okVs env vs = true) (hi : i ∈ vs) (he : env[i]? = some (some s)) : s.own = false := by
  have := List.all_eq_true.mp h i hi
  rw [he] at this
  simpa using this
/-- with a list that is being made -/
def Bs.at (B : Bs) (D : Addr) (acc : List V) : Bs := { B with O0 := plus B.O0 D, kp := fun a => if a = D then some (.lst acc) else B.kp a }
theorem Bs.at_O {B : Bs} {D : Addr} {acc : List V} {σ : Sg} {env : En} {a : Addr} : (B.at D acc).O σ env a ↔ plus (B.O σ env) D a := by
  constructor
  · rintro ((h | h) | h)
    · exact .inl (.inl h)
    · exact .inr h
    · exact .inl (.inr h)
  · rintro ((h | h) | h)
    · exact .inl (.inl h)
    · exact .inr h
    · exact .inl (.inr h)
/-- none of the names is one that stays -/
def npFree (np vs : List Nat) : Bool := vs.all fun i => !np.contains i
theorem npFree_not {np vs : List Nat} (h : npFree np vs = true) : ∀ i ∈ vs, i ∉ np := fun i hi hn => by
  have := List.all_eq_true.mp h i hi
  rw [List.contains_iff_mem.mpr hn] at this
  cases this
section
variable {np : List Nat} {B : Bs} {σ : Sg} {H H' : Hp} {env env' : En} {vs : List Nat}
theorem SR.wiped (I : SR K np B σ H env) (hv : okVs env vs = true) (hvn : ∀ i ∈ vs, i ∉ np) : SR K np B (wipe σ vs) H (wipeE env vs) ∧ (∀ i a, ownedAt (wipe σ vs) (wipeE env vs) i a ↔ ownedAt σ env i a) := by
  have ow : ∀ i a, ownedAt (wipe σ vs) (wipeE env vs) i a ↔ ownedAt σ env i a := fun i a => by
    constructor
    · rintro ⟨s, h1, h2, h3⟩
      obtain ⟨n, h1⟩ := wipeE_some h1
      exact ⟨s, h1, h2, (wipe_some h3).1⟩
    · rintro ⟨s, h1, h2, h3⟩
      have n : i ∉ vs := fun z => by rw [okVs_not hv z h1] at h2; cases h2
      exact ⟨s, by rw [wipeE_out n]; exact h1, h2, by rw [wipe_get, if_neg n]; exact h3⟩
  have eO : ∀ a, B.O (wipe σ vs) (wipeE env vs) a ↔ B.O σ env a := fun a => ⟨fun z => z.elim .inl fun ⟨j, q⟩ => .inr ⟨j, (ow j a).1 q⟩, fun z => z.elim .inl fun ⟨j, q⟩ => .inr ⟨j, (ow j a).2 q⟩⟩
  refine ⟨⟨by rw [wipe_length, wipeE_length]; exact I.len, fun i s h => ?_, fun i j a h1 h2 => I.dist i j a ((ow i a).1 h1) ((ow j a).1 h2), I.keep, I.dom, fun i a h => I.new i a ((ow i a).1 h), I.o0, I.kept, fun i a h => I.kpo i a ((ow i a).1 h), fun i a h => I.own0 i a ((ow i a).1 h), fun p hp => let ⟨h1, h2, h3⟩ := I.par p hp; ⟨(ow _ _).2 h1, h2, h3⟩, fun p hp => let ⟨h1, h2⟩ := I.fix p hp; ⟨by rw [wipe_get, if_neg (fun z => hvn _ z h2)]; exact h1, h2⟩⟩, ow⟩
  obtain ⟨n, h⟩ := wipeE_some h
  obtain ⟨v, e, q⟩ := I.slot i s h
  exact ⟨v, by rw [wipe_get, if_neg n]; exact e, q.mv (Mv.less fun a z => (eO a).1 z) (fun a ea ho => (eO a).2 (.inr ⟨i, s, h, ho, ea ▸ e⟩)) fun _ _ _ _ z => z⟩
theorem SR.at (I : SR K np B σ H env) {D : Addr} {xs : List V} (hD : H D = none) : SR K np (B.at D xs) σ (upd H D (.lst xs)) env where
  len := I.len
  slot := fun i s h => by
    obtain ⟨v, e, q⟩ := I.slot i s h
    exact ⟨v, e, (q.mv (Mv.new hD) (fun a ea ho => .inl (.inr ⟨i, s, h, ho, ea ▸ e⟩)) fun a o _ _ z => Ex.new hD a o z).mv (Mv.less fun a z => Bs.at_O.1 z) (fun a ea ho => .inr ⟨i, s, h, ho, ea ▸ e⟩) fun _ _ _ _ z => z⟩
  dist := I.dist
  keep := fun a o h n => Ex.new hD a o (I.keep a o h n)
  dom := fun a h => I.dom a (Ex.dom (Ex.new hD) a h)
  new := I.new
  o0 := fun a h => by
    rcases h with h | h
    · exact ⟨fun z => (I.o0 a h).1 (Ex.dom (Ex.new hD) a z), (I.o0 a h).2⟩
    · subst h
      refine ⟨by rw [upd_same]; simp, fun p hp z => ?_⟩
      obtain ⟨h1, _⟩ := I.par p hp
      obtain ⟨o, h2⟩ := I.odom p.2 (.inr ⟨_, h1⟩)
      rw [z, hD] at h2; cases h2
  kept := fun a o h => by
    have h' : (if a = D then some (.lst xs) else B.kp a) = some o := h
    split at h'
    · rename_i e; subst e; rw [upd_same]; exact h'
    · exact Ex.new hD a o (I.kept a o h')
  kpo := fun i a h => by
    show (if a = D then some (.lst xs) else B.kp a) = none
    rw [if_neg]
    · exact I.kpo i a h
    · rintro rfl
      obtain ⟨o, h2⟩ := I.odom a (.inr ⟨i, h⟩)
      rw [hD] at h2; cases h2
  own0 := fun i a h w => by
    rcases w with w | w
    · exact I.own0 i a h w
    · obtain ⟨o, h2⟩ := I.odom a (.inr ⟨i, h⟩)
      rw [w, hD] at h2; cases h2
  par := I.par
  fix := I.fix
/-- the list that is made grows -/
theorem SR.at_app {D : Addr} {acc acc' : List V} (I : SR K np (B.at D acc) σ H env) (hD0 : B.H0 D = none) : SR K np (B.at D acc') σ (upd H D (.lst acc')) env ∧ Mv ((B.at D acc).O σ env) ((B.at D acc').O σ env) H (upd H D (.lst acc')) := by
  have hD : H D = some (.lst acc) := I.kept D _ (by show (if D = D then _ else _) = _; rw [if_pos rfl])
  have oD : (B.at D acc).O σ env D := .inl (.inr rfl)
  have nD : ∀ i a, ownedAt σ env i a → a ≠ D := fun i a h z => by
    have := I.kpo i a h
    rw [z] at this
    have e : (if D = D then some (HO.lst acc) else B.kp D) = none := this
    rw [if_pos rfl] at e; cases e
  have m : Mv ((B.at D acc).O σ env) ((B.at D acc').O σ env) H (upd H D (.lst acc')) := ⟨fun a o e n => by
      rw [upd_ne (show a ≠ D from fun z => n (z ▸ oD))]; exact e, fun a z => .inl z, fun a e => by
      by_cases z : a = D
      · rw [z, upd_same] at e; cases e
      · rw [upd_ne z] at e; exact e⟩
  refine ⟨⟨I.len, fun i s h => ?_, I.dist, fun a o h n => ?_, fun a e => I.dom a (m.dom a e), I.new, fun a h => ⟨fun z => (I.o0 a h).1 (m.dom a z), (I.o0 a h).2⟩, fun a o h => ?_, fun i a h => ?_, I.own0, I.par, I.fix⟩, m⟩
  · obtain ⟨v, e, q⟩ := I.slot i s h
    exact ⟨v, e, q.mv m (fun a ea ho => .inr ⟨i, s, h, ho, ea ▸ e⟩) fun a o ea ho z => by rw [upd_ne (nD i a ⟨s, h, ho, ea ▸ e⟩)]; exact z⟩
  · by_cases z : a = D
    · subst z
      have h' : B.H0 a = some o := h
      rw [hD0] at h'; cases h'
    · rw [upd_ne z]; exact I.keep a o h n
  · have h' : (if a = D then some (.lst acc') else B.kp a) = some o := h
    split at h'
    · rename_i z; subst z; rw [upd_same]; exact h'
    · rename_i z
      rw [upd_ne z]
      exact I.kept a o (by show (if a = D then _ else _) = _; rw [if_neg z]; exact h')
  · show (if a = D then some (.lst acc') else B.kp a) = none
    rw [if_neg (nD i a h)]
    have : (if a = D then some (HO.lst acc) else B.kp a) = none := I.kpo i a h
    rw [if_neg (nD i a h)] at this
    exact this
end
def R.calm {S α : Type} : R S α → R S α
  | .ok a => .ok a
  | _ => .stuck
theorem R.post_calm {S α β : Type} {p : β → Prop} {q : Exn → S → Prop} {r : R S α} {f : α → R S β} (h : (r.calm.bind f).post p q) : r.post (fun a => (f a).post p q) fun _ _ => False := by
  cases r with
  | stuck => exact h
  | ok a => exact h
  | err x s => exact h
/-- the turns of a comprehension -/
def compF (T : TF) (t : En → R En (Bool × En)) (f : EF) (vs : List Nat) : List D → List D → En → R En (List D × En)
  | [], acc, env => .ok (acc, env)
  | d :: ds, acc, env => (ofO (T d env)).bind fun e1 => (t e1).calm.bind fun b => if b.1 = true then
      (f b.2).calm.bind fun r => if acc.length < sizeLine ∧ okVs r.2 vs = true then compF T t f vs ds (acc ++ [r.1]) (wipeE r.2 vs) else .stuck
      else if okVs b.2 vs = true then compF T t f vs ds acc (wipeE b.2 vs) else .stuck
def fLc (g : En → R En (List D × En)) (T : TF) (t : En → R En (Bool × En)) (f : EF) (vs : List Nat) : EF := fun env => (g env).bind fun p => if okVs p.2 vs = true then
  (compF T t f vs p.1 [] (wipeE p.2 vs)).bind fun q => .ok (.list q.1, restE p.2 q.2 vs) else .stuck
def Z.quiet (z : Z) : Z := { z with W := fun _ _ _ _ => False }
theorem wipe_wipe (σ : Sg) (vs : List Nat) : wipe (wipe σ vs) vs = wipe σ vs := by
  apply List.ext_getElem?
  intro j
  rw [wipe_get, wipe_get]
  split
  · cases σ[j]? <;> rfl
  · rfl
theorem Mv.at_less {B : Bs} {σ σ' : Sg} {H : Hp} {env env' : En} {D : Addr} {acc acc' : List V} (h : ∀ i a, ownedAt σ' env' i a → ownedAt σ env i a) : Mv ((B.at D acc).O σ env) ((B.at D acc').O σ' env') H H :=
  Mv.less fun a z => z.elim .inl fun ⟨i, q⟩ => .inr ⟨i, h i a q⟩
section
variable {X : Cx} {z : Z} {B : Bs} {σ : Sg} {H : Hp} {env : En} {Q : VK}
/-- the end of a comprehension -/
theorem lc_end {Dd : Addr} {H1 Hh : Hp} {e1 ei : En} {vs : List Nat} {acc : List V} {rs : List D} (I : SR K z.np B σ H env) (I1 : SR K z.np B σ H1 e1) (m1 : Mv (B.O σ env) (B.O σ e1) H H1) (hv : okVs e1 vs = true) (hvn : ∀ i ∈ vs, i ∉ z.np) (hD : H1 Dd = none)
    (J : SR K z.np (B.at Dd acc) (wipe σ vs) Hh ei) (a : AtAll K ((B.at Dd acc).O (wipe σ vs) ei) Hh acc rs) (m : Mv (B.O σ e1) ((B.at Dd acc).O (wipe σ vs) ei) H1 Hh) (h : EP1 K z true B σ H env Q (.list rs, restE e1 ei vs)) : Q (.ref Dd) Hh := by
  have hk : Hh Dd = some (.lst acc) := J.kept Dd _ (by show (if Dd = Dd then _ else _) = _; rw [if_pos rfl])
  have nin : ∀ {j : Nat} {s : Sl}, ei[j]? = some (some s) → j ∉ vs := fun {j s} e hj => by
    obtain ⟨v, h1, _⟩ := J.slot j s e
    rw [wipe_get, if_pos hj] at h1
    cases q : σ[j]? with
    | none => rw [q] at h1; cases h1
    | some o => rw [q] at h1; cases h1
  have wo : ∀ {i : Nat} {b : Addr}, ownedAt σ (restE e1 ei vs) i b → ownedAt (wipe σ vs) ei i b := fun {i b} ⟨s, h1, h2, h3⟩ => by
    rcases restE_some h1 with ⟨q1, q2⟩ | ⟨q1, q2⟩
    · rw [okVs_not hv q1 q2] at h2; cases h2
    · exact ⟨s, q2, h2, by rw [wipe_get, if_neg q1]; exact h3⟩
  have ow : ∀ {i : Nat} {b : Addr}, ownedAt (wipe σ vs) ei i b → ownedAt σ (restE e1 ei vs) i b := fun {i b} ⟨s, h1, h2, h3⟩ => by
    have n := nin h1
    exact ⟨s, by rw [restE_out n]; exact h1, h2, (wipe_some h3).1⟩
  have less : ∀ b, B.O σ (restE e1 ei vs) b → (B.at Dd acc).O (wipe σ vs) ei b := fun b z => z.elim (fun z => .inl (.inl z)) fun ⟨i, q⟩ => .inr ⟨i, wo q⟩
  have less' : ∀ b, plus (B.O σ (restE e1 ei vs)) Dd b → (B.at Dd acc).O (wipe σ vs) ei b := fun b z => z.elim (less b) fun z => .inl (.inr z)
  have nOD : ¬ B.O σ (restE e1 ei vs) Dd := fun z => by
    rcases z with z | ⟨i, q⟩
    · exact (I1.o0 Dd z).1 hD
    · have := J.kpo i Dd (wo q)
      have e : (if Dd = Dd then some (HO.lst acc) else B.kp Dd) = none := this
      rw [if_pos rfl] at e; cases e
  have slot' : ∀ (O : Addr → Prop), (∀ b, O b → (B.at Dd acc).O (wipe σ vs) ei b) → (∀ b, (∃ i, ownedAt σ (restE e1 ei vs) i b) → O b) → Clean K O σ Hh (restE e1 ei vs) := fun O h1 h2 i s hs => by
    rcases restE_some hs with ⟨q1, q2⟩ | ⟨q1, q2⟩
    · have hno := okVs_not hv q1 q2
      obtain ⟨v, e, q⟩ := I1.slot i s q2
      cases s with
      | im d => exact ⟨v, e, At.mv (Mv.less h1) (At.mv m q)⟩
      | _ => cases hno
    · obtain ⟨v, e, q⟩ := J.slot i s q2
      have e2 := (wipe_some e).1
      exact ⟨v, e2, q.mv (Mv.less h1) (fun b eb ho => h2 b ⟨i, s, hs, ho, eb ▸ e2⟩) fun _ _ _ _ z => z⟩
  have R : SR K z.np B σ Hh (restE e1 ei vs) := by
    refine ⟨?_, slot' _ less fun b h => .inr h, fun i j b h1 h2 => J.dist i j b (wo h1) (wo h2), J.keep, J.dom, fun i b h => J.new i b (wo h), fun b h => J.o0 b (.inl h), fun b o h => ?_, fun i b h => ?_, fun i b h w => J.own0 i b (wo h) (.inl w), fun p hp => ?_, fun p hp => let ⟨h1, h2⟩ := J.fix p hp; ⟨(wipe_some h1).1, h2⟩⟩
    · rw [restE_length, ← J.len, wipe_length]
    · by_cases e : b = Dd
      · subst e
        have := I1.kept b o h
        rw [hD] at this; cases this
      · exact J.kept b o (by show (if b = Dd then _ else _) = _; rw [if_neg e]; exact h)
    · have q := J.kpo i b (wo h)
      have q : (if b = Dd then some (HO.lst acc) else B.kp b) = none := q
      split at q
      · cases q
      · exact q
    · obtain ⟨h1, h2, h3⟩ := J.par p hp
      exact ⟨ow h1, h2, h3⟩
  have mm : Mv (B.O σ env) (B.O σ (restE e1 ei vs)) H Hh := (m1.trans m).trans (Mv.less less)
  refine h (.ref Dd) Hh R mm (.lst ⟨.inl (.inl hk), fun z => absurd z nOD⟩ (AtAll.mv (Mv.less less) a)) fun _ ds e => ?_
  cases e
  exact ⟨Dd, acc, rfl, m1.dom Dd hD, nOD, hk, AtAll.mv (Mv.less less') a, slot' _ less' fun b h => .inl (.inr h)⟩
theorem lc_core' {J0 : It} {T : TF} {t : En → R En (Bool × En)} {f : EF} {ws vs : List Nat} {fr : Bool} {ds : List D} {H1 : Hp} {e1 : En} {Dd : Addr} (I : SR K z.np B σ H env) (I1 : SR K z.np B σ H1 e1) (m1 : Mv (B.O σ env) (B.O σ e1) H H1) (hJ : ItR K (B.O σ e1) H1 J0 ds)
    (hv : okVs e1 vs = true) (hvn : ∀ i ∈ vs, i ∉ z.np) (hD : H1 Dd = none) (hw : ∀ w ∈ ws, w ∈ vs) (hp : (compF T t f vs ds [] (wipeE e1 vs)).post (fun q => EP1 K z true B σ H env Q (.list q.1, restE e1 q.2 vs)) (XP K z B σ H env)) :
    ∃ W : Nat → Nat → Hp → Prop, (∃ m, W 0 m (upd H1 Dd (.lst []))) ∧ ∀ i m H, W i m H →
      (J0.stop i H ∧ Q (.ref Dd) H) ∨ (J0.go i H ∧ ∃ Nx : Hp → Prop, (∀ H', Nx H' → ∃ m', m' < m ∧ W (i + 1) m' H') ∧ ∀ x H', J0.yld i H x H' → tG K z.quiet ws T x (wipe σ vs) H' fun σ2 H2 => wipe σ2 vs = wipe σ vs ∧ tT K z.quiet t σ2 H2 fun b H3 =>
        if b = true then tE K z.quiet fr f σ2 H3 fun y H4 => ∃ acc, H4 Dd = some (.lst acc) ∧ acc.length < sizeLine ∧ Nx (upd H4 Dd (.lst (acc ++ [y]))) else Nx H3) := by
  obtain ⟨Iw, eow⟩ := I1.wiped hv hvn
  have hD0 : B.H0 Dd = none := I1.dom Dd hD
  have J1 := Iw.at (xs := []) hD
  have m2 : Mv (B.O σ e1) ((B.at Dd []).O (wipe σ vs) (wipeE e1 vs)) H1 (upd H1 Dd (.lst [])) := (Mv.new hD).trans (Mv.less fun a z => by
    rcases Bs.at_O.1 z with z | z
    · exact .inl (z.elim .inl fun ⟨i, q⟩ => .inr ⟨i, (eow i a).1 q⟩)
    · exact .inr z)
  refine ⟨fun i m Hh => ∃ acc rs ei, m = ds.length - i ∧ i ≤ ds.length ∧ SR K z.np (B.at Dd acc) (wipe σ vs) Hh ei ∧ AtAll K ((B.at Dd acc).O (wipe σ vs) ei) Hh acc rs ∧ Mv (B.O σ e1) ((B.at Dd acc).O (wipe σ vs) ei) H1 Hh ∧
    (compF T t f vs (ds.drop i) rs ei).post (fun q => EP1 K z true B σ H env Q (.list q.1, restE e1 q.2 vs)) (XP K z B σ H env), ⟨ds.length, [], [], wipeE e1 vs, by simp, Nat.zero_le _, J1, .nil, m2, hp⟩, ?_⟩
  rintro i m Hh ⟨acc, rs, ei, rfl, hi, J, a, mm, hc⟩
  obtain ⟨g1, g2, g3⟩ := hJ _ Hh mm J.od
  by_cases hlt : i < ds.length
  · refine .inr ⟨g1 i hlt, fun H' => ∃ acc rs ei, SR K z.np (B.at Dd acc) (wipe σ vs) H' ei ∧ AtAll K ((B.at Dd acc).O (wipe σ vs) ei) H' acc rs ∧ Mv (B.O σ e1) ((B.at Dd acc).O (wipe σ vs) ei) H1 H' ∧
      (compF T t f vs (ds.drop (i + 1)) rs ei).post (fun q => EP1 K z true B σ H env Q (.list q.1, restE e1 q.2 vs)) (XP K z B σ H env), fun H' ⟨acc, rs, ei, q⟩ => ⟨ds.length - (i + 1), by omega, acc, rs, ei, rfl, hlt, q⟩, fun x H' y => ?_⟩
    have hd : ds[i]? = some ds[i] := List.getElem?_eq_getElem hlt
    obtain ⟨ex, ax⟩ := g3 i x H' _ hd y
    rw [List.drop_eq_getElem_cons hlt] at hc
    unfold compF at hc
    obtain ⟨e2, hT, hc⟩ := ofO_post (R.post_bind hc)
    refine ⟨B.at Dd acc, ei, ds[i], e2, J.ex ex, ax, hT, fun σ2 J2 mt wt => ⟨(wt vs hw).trans (wipe_wipe σ vs), ?_⟩⟩
    have ew : wipe σ2 vs = wipe σ vs := (wt vs hw).trans (wipe_wipe σ vs)
    refine ⟨B.at Dd acc, e2, J2, (R.post_calm hc).imp (fun b hb H3 J3 m3 => ?_) fun _ _ q => q.elim⟩
    obtain ⟨b, e3⟩ := b
    cases b with
    | true =>
      rw [if_pos rfl]
      simp only [if_true] at hb
      refine ⟨B.at Dd acc, e3, J3, (R.post_calm hb).imp (fun r hr v H4 J4 m4 a4 _ => ?_) fun _ _ q => q.elim⟩
      split at hr
      · rename_i hcond
        obtain ⟨J5, m5⟩ := J4.at_app (acc' := acc ++ [v]) hD0
        obtain ⟨J6, ow6⟩ := J5.wiped hcond.2 hvn
        rw [ew] at J6 ow6
        have m6 : Mv ((B.at Dd (acc ++ [v])).O σ2 r.2) ((B.at Dd (acc ++ [v])).O (wipe σ vs) (wipeE r.2 vs)) (upd H4 Dd (.lst (acc ++ [v]))) (upd H4 Dd (.lst (acc ++ [v]))) := Mv.at_less fun i a q => (ow6 i a).1 q
        have mall : Mv ((B.at Dd acc).O (wipe σ vs) ei) ((B.at Dd (acc ++ [v])).O (wipe σ vs) (wipeE r.2 vs)) Hh (upd H4 Dd (.lst (acc ++ [v]))) := (((((Mv.ex ex).trans mt).trans m3).trans m4).trans m5).trans m6
        have hlen : acc.length = rs.length := a.length
        exact ⟨acc, J4.kept Dd _ (by show (if Dd = Dd then _ else _) = _; rw [if_pos rfl]), by rw [hlen]; exact hcond.1, acc ++ [v], rs ++ [r.1], _, J6, (AtAll.mv mall a).append (.cons (At.mv (m5.trans m6) a4) .nil), mm.trans mall, hr⟩
      · exact hr.elim
    | false =>
      rw [if_neg Bool.false_ne_true]
      simp only [Bool.false_eq_true, if_false] at hb
      split at hb
      · rename_i hcond
        obtain ⟨J6, ow6⟩ := J3.wiped hcond hvn
        rw [ew] at J6 ow6
        have m6 : Mv ((B.at Dd acc).O σ2 e3) ((B.at Dd acc).O (wipe σ vs) (wipeE e3 vs)) H3 H3 := Mv.at_less fun i a q => (ow6 i a).1 q
        have mall : Mv ((B.at Dd acc).O (wipe σ vs) ei) ((B.at Dd acc).O (wipe σ vs) (wipeE e3 vs)) Hh H3 := (((Mv.ex ex).trans mt).trans m3).trans m6
        exact ⟨acc, rs, _, J6, AtAll.mv mall a, mm.trans mall, hb⟩
      · exact hb.elim
  · have e : i = ds.length := by omega
    subst e
    rw [List.drop_length] at hc
    unfold compF at hc
    exact .inl ⟨g2, lc_end I I1 m1 hv hvn hD J a mm hc⟩
theorem de_lc {elt tg iter : Expr} {ifs : List Expr} {scope : Scope} {own : List (Str × Nat)} {pos : Pos} {gw : En → R En (List D × En)} {T : TF} {t : En → R En (Bool × En)} {f : EF} {ws : List Nat} {fr : Bool} (hc : X.calm = true) (hN : X.N.Nodup) (hi : DI z X tg iter gw) (ok : BlkOk X.N X.env.scope scope own)
    (hg : ∀ (s : Shared) (H : Hp) (C : Addr) (cl : List (Str × Addr)) (fp : List Addr), PG (X.blk s H scope (compEnvC scope cl C X.env) fp) tg (tG X.K z.quiet ws T)) (ht : ∀ (s : Shared) (H : Hp) (C : Addr) (cl : List (Str × Addr)) (fp : List Addr), PTs (X.blk s H scope (compEnvC scope cl C X.env) fp) ifs (tT X.K z.quiet t))
    (he : ∀ (s : Shared) (H : Hp) (C : Addr) (cl : List (Str × Addr)) (fp : List Addr), PE (X.blk s H scope (compEnvC scope cl C X.env) fp) elt (tE X.K z.quiet fr f)) (hw : ∀ w ∈ ws, w ∈ own.map (·.2)) (hs : ∀ x, foldedSetIterable iter X.env x = pure x := by intro _; rfl) (hvn : npFree z.np (own.map (·.2)) = true := by rfl) :
    DE z X true (.ListComp elt [⟨tg, iter, ifs, 0⟩] scope pos) (fLc gw T t f (own.map (·.2))) := by
  refine de_imp (pe_lc hc hN hi ok hg ht he hs) fun B env σ H Q I hp => ?_
  refine ⟨B, env, I, (R.post_bind hp).imp (fun p hp J H1 I1 m1 hJ D hD => ?_) fun _ _ q => q⟩
  split at hp
  · rename_i hv
    exact lc_core' I I1 m1 hJ hv (npFree_not hvn) hD hw (R.post_bind hp)
  · exact hp.elim
end
end DL
namespace DL
open PySem PySem.Spec PyProof.Rows L2
variable {K : PySem.W.Frag}
inductive Out where
  | nx (e : En)
  | rt (d : D) (e : En)
  | bk (e : En)
  | ct (e : En)
abbrev SF := En → R En Out
def Bs.Op (B : Bs) : Addr → Prop := fun a => B.O0 a ∨ ∃ p ∈ B.ps, p.2 = a
def RetOk (K : PySem.W.Frag) (fr : Bool) (B : Bs) (e : En) (v : V) (H' : Hp) (d : D) : Prop := At K B.Op H' v d ∧ (fr = true → ∀ ds, d = .list ds →
  ∃ (a : Addr) (xs : List V), v = .ref a ∧ B.H0 a = none ∧ ¬ B.Op a ∧ H' a = some (.lst xs) ∧ AtAll K (plus B.Op a) H' xs ds ∧ ∀ p ∈ B.ps, ∃ s, e[p.1]? = some (some s) ∧ s.own = true ∧ SlotR K (plus B.Op a) H' (.ref p.2) s)
def SOk (K : PySem.W.Frag) (z : Z) (fr : Bool) (B : Bs) (σ : Sg) (H : Hp) (env : En) (Dd : Ends) : Out → Prop
  | .nx e => ∀ σ' H', SR K z.np B σ' H' e → Mv (B.O σ env) (B.O σ' e) H H' → Dd.nx σ' H'
  | .bk e => ∀ σ' H', SR K z.np B σ' H' e → Mv (B.O σ env) (B.O σ' e) H H' → Dd.bk σ' H'
  | .ct e => ∀ σ' H', SR K z.np B σ' H' e → Mv (B.O σ env) (B.O σ' e) H H' → Dd.ct σ' H'
  | .rt d e => ∀ v σ' H', SR K z.np B σ' H' e → Mv (B.O σ env) (B.O σ' e) H H' → RetOk K fr B e v H' d → z.rt B.H0 B.Op v H' d → Dd.rt v H'
/-- nothing is told of what is handed back -/
def RtAny (z : Z) : Prop := ∀ H O v H' d, z.rt H O v H' d
def XS (K : PySem.W.Frag) (z : Z) (B : Bs) (σ : Sg) (H : Hp) (env : En) (x : Exn) (e : En) : Prop :=
  ∀ (cls : Value) (dp : Option Addr) (σ' : Sg) (H' : Hp), SR K z.np B σ' H' e → Mv (B.O σ env) (B.O σ' e) H H' → ExnAt K (B.O σ' e) H' z.ca x cls dp → z.W cls dp σ' H'
theorem XS.xp {z : Z} {B : Bs} {σ : Sg} {H : Hp} {env : En} {x : Exn} {e : En} (h : XS K z B σ H env x e) : XP K z B σ H env x e := fun cls dp H' I m a => h cls dp σ H' I m a
def tS (K : PySem.W.Frag) (z : Z) (fr : Bool) (g : SF) : TS := fun Dd σ H => ∃ (B : Bs) (env : En), SR K z.np B σ H env ∧ (g env).post (SOk K z fr B σ H env Dd) (XS K z B σ H env)
abbrev DS (z : Z) (X : Cx) (fr : Bool) (st : Stmt) (g : SF) : Prop := PS X st (tS X.K z fr g)
abbrev DSs (z : Z) (X : Cx) (fr : Bool) (sts : List Stmt) (g : SF) : Prop := PSs X sts (tS X.K z fr g)
section
variable {X : Cx} {z : Z} {fr : Bool} {st : Stmt} {sts : List Stmt} {e : Expr}
theorem ps_weak {t t' : TS} (h : PS X st t) (i : ∀ D σ H, t' D σ H → t D σ H) : PS X st t' := ⟨fun pins s σ H D I q => h.run pins s σ H D I (i D σ H q)⟩
theorem pss_weak {t t' : TS} (h : PSs X sts t) (i : ∀ D σ H, t' D σ H → t D σ H) : PSs X sts t' := ⟨fun pins s σ H D I q => h.run pins s σ H D I (i D σ H q)⟩
theorem ds_imp {g : SF} {t : TS} (h : PS X st t) (i : ∀ (B : Bs) (env : En) (σ : Sg) (H : Hp) (Dd : Ends), SR X.K z.np B σ H env → (g env).post (SOk X.K z fr B σ H env Dd) (XS X.K z B σ H env) → t Dd σ H) : DS z X fr st g :=
  ps_weak h fun Dd σ H ⟨B, env, I, p⟩ => i B env σ H Dd I p
theorem SOk.step {B : Bs} {σ σ1 : Sg} {H H1 : Hp} {env e1 : En} {Dd : Ends} {o : Out} (m : Mv (B.O σ env) (B.O σ1 e1) H H1) (h : SOk K z fr B σ H env Dd o) : SOk K z fr B σ1 H1 e1 Dd o := by
  cases o with
  | nx e => exact fun σ' H' I m' => h σ' H' I (m.trans m')
  | bk e => exact fun σ' H' I m' => h σ' H' I (m.trans m')
  | ct e => exact fun σ' H' I m' => h σ' H' I (m.trans m')
  | rt d e => exact fun v σ' H' I m' => h v σ' H' I (m.trans m')
theorem XS.step {B : Bs} {σ σ1 : Sg} {H H1 : Hp} {env e1 : En} {x : Exn} {e : En} (m : Mv (B.O σ env) (B.O σ1 e1) H H1) (h : XS K z B σ H env x e) : XS K z B σ1 H1 e1 x e := fun cls dp σ' H' I m' => h cls dp σ' H' I (m.trans m')
def sNil : SF := fun env => .ok (.nx env)
def sSeq (g h : SF) : SF := fun env => (g env).bind fun o => match o with
  | .nx e => h e
  | o => .ok o
theorem dss_nil : DSs z X fr [] sNil := pss_weak pss_nil fun Dd σ H ⟨B, env, I, p⟩ => p σ H I .refl
theorem dss_one {g : SF} (h : DS z X fr st g) : DSs z X fr [st] g := pss_one h
theorem dss_cons {g h : SF} (h1 : DS z X fr st g) (h2 : DSs z X fr sts h) : DSs z X fr (st :: sts) (sSeq g h) := pss_weak (pss_cons h1 h2) fun Dd σ H ⟨B, env, I, p⟩ =>
  ⟨B, env, I, (R.post_bind p).imp (fun o ho => by
    cases o with
    | nx e => exact fun σ' H' I' m' => ⟨B, e, I', R.post.imp ho (fun o q => q.step m') fun x e q => q.step m'⟩
    | bk e => exact ho
    | ct e => exact ho
    | rt d e => exact ho) fun _ _ q => q⟩
def sExpr (f : EF) : SF := fun env => (f env).bind fun p => .ok (.nx p.2)
theorem ds_expr {fe : Bool} {f : EF} {pos : Pos} (he : DE z X fe e f) (hs : swapsWith e none pos.line X.env = pure false := by rfl) : DS z X fr (.Expr e pos) (sExpr f) :=
  ds_imp (ps_expr he hs) fun B env σ H Dd I p => ⟨B, env, I, (R.post_bind p).imp (fun p hp v H1 I1 m1 _ _ => hp σ H1 I1 m1) fun _ _ q => q.xp⟩
theorem SR.op {np : List Nat} {B : Bs} {σ : Sg} {H : Hp} {env : En} (I : SR K np B σ H env) : ∀ a, B.Op a → B.O σ env a := fun a z => z.elim .inl fun ⟨p, hp, e⟩ => .inr ⟨p.1, e ▸ (I.par p hp).1⟩
theorem SR.parSlot {np : List Nat} {B : Bs} {σ : Sg} {H : Hp} {env : En} {O : Addr → Prop} (I : SR K np B σ H env) (c : Clean K O σ H env) (p : Nat × Addr) (hp : p ∈ B.ps) : ∃ s, env[p.1]? = some (some s) ∧ s.own = true ∧ SlotR K O H (.ref p.2) s := by
  obtain ⟨⟨s, h1, h2, h3⟩, _⟩ := I.par p hp
  obtain ⟨v, e, q⟩ := c p.1 s h1
  rw [h3] at e; cases e
  exact ⟨s, h1, h2, q⟩
theorem RetOk.of {B : Bs} {σ : Sg} {H H' : Hp} {env e' : En} {v : V} {d : D} {np : List Nat} (I : SR K np B σ H env) (I' : SR K np B σ H' e') (a : At K (B.O σ e') H' v d) (f : fr = true → FRes K (B.O σ e') σ e' H H' v d) : RetOk K fr B e' v H' d := by
  refine ⟨At.mv (Mv.less I'.op) a, fun hf ds e => ?_⟩
  obtain ⟨b, xs, e1, na, nO, hb, q, c⟩ := f hf ds e
  have less : ∀ x, plus B.Op b x → plus (B.O σ e') b x := fun x z => z.elim (fun z => .inl (I'.op x z)) .inr
  refine ⟨b, xs, e1, I.dom b na, fun z => nO (I'.op b z), hb, AtAll.mv (Mv.less less) q, fun p hp => ?_⟩
  obtain ⟨s, h1, h2, h3⟩ := I'.parSlot c p hp
  exact ⟨s, h1, h2, h3.mv (Mv.less less) (fun x ex _ => by cases ex; exact .inl (.inr ⟨p, hp, rfl⟩)) fun _ _ _ _ z => z⟩
def sRet (f : EF) : SF := fun env => (f env).bind fun p => .ok (.rt p.1 p.2)
theorem ds_ret {f : EF} {pos : Pos} (he : DE z X fr e f) (hrt : RtAny z := by exact fun _ _ _ _ _ => trivial) : DS z X fr (.Return (some e) pos) (sRet f) :=
  ds_imp (ps_ret he) fun B env σ H Dd I p => ⟨B, env, I, (R.post_bind p).imp (fun p hp v H1 I1 m1 a f => hp v σ H1 I1 m1 (.of I I1 a f) (hrt _ _ _ _ _)) fun _ _ q => q.xp⟩
def sRetN : SF := fun env => .ok (.rt .none env)
/-- an own list is handed back -/
def sRetO (i : Nat) : SF := fun env => match env[i]? with
  | some (some (.ow ds)) => .ok (.rt (.list ds) env)
  | _ => .stuck
theorem ds_retO {i : Nat} {pos : Pos} (h : PE X e (tVar i)) (hi : i ∉ z.np) (hrt : RtAny z := by exact fun _ _ _ _ _ => trivial) : DS z X fr (.Return (some e) pos) (sRetO i) := ds_imp (ps_ret h) fun B env σ H Dd I p => by
  unfold sRetO at p
  split at p
  · rename_i ds he
    obtain ⟨a, xs, e1, hO, hH, r⟩ := I.ow he
    have oi : ownedAt σ env i a := ⟨_, he, rfl, e1⟩
    have nps : ∀ p ∈ B.ps, p.2 ≠ a := fun p hp q => by
      obtain ⟨h1, _, h3⟩ := I.par p hp
      rw [q] at h1
      exact hi (I.dist _ _ a h1 oi ▸ h3)
    have nOp : ¬ B.Op a := fun w => w.elim (I.own0 i a oi) fun ⟨p, hp, q⟩ => nps p hp q
    have less : ∀ x, plus B.Op a x → B.O σ env x := fun x w => w.elim (I.op x) fun w => w ▸ .inr ⟨i, oi⟩
    refine ⟨_, e1, p (.ref a) σ H I .refl ⟨.lst ⟨.inl (.inl hH), fun w => absurd w nOp⟩ (AtAll.mv (Mv.less I.op) r), fun _ ds' e => ?_⟩ (hrt _ _ _ _ _)⟩
    cases e
    refine ⟨a, xs, rfl, ?_, nOp, hH, AtAll.mv (Mv.less less) r, fun p hp => ?_⟩
    · rcases I.new i a oi with q | q
      · exact absurd rfl (nps _ q)
      · exact q
    · obtain ⟨s, h1, h2, h3⟩ := I.parSlot I.slot p hp
      exact ⟨s, h1, h2, h3.mv (Mv.less less) (fun x ex _ => by cases ex; exact .inl (.inr ⟨p, hp, rfl⟩)) fun _ _ _ _ z => z⟩
  · exact p.elim
def sIf (t : En → R En (Bool × En)) (g h : SF) : SF := fun env => (t env).bind fun b => if b.1 = true then g b.2 else h b.2
theorem ds_if {c : Expr} {a b : List Stmt} {pos : Pos} {t : En → R En (Bool × En)} {g h : SF} (hc : DT z X c t) (ha : DSs z X fr a g) (hb : DSs z X fr b h) : DS z X fr (.If c a b pos) (sIf t g h) :=
  ds_imp (ps_if hc ha hb) fun B env σ H Dd I p => ⟨B, env, I, (R.post_bind p).imp (fun b hp H1 I1 m1 => by
    obtain ⟨c, e⟩ := b
    cases c with
    | true => exact ⟨B, e, I1, R.post.imp hp (fun o q => q.step m1) fun x e q => q.step m1⟩
    | false => exact ⟨B, e, I1, R.post.imp hp (fun o q => q.step m1) fun x e q => q.step m1⟩) fun _ _ q => q.xp⟩
/-- a target -/
def sAsg (f : EF) (T : TF) : SF := fun env => (f env).bind fun p => (ofO (T p.1 p.2)).bind fun e => .ok (.nx e)
theorem ds_asg {fe : Bool} {f : EF} {tg : Expr} {ws : List Nat} {T : TF} {pos : Pos} (he : DE z X fe e f) (hg : DG z X tg ws T) (hs : swapsWithSole [tg] e pos.line X.env = pure false := by rfl) (hw : swappedStores [tg] e X.env = pure none := by rfl) (h1 : (assignEach [tg] X.env).map (·.2) = [assign tg X.env] := by rfl) : DS z X fr (.Assign [tg] e pos) (sAsg f T) :=
  ds_imp (ps_asg he hg hs hw h1) fun B env σ H Dd I p => ⟨B, env, I, (R.post_bind p).imp (fun p hp v H1 I1 m1 a _ => by
    obtain ⟨e', h1, h2⟩ := ofO_post (R.post_bind hp)
    exact ⟨B, p.2, p.1, e', I1, a, h1, fun σ' I' m' _ => h2 σ' H1 I' (m1.trans m')⟩) fun _ _ q => q.xp⟩
/-- name = data -/
def sSet (i : Nat) (f : EF) : SF := fun env => (f env).bind fun p => .ok (.nx (p.2.set i (some (.im p.1))))
theorem sem_set {i : Nat} {f : EF} {B : Bs} {env : En} {σ : Sg} {H : Hp} {Dd : Ends} (hi : i ∉ z.np) (p : (sSet i f env).post (SOk K z fr B σ H env Dd) (XS K z B σ H env)) : (f env).post (EP1 K z false B σ H env fun v H1 => Dd.nx (σ.set i (some v)) H1) (XP K z B σ H env) :=
  (R.post_bind p).imp (fun p hp v H1 I1 m1 a _ => let ⟨I', m'⟩ := I1.setIm hi a; hp _ H1 I' (m1.trans m')) fun _ _ q => q.xp
theorem ds_set {i : Nat} {x : Str} {fe : Bool} {f : EF} {pos pos' : Pos} (hN : X.N.Nodup) (hn : X.N[i]? = some x) (hx : Loc X.env.scope x) (he : DE z X fe e f) (hi : i ∉ z.np) (hs : swapsWith e (some (.Name x pos')) pos.line X.env = pure false := by rfl)
    (hf : X.fn x = true ∨ X.env.scope.names.lookup x = some .local := by first | exact .inl rfl | exact .inr rfl | assumption) : DS z X fr (.Assign [.Name x pos'] e pos) (sSet i f) :=
  ds_imp (ps_set hN hn hx (de_sh he) hs hf) fun B env σ H Dd I p => ⟨B, env, I, sem_set hi p⟩
/-- name = a new list, the name's own -/
def sSetO (i : Nat) (f : EF) : SF := fun env => (f env).bind fun p => match p.1 with
  | .list ds => .ok (.nx (p.2.set i (some (.ow ds))))
  | _ => .stuck
theorem sem_setO {i : Nat} {f : EF} {B : Bs} {env : En} {σ : Sg} {H : Hp} {Dd : Ends} (I : SR K z.np B σ H env) (hi : i ∉ z.np) (p : (sSetO i f env).post (SOk K z fr B σ H env Dd) (XS K z B σ H env)) : (f env).post (EP1 K z true B σ H env fun v H1 => Dd.nx (σ.set i (some v)) H1) (XP K z B σ H env) :=
  (R.post_bind p).imp (fun p hp v H1 I1 m1 a f1 => by
    obtain ⟨d, e1⟩ := p
    cases d with
    | list ds =>
      obtain ⟨I', b, rfl, nb, sub⟩ := I1.setOw (Hs := H) hi I.dom (fun a h => by
        cases q : B.kp a with
        | none => rfl
        | some o => rw [I.kept a o q] at h; cases h) (f1 rfl)
      exact hp _ H1 I' ⟨m1.keep, fun x w => (sub x w).elim (m1.own x) fun w => .inr (w ▸ nb), m1.dom⟩
    | _ => exact hp.elim) fun _ _ q => q.xp
theorem ds_setO {i : Nat} {x : Str} {f : EF} {pos pos' : Pos} (hN : X.N.Nodup) (hn : X.N[i]? = some x) (hx : Loc X.env.scope x) (he : DE z X true e f) (hi : i ∉ z.np) (hs : swapsWith e (some (.Name x pos')) pos.line X.env = pure false := by rfl)
    (hf : X.fn x = true ∨ X.env.scope.names.lookup x = some .local := by first | exact .inl rfl | exact .inr rfl | assumption) : DS z X fr (.Assign [.Name x pos'] e pos) (sSetO i f) :=
  ds_imp (ps_set hN hn hx he hs hf) fun B env σ H Dd I p => ⟨B, env, I, sem_setO I hi p⟩
/-- an own list is nobody's own any more -/
def sFrz (i : Nat) (h : SF) : SF := fun env => match env[i]? with
  | some (some (.ow ds)) => h (env.set i (some (.im (.list ds))))
  | _ => .stuck
theorem SR.freeze {np : List Nat} {B : Bs} {σ : Sg} {H : Hp} {env : En} {i : Nat} {ds : List D} (I : SR K np B σ H env) (hi : i ∉ np) (he : env[i]? = some (some (.ow ds))) : SR K np B σ H (env.set i (some (.im (.list ds)))) ∧ Mv (B.O σ env) (B.O σ (env.set i (some (.im (.list ds))))) H H := by
  obtain ⟨a, xs, e1, hO, hH, r⟩ := I.ow he
  have oi : ownedAt σ env i a := ⟨_, he, rfl, e1⟩
  have ow : ∀ j b, ownedAt σ (env.set i (some (.im (.list ds)))) j b → j ≠ i ∧ ownedAt σ env j b := fun j b ⟨s, h1, h2, h3⟩ => by
    rcases getElem?_set_some h1 with ⟨e, e2⟩ | ⟨e, h1⟩
    · cases e2; cases h2
    · exact ⟨e, s, h1, h2, h3⟩
  have wo : ∀ j b, j ≠ i → ownedAt σ env j b → ownedAt σ (env.set i (some (.im (.list ds)))) j b := fun j b n ⟨s, h1, h2, h3⟩ => ⟨s, by rw [List.getElem?_set_ne (Ne.symm n)]; exact h1, h2, h3⟩
  have m : Mv (B.O σ env) (B.O σ (env.set i (some (.im (.list ds))))) H H := Mv.less fun a z => z.elim .inl fun ⟨j, q⟩ => .inr ⟨j, (ow j a q).2⟩
  have nO : ¬ B.O σ (env.set i (some (.im (.list ds)))) a := fun w => w.elim (I.own0 i a oi) fun ⟨j, q⟩ => (ow j a q).1 (I.dist j i a (ow j a q).2 oi)
  refine ⟨⟨by simpa using I.len, fun j s hs => ?_, fun j k a h1 h2 => I.dist j k a (ow j a h1).2 (ow k a h2).2, I.keep, I.dom, fun j a h => I.new j a (ow j a h).2, I.o0, I.kept, fun j a h => I.kpo j a (ow j a h).2, fun j a h => I.own0 j a (ow j a h).2, fun p hp => ?_, I.fix⟩, m⟩
  · rcases getElem?_set_some hs with ⟨e, e2⟩ | ⟨e, h1⟩
    · cases e2
      subst e
      exact ⟨.ref a, e1, .lst ⟨.inl (.inl hH), fun w => absurd w nO⟩ (AtAll.mv m r)⟩
    · obtain ⟨u, e1, q⟩ := I.slot j s h1
      exact ⟨u, e1, q.mv m (fun a ea ho => .inr ⟨j, wo j a e ⟨s, h1, ho, ea ▸ e1⟩⟩) fun _ _ _ _ z => z⟩
  · obtain ⟨h1, h2, h3⟩ := I.par p hp
    exact ⟨wo _ _ (fun z => hi (z ▸ h3)) h1, h2, h3⟩
theorem dss_frz {i : Nat} {h : SF} (hh : DSs z X fr sts h) (hi : i ∉ z.np) : DSs z X fr sts (sFrz i h) := pss_weak hh fun Dd σ H ⟨B, env, I, p⟩ => by
  unfold sFrz at p
  split at p
  · rename_i ds he
    obtain ⟨I', m⟩ := I.freeze hi he
    exact ⟨B, _, I', R.post.imp p (fun o q => q.step m) fun x e q => q.step m⟩
  · exact p.elim
/-- found.append(e) -/
def sApp (i : Nat) (f : EF) : SF := fun env => match env[i]? with
  | some (some (.ow _)) => (f env).bind fun p => match p.2[i]? with
    | some (some (.ow ds)) => if ds.length < sizeLine then .ok (.nx (p.2.set i (some (.ow (ds ++ [p.1]))))) else .stuck
    | _ => .stuck
  | _ => .stuck
theorem ds_app {i : Nat} {o a : Expr} {f : EF} {fe : Bool} {apos cpos pos : Pos} (ho : PE X o (tVar i)) (ha : DE z X fe a f) (hbase : attributeBase o "append" X.env (eval o X.env) = eval o X.env := by rfl)
    (hfew : ((backTo cpos (starEach [a] X.env)).all (fun x => !x.1) && (backToKw cpos (keywordEach [] X.env)).all (fun x => x.1.isSome) && decide ([a].length + ([] : List Keyword).length + (if ([] : List Keyword).isEmpty then 0 else 1) < 30)) = true := by rfl)
    (hline : (apos.endLine == cpos.line) = true := by rfl) (hs : starEach [a] X.env = (false, eval a X.env) :: starEach [] X.env := by rfl) (hplain : (backTo cpos (starEach [] X.env)).any (·.1) = false := by rfl)
    (hsw : swapsWith (.Call (.Attribute o "append" apos) [a] [] cpos) none pos.line X.env = pure false := by rfl) : DS z X fr (.Expr (.Call (.Attribute o "append" apos) [a] [] cpos) pos) (sApp i f) := by
  refine ds_imp (ps_expr (pe_bm PySem.F.plainAttrs_list PySem.F.slot_list_append PySem.F.type_list_append mt_append ho (pa_cons ha pa_nil hs) hbase hfew hline hs hplain) hsw) fun B env σ H Dd I p => ?_
  unfold sApp at p
  split at p
  · rename_i ds0 he
    obtain ⟨a0, xs0, e1, _, hH0, _⟩ := I.ow he
    refine ⟨_, e1, .inl ⟨rfl, _, SqL.of hH0⟩, B, env, I, (R.post_bind p).imp (fun p hp v H1 I1 m1 a1 _ => ?_) fun _ _ q => q.xp⟩
    split at hp
    · rename_i ds he1
      split at hp
      · rename_i hl
        obtain ⟨a, xs, e2, hO, hH, r⟩ := I1.ow he1
        rw [e1] at e2
        cases e2
        have m2 : Mv (B.O σ p.2) (B.O σ p.2) H1 (upd H1 a0 (.lst (xs ++ [v]))) := ⟨fun b u e n => by
          rw [upd_ne (show b ≠ a0 from fun q => n (q ▸ hO))]; exact e, fun _ w => .inl w, fun b e => by
          by_cases q : b = a0
          · rw [q, upd_same] at e; cases e
          · rw [upd_ne q] at e; exact e⟩
        obtain ⟨I', m'⟩ := I1.write (i := i) (a := a0) (s := .ow ds) (s' := .ow (ds ++ [p.1])) (o := .lst (xs ++ [v])) he1 rfl rfl e1 ⟨a0, _, rfl, hO, upd_same, (AtAll.mv m2 r).append (.cons (At.mv m2 a1) .nil)⟩
        exact ⟨a0, xs, v, rfl, rfl, hH, by rw [r.length]; exact hl, hp σ _ I' (m1.trans m')⟩
      · exact hp.elim
    · exact hp.elim
  · exact p.elim
theorem Mv.wr {O : Addr → Prop} {H : Hp} {a : Addr} {o : HO} (h : O a) : Mv O O H (upd H a o) := ⟨fun b u e n => by
  rw [upd_ne (show b ≠ a from fun q => n (q ▸ h))]; exact e, fun _ w => .inl w, fun b e => by
  by_cases q : b = a
  · rw [q, upd_same] at e; cases e
  · rw [upd_ne q] at e; exact e⟩
/-- found[i] = e -/
def sSto (i : Nat) (g f : EF) : SF := fun env => (f env).bind fun p => match p.2[i]? with
  | some (some (.ow _)) => (g p.2).bind fun q => match q.2[i]?, q.1 with
    | some (some (.ow ds)), .int k => match ixN ds.length k with
      | some j => .ok (.nx (q.2.set i (some (.ow (ds.set j p.1)))))
      | none => .stuck
    | _, _ => .stuck
  | _ => .stuck
theorem ds_sto {i : Nat} {o ix a : Expr} {g f : EF} {fe fg : Bool} {tpos pos : Pos} (ho : PE X o (tVar i)) (hg : DE z X fg ix g) (ha : DE z X fe a f) (hpg : PG X (.Subscript o ix tpos) (gSub (tVar i) (tE X.K z fg g) rSetL))
    (hs : swapsWithSole [.Subscript o ix tpos] a pos.line X.env = pure false := by rfl) (hw : swappedStores [.Subscript o ix tpos] a X.env = pure none := by rfl) (h1 : (assignEach [.Subscript o ix tpos] X.env).map (·.2) = [assign (.Subscript o ix tpos) X.env] := by rfl) : DS z X fr (.Assign [.Subscript o ix tpos] a pos) (sSto i g f) := by
  refine ds_imp (ps_asg ha hpg hs hw h1) fun B env σ H Dd I p => ⟨B, env, I, (R.post_bind p).imp (fun p hp v H1 I1 m1 a1 fx  => ?_) fun _ _ q => q.xp⟩
  split at hp
  · rename_i ds0 he
    obtain ⟨a0, xs0, e1, _, hH0, _⟩ := I1.ow he
    refine ⟨_, e1, B, p.2, I1, (R.post_bind hp).imp (fun q hq u H2 I2 m2 a2 fx  => ?_) fun _ _ q => q.xp.step m1⟩
    obtain ⟨d, e'⟩ := q
    dsimp only at hq
    split at hq
    · rename_i ds k he1
      split at hq
      · rename_i j hj
        cases a2
        obtain ⟨a, xs, e2, hO, hH, r⟩ := I2.ow he1
        rw [e1] at e2
        cases e2
        obtain ⟨I', m'⟩ := I2.write (i := i) (a := a0) (s := .ow ds) (s' := .ow (ds.set j p.1)) (o := .lst (xs.set j v)) he1 rfl rfl e1 ⟨a0, _, rfl, hO, upd_same, AtAll.set (At.mv (Mv.wr hO) (At.mv m2 a1)) j (AtAll.mv (Mv.wr hO) r)⟩
        exact ⟨a0, xs, k, j, rfl, rfl, hH, by rw [r.length]; exact hj, hq σ _ I' ((m1.trans m2).trans m')⟩
      · exact hq.elim
    · exact hq.elim
  · exact hp.elim
/-- found[i] op= e -/
def rGetL (K : PySem.W.Frag) : V → V → Hp → VK → Prop := fun x y H Q => ∃ p xs k v, x = .ref p ∧ y = .int k ∧ 0 ≤ k ∧ SqL K H p xs ∧ xs[k.toNat]? = some v ∧ Q v H
theorem pget_list : PGet X (rGetL X.K) := by
  intro pins s σ H o i ov iv Q I ro ri h
  obtain ⟨p, xs, k, v, rfl, rfl, h0, hq, hx, q⟩ := h
  cases ro
  obtain ⟨t, rfl⟩ := ri
  obtain ⟨its, r, pl, hz⟩ := I.list hq
  obtain ⟨w, ew, rw'⟩ := r.get hx
  have hl : k.toNat < xs.length := (List.getElem?_eq_some_iff.mp hx).1
  have hn := line63
  exact wpAny_getItem_list pl.isList h0 (by omega) (by simpa using ew) ⟨v, H, I, rw', q⟩
def sAugS (i : Nat) (op : Int → Int → Int) (g f : EF) : SF := fun env => match env[i]? with
  | some (some (.ow _)) => (g env).bind fun q => match q.2[i]?, q.1 with
    | some (some (.ow ds)), .int k => if 0 ≤ k then match ds[k.toNat]? with
      | some (.int x) => (f q.2).bind fun p => match p.2[i]?, p.1 with
        | some (some (.ow es)), .int y => if k.toNat < es.length then .ok (.nx (p.2.set i (some (.ow (es.set k.toNat (.int (op x y))))))) else .stuck
        | _, _ => .stuck
      | _ => .stuck
      else .stuck
    | _, _ => .stuck
  | _ => .stuck
theorem ixN_nn {n : Nat} {k : Int} (h0 : 0 ≤ k) (h : k.toNat < n) : ixN n k = some k.toNat := by
  unfold ixN
  rw [if_pos h0, if_pos (by omega)]
theorem ds_augS {i : Nat} {o ix a : Expr} {g f : EF} {fe fg : Bool} {op : Operator} {fop : Int → Int → Int} {tpos pos : Pos} (ho : PE X o (tVar i)) (hg : DE z X fg ix g) (ha : DE z X fe a f) (hp : PIp X op (ipI fop))
    (hau : ∀ ov iv new, augStore ix ov iv new = (do holding [new, ov, iv] (setItem ov iv new); release [new, ov, iv] []; pure .next) := by intros; rfl) : DS z X fr (.AugAssign (.Subscript o ix tpos) op a pos) (sAugS i fop g f) := by
  refine ds_imp (ps_augS ho hg pget_list ha hp set_list hau) fun B env σ H Dd I p => ?_
  unfold sAugS at p
  split at p
  · rename_i ds0 he
    obtain ⟨a0, xs0, e1, _, hH0, _⟩ := I.ow he
    refine ⟨_, e1, B, env, I, (R.post_bind p).imp (fun q hq u H1 I1 m1 a1 fx  => ?_) fun _ _ q => q.xp⟩
    obtain ⟨d, e'⟩ := q
    dsimp only at hq
    split at hq
    · rename_i ds k he1
      split at hq
      · rename_i h0
        split at hq
        · rename_i x hx
          cases a1
          obtain ⟨a, xs, e2, hO, hH, r⟩ := I1.ow he1
          rw [e1] at e2
          cases e2
          obtain ⟨vx, h1, h2⟩ := r.get hx
          cases h2
          refine ⟨a0, xs, k, _, rfl, rfl, h0, SqL.of hH, h1, B, e', I1, (R.post_bind hq).imp (fun p hp w H2 I2 m2 a2 fx  => ?_) fun _ _ q => q.xp.step m1⟩
          obtain ⟨d2, e2⟩ := p
          dsimp only at hp
          split at hp
          · rename_i es y he2
            split at hp
            · rename_i hl
              cases a2
              obtain ⟨b, ys, e3, hO2, hH2, r2⟩ := I2.ow he2
              rw [e1] at e3
              cases e3
              obtain ⟨I', m'⟩ := I2.write (i := i) (a := a0) (s := .ow es) (s' := .ow (es.set k.toNat (.int (fop x y)))) (o := .lst (ys.set k.toNat (.int (fop x y)))) he2 rfl rfl e1 ⟨a0, _, rfl, hO2, upd_same, AtAll.set (.int _) _ (AtAll.mv (Mv.wr hO2) r2)⟩
              exact ⟨x, y, rfl, rfl, a0, ys, k, k.toNat, rfl, rfl, hH2, ixN_nn h0 (by rw [r2.length]; exact hl), hp σ _ I' ((m1.trans m2).trans m')⟩
            · exact hp.elim
          · exact hp.elim
        · exact hq.elim
      · exact hq.elim
    · exact hq.elim
  · exact p.elim
/-- name op= e, ints -/
def sAug (i : Nat) (op : Int → Int → Int) (f : EF) : SF := fun env => match env[i]? with
  | some (some (.im (.int x))) => (f env).bind fun p => match p.1 with
    | .int y => .ok (.nx (p.2.set i (some (.im (.int (op x y))))))
    | _ => .stuck
  | _ => .stuck
/-- a, b = x, y -/
def sPar (i j : Nat) (g : En → R En (List D × En)) : SF := fun env => (g env).bind fun p => match p.1 with
  | [d, e] => .ok (.nx ((p.2.set i (some (.im d))).set j (some (.im e))))
  | _ => .stuck
theorem sem_par {i j : Nat} {g : En → R En (List D × En)} {B : Bs} {env : En} {σ : Sg} {H : Hp} {Dd : Ends} (hi : i ∉ z.np) (hj : j ∉ z.np) (I : SR K z.np B σ H env) (p : (sPar i j g env).post (SOk K z fr B σ H env Dd) (XS K z B σ H env)) : tPar i j (tA K z g) Dd σ H :=
  ⟨B, env, I, (R.post_bind p).imp (fun p hp vs H1 I1 m1 a => by
    obtain ⟨ds, e'⟩ := p
    dsimp only at hp
    split at hp
    · obtain ⟨v, u, rfl, h1, h2⟩ := AtAll.two a
      obtain ⟨I2, m2⟩ := I1.setIm hi h1
      obtain ⟨I3, m3⟩ := I2.setIm hj (At.mv m2 h2)
      exact ⟨v, u, rfl, hp _ H1 I3 ((m1.trans m2).trans m3)⟩
    · exact hp.elim) fun _ _ q => q.xp⟩
end
end DL
namespace DL
open PySem PySem.Spec PyProof.Rows L2
variable {K : PySem.W.Frag}
section
variable {X : Cx} {z : Z} {fr : Bool} {st : Stmt} {sts : List Stmt} {e : Expr}
def forF (T : TF) (g : SF) : List D → En → R En Out
  | [], env => .ok (.nx env)
  | d :: ds, env => (ofO (T d env)).bind fun e1 => (g e1).bind fun o => match o with
    | .nx e => forF T g ds e
    | .ct e => forF T g ds e
    | .bk e => .ok (.nx e)
    | .rt d e => .ok (.rt d e)
def sFor (gw : En → R En (List D × En)) (T : TF) (g : SF) : SF := fun env => (gw env).bind fun p => forF T g p.1 p.2
theorem ds_for {tg iter : Expr} {body : List Stmt} {pos : Pos} {gw : En → R En (List D × En)} {T : TF} {ws : List Nat} {g : SF} (hp : PassesOwn (model X.prog X.w) X.A X.env X.xe) (hc : X.calm = true) (hi : DI z X tg iter gw) (hg : DG z X tg ws T) (hb : DSs z X fr body g)
    (hs : ∀ x, foldedSetIterable iter X.env x = pure x := by intro _; rfl) : DS z X fr (.For tg iter body [] pos) (sFor gw T g) := by
  refine ds_imp (ps_for hp hc hi hg hb hs) fun B env σ H Dd I p => ⟨B, env, I, (R.post_bind p).imp (fun p hp J H1 I1 m1 hJ => ?_) fun _ _ q => q.xp⟩
  obtain ⟨ds, e1⟩ := p
  dsimp only at hp hJ I1 m1
  refine ⟨fun i m σ' Hh => ∃ ei, m = ds.length - i ∧ i ≤ ds.length ∧ SR X.K z.np B σ' Hh ei ∧ Mv (B.O σ e1) (B.O σ' ei) H1 Hh ∧ (forF T g (ds.drop i) ei).post (SOk X.K z fr B σ H env Dd) (XS X.K z B σ H env), ⟨ds.length, e1, by simp, Nat.zero_le _, I1, .refl, hp⟩, ?_⟩
  rintro i m σ' Hh ⟨ei, rfl, hi, J1, mm, hc⟩
  obtain ⟨g1, g2, g3⟩ := hJ _ Hh mm J1.od
  by_cases hlt : i < ds.length
  · refine .inr ⟨g1 i hlt, fun σ'' H' => ∃ ei, SR X.K z.np B σ'' H' ei ∧ Mv (B.O σ e1) (B.O σ'' ei) H1 H' ∧ (forF T g (ds.drop (i + 1)) ei).post (SOk X.K z fr B σ H env Dd) (XS X.K z B σ H env), fun σ'' H' ⟨ei, q⟩ => ⟨ds.length - (i + 1), by omega, ei, rfl, hlt, q⟩, fun x H' y => ?_⟩
    obtain ⟨ex, ax⟩ := g3 i x H' _ (List.getElem?_eq_getElem hlt) y
    rw [List.drop_eq_getElem_cons hlt] at hc
    unfold forF at hc
    obtain ⟨e2, hT, hc⟩ := ofO_post (R.post_bind hc)
    refine ⟨B, ei, ds[i], e2, J1.ex ex, ax, hT, fun σ2 J2 mt _ => ?_⟩
    have m2 : Mv (B.O σ e1) (B.O σ2 e2) H1 H' := (mm.trans (Mv.ex ex)).trans mt
    have m0 : Mv (B.O σ env) (B.O σ2 e2) H H' := m1.trans m2
    refine ⟨B, e2, J2, (R.post_bind hc).imp (fun o ho => ?_) fun x e q => q.step m0⟩
    cases o with
    | nx e => exact fun σ3 H3 I3 m3 => ⟨e, I3, m2.trans m3, ho⟩
    | ct e => exact fun σ3 H3 I3 m3 => ⟨e, I3, m2.trans m3, ho⟩
    | bk e => exact fun σ3 H3 I3 m3 => ho σ3 H3 I3 (m0.trans m3)
    | rt d e => exact fun v σ3 H3 I3 m3 => ho v σ3 H3 I3 (m0.trans m3)
  · have e : i = ds.length := by omega
    subst e
    rw [List.drop_length] at hc
    exact .inl ⟨g2, hc σ' Hh J1 (m1.trans mm)⟩
def whileF (c : En → R En (Bool × En)) (g : SF) : Nat → En → R En Out
  | 0, _ => .stuck
  | n + 1, env => (c env).bind fun b => if b.1 = true then (g b.2).bind fun o => match o with
    | .nx e => whileF c g n e
    | .ct e => whileF c g n e
    | .bk e => .ok (.nx e)
    | .rt d e => .ok (.rt d e)
    else .ok (.nx b.2)
/-- n tells how many turns are enough -/
def sWhile (n : En → Nat) (c : En → R En (Bool × En)) (g : SF) : SF := fun env => whileF c g (n env) env
theorem ds_while {c : Expr} {body : List Stmt} {pos : Pos} {n : En → Nat} {fc : En → R En (Bool × En)} {g : SF} (hp : PassesOwn (model X.prog X.w) X.A X.env X.xe) (hc : DT z X c fc) (hb : DSs z X fr body g) : DS z X fr (.While c body [] pos) (sWhile n fc g) := by
  refine ds_imp (ps_while hp hc hb) fun B env σ H Dd I p => ?_
  refine ⟨fun m σ' Hh => ∃ ei, SR X.K z.np B σ' Hh ei ∧ Mv (B.O σ env) (B.O σ' ei) H Hh ∧ (whileF fc g m ei).post (SOk X.K z fr B σ H env Dd) (XS X.K z B σ H env), ⟨n env, env, I, .refl, p⟩, ?_⟩
  rintro m σ' Hh ⟨ei, J, mm, hw⟩
  cases m with
  | zero => exact hw.elim
  | succ m =>
    unfold whileF at hw
    refine ⟨B, ei, J, (R.post_bind hw).imp (fun b hb H1 J1 m1 => ?_) fun x e q => (q.step mm).xp⟩
    have m2 := mm.trans m1
    obtain ⟨b, e1⟩ := b
    cases b with
    | true =>
      simp only [if_true] at hb
      dsimp only
      rw [if_pos rfl]
      refine ⟨fun σ' H' => ∃ ei, SR X.K z.np B σ' H' ei ∧ Mv (B.O σ env) (B.O σ' ei) H H' ∧ (whileF fc g m ei).post (SOk X.K z fr B σ H env Dd) (XS X.K z B σ H env), fun σ' H' q => ⟨m, by omega, q⟩, ?_⟩
      refine ⟨B, e1, J1, (R.post_bind hb).imp (fun o ho => ?_) fun x e q => q.step m2⟩
      cases o with
      | nx e => exact fun σ3 H3 I3 m3 => ⟨e, I3, m2.trans m3, ho⟩
      | ct e => exact fun σ3 H3 I3 m3 => ⟨e, I3, m2.trans m3, ho⟩
      | bk e => exact fun σ3 H3 I3 m3 => ho σ3 H3 I3 (m2.trans m3)
      | rt d e => exact fun v σ3 H3 I3 m3 => ho v σ3 H3 I3 (m2.trans m3)
    | false =>
      simp only [Bool.false_eq_true, if_false] at hb
      dsimp only
      rw [if_neg Bool.false_ne_true]
      exact hb σ' H1 J1 m2
def sRaise (c : Str) : SF := fun env => .err ⟨c, []⟩ env
theorem ds_raise {ex : Expr} {c : Str} {C : Addr} {pos : Pos} (hc : X.calm = true) (tk : L2N.Takes X z.W) (he : L2N.PMk X ex (fun _ H Q => Q (.ref C) none H)) (hC : z.ca c = C) : DS z X fr (.Raise (some ex) none pos) (sRaise c) :=
  ds_imp (L2N.ps_raise hc tk he) fun B env σ H Dd I p => p (.ref C) none σ H I .refl ⟨by rw [hC], rfl⟩
section
variable {elt tg iter : Expr} {ifs : List Expr} {scope : Scope} {own : List (Str × Nat)} {pos spos py : Pos} {gw : En → R En (List D × En)} {T : TF} {t : En → R En (Bool × En)} {f : EF} {ws : List Nat} {fe : Bool} {i : Nat} {y : Str}
theorem sem_lc {Q : VK} {B : Bs} {env : En} {σ : Sg} {H : Hp} (hw : ∀ w ∈ ws, w ∈ own.map (·.2)) (hvn : ∀ i ∈ own.map (·.2), i ∉ z.np) (I : SR X.K z.np B σ H env) (hp : (fLc gw T t f (own.map (·.2)) env).post (EP1 X.K z true B σ H env Q) (XP X.K z B σ H env)) :
    tLc (tI X.K z gw) (tG X.K z.quiet ws T) (tT X.K z.quiet t) (tE X.K z.quiet fe f) (own.map (·.2)) σ H Q := by
  refine ⟨B, env, I, (R.post_bind hp).imp (fun p hp J H1 I1 m1 hJ D hD => ?_) fun _ _ q => q⟩
  split at hp
  · rename_i hv
    exact lc_core' I I1 m1 hJ hv hvn hD hw (R.post_bind hp)
  · exact hp.elim
theorem ds_setLc (hc : X.calm = true) (hN : X.N.Nodup) (hy : X.N[i]? = some y) (hyl : X.env.scope.names.lookup y = some .local)
    (hsw : swapsWith (.ListComp elt [⟨tg, iter, ifs, 0⟩] scope pos) (some (.Name y py)) spos.line X.env = pure true) (hi : DI z X tg iter gw) (ok : BlkOk X.N X.env.scope scope own)
    (hg : ∀ (s : Shared) (H : Hp) (C : Addr) (cl : List (Str × Addr)) (fp : List Addr), PG (X.blk s H scope (compEnvC scope cl C X.env) fp) tg (tG X.K z.quiet ws T)) (ht : ∀ (s : Shared) (H : Hp) (C : Addr) (cl : List (Str × Addr)) (fp : List Addr), PTs (X.blk s H scope (compEnvC scope cl C X.env) fp) ifs (tT X.K z.quiet t))
    (he : ∀ (s : Shared) (H : Hp) (C : Addr) (cl : List (Str × Addr)) (fp : List Addr), PE (X.blk s H scope (compEnvC scope cl C X.env) fp) elt (tE X.K z.quiet fe f)) (hw : ∀ w ∈ ws, w ∈ own.map (·.2)) (hin : i ∉ z.np) (hs : ∀ x, foldedSetIterable iter X.env x = pure x := by intro _; rfl) (hvn : npFree z.np (own.map (·.2)) = true := by rfl) :
    DS z X fr (.Assign [.Name y py] (.ListComp elt [⟨tg, iter, ifs, 0⟩] scope pos) spos) (sSet i (fLc gw T t f (own.map (·.2)))) :=
  ds_imp (ps_setLc hc hN hy hyl hsw hi ok hg ht he hs) fun B env σ H Dd I p => sem_lc hw (npFree_not hvn) I ((sem_set hin p).imp (fun _ q v H' I' m a _ => q v H' I' m a fun w => nomatch w) fun _ _ q => q)
theorem ds_setLcO (hc : X.calm = true) (hN : X.N.Nodup) (hy : X.N[i]? = some y) (hyl : X.env.scope.names.lookup y = some .local)
    (hsw : swapsWith (.ListComp elt [⟨tg, iter, ifs, 0⟩] scope pos) (some (.Name y py)) spos.line X.env = pure true) (hi : DI z X tg iter gw) (ok : BlkOk X.N X.env.scope scope own)
    (hg : ∀ (s : Shared) (H : Hp) (C : Addr) (cl : List (Str × Addr)) (fp : List Addr), PG (X.blk s H scope (compEnvC scope cl C X.env) fp) tg (tG X.K z.quiet ws T)) (ht : ∀ (s : Shared) (H : Hp) (C : Addr) (cl : List (Str × Addr)) (fp : List Addr), PTs (X.blk s H scope (compEnvC scope cl C X.env) fp) ifs (tT X.K z.quiet t))
    (he : ∀ (s : Shared) (H : Hp) (C : Addr) (cl : List (Str × Addr)) (fp : List Addr), PE (X.blk s H scope (compEnvC scope cl C X.env) fp) elt (tE X.K z.quiet fe f)) (hw : ∀ w ∈ ws, w ∈ own.map (·.2)) (hin : i ∉ z.np) (hs : ∀ x, foldedSetIterable iter X.env x = pure x := by intro _; rfl) (hvn : npFree z.np (own.map (·.2)) = true := by rfl) :
    DS z X fr (.Assign [.Name y py] (.ListComp elt [⟨tg, iter, ifs, 0⟩] scope pos) spos) (sSetO i (fLc gw T t f (own.map (·.2)))) :=
  ds_imp (ps_setLc hc hN hy hyl hsw hi ok hg ht he hs) fun B env σ H Dd I p => sem_lc hw (npFree_not hvn) I (sem_setO I hin p)
end
end
inductive PArg where
  | im (d : D)
  | sl (j : Nat)
def PAt (K : PySem.W.Frag) (O : Addr → Prop) (σ : Sg) (H : Hp) (v : V) : PArg → Prop
  | .im d => At K O H v d
  | .sl j => σ[j]? = some (some v)
inductive PAll (K : PySem.W.Frag) (O : Addr → Prop) (σ : Sg) (H : Hp) : List V → List PArg → Prop
  | nil : PAll K O σ H [] []
  | cons {v : V} {vs : List V} {a : PArg} {as : List PArg} : PAt K O σ H v a → PAll K O σ H vs as → PAll K O σ H (v :: vs) (a :: as)
theorem PAt.mv {O O' : Addr → Prop} {σ : Sg} {H H' : Hp} {v : V} {a : PArg} (m : Mv O O' H H') (h : PAt K O σ H v a) : PAt K O' σ H' v a := by
  cases a with
  | im d => exact At.mv m h
  | sl j => exact h
def tC (K : PySem.W.Frag) (z : Z) (f : En → R En (List PArg × En)) : TA := fun σ H Q => ∃ (B : Bs) (env : En), SR K z.np B σ H env ∧
  (f env).post (fun p => ∀ (vs : List V) H', SR K z.np B σ H' p.2 → Mv (B.O σ env) (B.O σ p.2) H H' → PAll K (B.O σ p.2) σ H' vs p.1 → Q vs H') (XP K z B σ H env)
abbrev DC (z : Z) (X : Cx) (es : List Expr) (f : En → R En (List PArg × En)) : Prop := PA X es (tC X.K z f)
section
variable {X : Cx} {z : Z} {e : Expr} {es : List Expr}
def cNil : En → R En (List PArg × En) := fun env => .ok ([], env)
def cIm (f : EF) (g : En → R En (List PArg × En)) : En → R En (List PArg × En) := fun env => (f env).bind fun p => (g p.2).bind fun q => .ok (.im p.1 :: q.1, q.2)
def cSl (j : Nat) (g : En → R En (List PArg × En)) : En → R En (List PArg × En) := fun env => match env[j]? with
  | some (some s) => if s.own = true then (g env).bind fun q => .ok (.sl j :: q.1, q.2) else .stuck
  | _ => .stuck
theorem dc_nil : DC z X [] cNil := pa_weak pa_nil fun σ H Q ⟨B, env, I, p⟩ => p [] H I .refl .nil
theorem dc_im {fr : Bool} {f : EF} {g : En → R En (List PArg × En)} (ha : DE z X fr e f) (hr : DC z X es g) (hs : starEach (e :: es) X.env = (false, eval e X.env) :: starEach es X.env := by rfl) : DC z X (e :: es) (cIm f g) :=
  pa_weak (pa_cons ha hr hs) fun σ H Q ⟨B, env, I, hp⟩ => ⟨B, env, I, (R.post_bind hp).imp (fun p hp v H1 I1 m1 a1 _ =>
    ⟨B, p.2, I1, (R.post_bind hp).imp (fun q hq vs H2 I2 m2 a2 => hq (v :: vs) H2 I2 (m1.trans m2) (.cons (At.mv m2 a1) a2)) fun _ _ q => q.step m1⟩) fun _ _ q => q⟩
theorem dc_sl {j : Nat} {g : En → R En (List PArg × En)} (ha : PE X e (tVar j)) (hr : DC z X es g) (hs : starEach (e :: es) X.env = (false, eval e X.env) :: starEach es X.env := by rfl) : DC z X (e :: es) (cSl j g) :=
  pa_weak (pa_cons ha hr hs) fun σ H Q ⟨B, env, I, hp⟩ => by
    unfold cSl at hp
    split at hp
    · rename_i s he
      split at hp
      · rename_i ho
        obtain ⟨v, e1, q1⟩ := I.slot j s he
        exact ⟨v, e1, B, env, I, (R.post_bind hp).imp (fun q hq vs H2 I2 m2 a2 => hq (v :: vs) H2 I2 m2 (.cons e1 a2)) fun _ _ q => q⟩
      · exact hp.elim
    · exact hp.elim
end
/-- the arguments as they stand -/
def resolve (e : En) : List PArg → Option (List Sl)
  | [] => some []
  | .im d :: as => (resolve e as).map (.im d :: ·)
  | .sl j :: as => match e[j]? with
    | some (some s) => if s.own = true then (resolve e as).map (s :: ·) else none
    | _ => none
def slotsOf : List PArg → List Nat
  | [] => []
  | .im _ :: as => slotsOf as
  | .sl j :: as => j :: slotsOf as
/-- what is own is told back -/
def back : List PArg → List Sl → En → En
  | .im _ :: as, _ :: es, env => back as es env
  | .sl j :: as, s :: es, env => back as es (env.set j (some s))
  | _, _, env => env
theorem back_out {j : Nat} : ∀ {as : List PArg} {es : List Sl} {env : En}, j ∉ slotsOf as → (back as es env)[j]? = env[j]?
  | [], es, env, _ => by unfold back; rfl
  | .im d :: as, [], env, _ => by unfold back; rfl
  | .sl k :: as, [], env, _ => by unfold back; rfl
  | .im d :: as, s :: es, env, h => by unfold back; exact back_out h
  | .sl k :: as, s :: es, env, h => by
    unfold back
    simp only [slotsOf, List.mem_cons, not_or] at h
    rw [back_out h.2, List.getElem?_set_ne (Ne.symm h.1)]
theorem back_length : ∀ (as : List PArg) (es : List Sl) (env : En), (back as es env).length = env.length
  | [], es, env => by unfold back; rfl
  | .im d :: as, [], env => by unfold back; rfl
  | .sl k :: as, [], env => by unfold back; rfl
  | .im d :: as, s :: es, env => by unfold back; exact back_length as es env
  | .sl k :: as, s :: es, env => by unfold back; rw [back_length as es, List.length_set]
theorem back_in {j : Nat} : ∀ {as : List PArg} {es : List Sl} {env : En} {i : Nat} {s : Sl}, (slotsOf as).Nodup → as[i]? = some (.sl j) → es[i]? = some s → j < env.length → (back as es env)[j]? = some (some s)
  | [], _, _, _, _, _, h, _, _ => by simp at h
  | _ :: _, [], _, _, _, _, _, h, _ => by simp at h
  | .im d :: as, t :: es, env, 0, s, _, h, _, _ => by simp at h
  | .im d :: as, t :: es, env, i + 1, s, hn, h, h2, hl => by
    unfold back
    exact back_in (i := i) hn (by simpa using h) (by simpa using h2) hl
  | .sl k :: as, t :: es, env, 0, s, hn, h, h2, hl => by
    have e : k = j := by simpa using h
    have e2 : t = s := by simpa using h2
    subst e e2
    unfold back
    simp only [slotsOf, List.nodup_cons] at hn
    rw [back_out hn.1, List.getElem?_set_self hl]
  | .sl k :: as, t :: es, env, i + 1, s, hn, h, h2, hl => by
    unfold back
    simp only [slotsOf, List.nodup_cons] at hn
    exact back_in (i := i) hn.2 (by simpa using h) (by simpa using h2) (by simpa using hl)
theorem mem_slotsOf {j : Nat} : ∀ {as : List PArg}, j ∈ slotsOf as → ∃ i : Nat, as[i]? = some (.sl j)
  | [], h => by simp [slotsOf] at h
  | .im d :: as, h => by
    obtain ⟨i, q⟩ := mem_slotsOf (as := as) h
    exact ⟨i + 1, by simpa using q⟩
  | .sl k :: as, h => by
    simp only [slotsOf, List.mem_cons] at h
    rcases h with h | h
    · exact ⟨0, by simp [h]⟩
    · obtain ⟨i, q⟩ := mem_slotsOf (as := as) h
      exact ⟨i + 1, by simpa using q⟩
theorem slotsOf_mem {j : Nat} : ∀ {as : List PArg} {i : Nat}, as[i]? = some (.sl j) → j ∈ slotsOf as
  | [], _, h => by simp at h
  | .im d :: as, 0, h => by simp at h
  | .im d :: as, i + 1, h => by simp only [slotsOf]; exact slotsOf_mem (i := i) (by simpa using h)
  | .sl k :: as, 0, h => by simp at h; simp [slotsOf, h]
  | .sl k :: as, i + 1, h => by simp only [slotsOf, List.mem_cons]; exact .inr (slotsOf_mem (i := i) (by simpa using h))
/-- each resolved argument -/
theorem resolve_get {e : En} : ∀ {as : List PArg} {es : List Sl} {i : Nat} {s : Sl}, resolve e as = some es → es[i]? = some s →
    (∃ d, as[i]? = some (.im d) ∧ s = .im d) ∨ (∃ j, as[i]? = some (.sl j) ∧ e[j]? = some (some s) ∧ s.own = true)
  | [], es, i, s, h, h2 => by cases h; simp at h2
  | .im d :: as, es, i, s, h, h2 => by
    simp only [resolve, Option.map_eq_some_iff] at h
    obtain ⟨r, h1, rfl⟩ := h
    cases i with
    | zero => exact .inl ⟨d, rfl, by simpa using h2.symm⟩
    | succ i => simpa using resolve_get (i := i) h1 (by simpa using h2)
  | .sl j :: as, es, i, s, h, h2 => by
    simp only [resolve] at h
    split at h
    · rename_i t ht
      split at h
      · rename_i ho
        rw [Option.map_eq_some_iff] at h
        obtain ⟨r, h1, rfl⟩ := h
        cases i with
        | zero =>
          have e2 : t = s := by simpa using h2
          subst e2
          exact .inr ⟨j, rfl, ht, ho⟩
        | succ i => simpa using resolve_get (i := i) h1 (by simpa using h2)
      · cases h
    · cases h
theorem resolve_length {e : En} : ∀ {as : List PArg} {es : List Sl}, resolve e as = some es → es.length = as.length
  | [], es, h => by cases h; rfl
  | .im d :: as, es, h => by
    simp only [resolve, Option.map_eq_some_iff] at h
    obtain ⟨r, h1, rfl⟩ := h
    simp [resolve_length h1]
  | .sl j :: as, es, h => by
    simp only [resolve] at h
    split at h
    · split at h
      · rw [Option.map_eq_some_iff] at h
        obtain ⟨r, h1, rfl⟩ := h
        simp [resolve_length h1]
      · cases h
    · cases h
theorem PAll.get {O : Addr → Prop} {σ : Sg} {H : Hp} : ∀ {vs : List V} {as : List PArg} {i : Nat} {a : PArg}, PAll K O σ H vs as → as[i]? = some a → ∃ v, vs[i]? = some v ∧ PAt K O σ H v a
  | _, _, _, _, .nil, h => by simp at h
  | _, _, 0, _, .cons p _, h => by simp at h; subst h; exact ⟨_, rfl, p⟩
  | _, _, i + 1, a, .cons _ r, h => by
    obtain ⟨v, h1, h2⟩ := PAll.get (i := i) (a := a) r (by simpa using h)
    exact ⟨v, by simpa using h1, h2⟩
theorem PAll.length {O : Addr → Prop} {σ : Sg} {H : Hp} : ∀ {vs : List V} {as : List PArg}, PAll K O σ H vs as → vs.length = as.length
  | _, _, .nil => rfl
  | _, _, .cons _ r => congrArg (· + 1) r.length
structure ArgsOk (K : PySem.W.Frag) (np : List Nat) (O : Addr → Prop) (H : Hp) (vs : List V) (es : List Sl) : Prop where
  len : vs.length = es.length
  od : Od O H
  arg : ∀ (i : Nat) (s : Sl), es[i]? = some s → ∃ v : V, vs[i]? = some v ∧ SlotR K O H v s
  dist : ∀ (i j : Nat) (a : Addr) (s t : Sl), es[i]? = some s → s.own = true → vs[i]? = some (.ref a) → es[j]? = some t → t.own = true → vs[j]? = some (.ref a) → i = j
  np : ∀ (i : Nat) (s : Sl), es[i]? = some s → s.own = true → i ∈ np
def argOwn (vs : List V) (es : List Sl) (a : Addr) : Prop := ∃ (i : Nat) (s : Sl), es[i]? = some s ∧ s.own = true ∧ vs[i]? = some (.ref a)
structure HeapOk (K : PySem.W.Frag) (O O' : Addr → Prop) (H H' : Hp) (vs : List V) (es es' : List Sl) : Prop where
  keep : ∀ a o, H a = some o → ¬ argOwn vs es a → H' a = some o
  dom : ∀ a, H' a = none → H a = none
  args : ∀ (i : Nat) (s : Sl), es[i]? = some s → s.own = true → ∃ (s' : Sl) (v : V), es'[i]? = some s' ∧ s'.own = true ∧ vs[i]? = some v ∧ SlotR K O' H' v s'
def CallOk (K : PySem.W.Frag) (fr : Bool) (O : Addr → Prop) (H : Hp) (vs : List V) (es es' : List Sl) (v : V) (d : D) (H' : Hp) : Prop :=
  HeapOk K O O H H' vs es es' ∧ At K O H' v d ∧ (fr = true → ∀ ds, d = .list ds → ∃ (a : Addr) (xs : List V), v = .ref a ∧ H a = none ∧ ¬ O a ∧ H' a = some (.lst xs) ∧ AtAll K (plus O a) H' xs ds ∧ HeapOk K O (plus O a) H H' vs es es')
abbrev FD := List Sl → R (List Sl) (D × List Sl)
def spD (K : PySem.W.Frag) (ca : Str → Addr) (np : List Nat) (fr : Bool) (F : FD) : Sp := fun vs H Q E => ∃ (es : List Sl) (O : Addr → Prop), ArgsOk K np O H vs es ∧
  (F es).post (fun p => ∀ v H', CallOk K fr O H vs es p.2 v p.1 H' → Q v H') (fun x es' => ∀ cls dp H', HeapOk K O O H H' vs es es' → ExnAt K O H' ca x cls dp → E cls dp H')
def spDT (K : PySem.W.Frag) (ca : Str → Addr) (np : List Nat) (fr : Bool) (T : Hp → (Addr → Prop) → V → Hp → D → Prop) (F : FD) : Sp := fun vs H Q E => ∃ (es : List Sl) (O : Addr → Prop), ArgsOk K np O H vs es ∧
  (F es).post (fun p => ∀ v H', CallOk K fr O H vs es p.2 v p.1 H' → T H O v H' p.1 → Q v H') (fun x es' => ∀ cls dp H', HeapOk K O O H H' vs es es' → ExnAt K O H' ca x cls dp → E cls dp H')
/-- a def by its level, by the guards too -/
structure FnG (P : Program) (w : World) (K : PySem.W.Frag) (mg : Str → Option Value) (base : Heap) (k : Nat) (f : Addr) (fd : FuncData) (ps : List Str) (sp : Sp) : Prop where
  run : ∀ (A : Around) (outer : List Env) (s : Shared) (H : Hp) (args : Args) (us : List Value) (vs : List V) (Q : VK) (E : XK), Room k A → A.guards = some [] → Env0 P w K mg base A outer s H → BindsTo s fd args (ps.zip us) → Vals vs us → vs.length = ps.length → sp vs H Q E →
    codeAny (model P w) A (.call (.ref f) args) (CR (L2N.CX P w) outer P w H s Q E) s
theorem FnG.mono {P : Program} {w : World} {mg : Str → Option Value} {base : Heap} {j k : Nat} {f : Addr} {fd : FuncData} {ps : List Str} {sp : Sp} (F : FnG P w K mg base j f fd ps sp) (h : j ≤ k) : FnG P w K mg base k f fd ps sp :=
  ⟨fun A outer s H args us vs Q E hr => F.run A outer s H args us vs Q E (hr.mono h)⟩
section
variable {X : Cx} {z : Z} {k : Nat} {f : Addr} {fd : FuncData} {ps : List Str} {sp : Sp} {E : Sg → XK} {x : Str} {p pos : Pos} {e : Expr} {es : List Expr} {t : TA}
theorem run_fnG {pins : List (Addr × Obj)} {σ : Sg} {H : Hp} {s : Shared} {Q : VK} {us : List Value} {vs : List V} (F : FnG X.prog X.w X.K X.mg X.base k f fd ps sp) (hr : Room k X.A) (hg : X.A.guards = some []) (hb : Binds X.K fd ps []) (hx : PassesAt (L2N.CX X.prog X.w) X σ (E σ))
    (I : Inv X pins σ H s) (r : Vals vs us) (hl : vs.length = ps.length) (h : sp vs H Q (E σ)) : wpAny (model X.prog X.w) X.A (call (.ref f) us) (EP X pins σ Q) X.xe s := by
  have hl' : us.length = ps.length := by rw [← r.length]; exact hl
  have b := hb s us I.kIn (by rw [List.append_nil]; exact hl')
  rw [List.append_nil] at b
  refine wpAny_call (codeAny_mono (F.run X.A X.stack s H ⟨us, []⟩ us vs Q (E σ) hr hg I.env0 b r hl h) fun r s' hq => ?_)
  cases r with
  | error e => exact hx pins H s e s' I hq
  | ok fl =>
    cases fl with
    | ret u => exact I.after hq
    | next => exact False.elim hq
    | brk => exact False.elim hq
    | cont => exact False.elim hq
def tCallG (n : Nat) (sp : Sp) (E : Sg → XK) (t : TA) : TE := fun σ H Q => t σ H fun vs H1 => vs.length = n ∧ sp vs H1 Q (E σ)
theorem pe_callG (F : FnG X.prog X.w X.K X.mg X.base k f fd ps sp) (hr : Room k X.A) (hgd : X.A.guards = some []) (hg : Gl X x) (hm : X.mg x = some (.ref f)) (hk : PySem.W.keepIn X.K (.ref f) = true) (hb : Binds X.K fd ps []) (hx : ∀ σ, PassesAt (L2N.CX X.prog X.w) X σ (E σ))
    (ha : PA X (e :: es) t) (hdb : (x == ("__debug__" : Str)) = false := by decide) (he : starEach (e :: es) X.env = (false, eval e X.env) :: starEach es X.env := by rfl) (hpl : (backTo pos (starEach es X.env)).any (·.1) = false := by rfl) :
    PE X (.Call (.Name x p) (e :: es) [] pos) (tCallG ps.length sp E t) := by
  refine ⟨fun pins s σ H Q I h => ?_⟩
  refine wpAny_Call_Name_kw (ld_glob I hg hm ?_ hdb)
  refine PySem.W.callWith_K (h₀ := X.base) I.ok.mod.kin hk (thn (ha.run pos pins s σ H _ I h) fun us s1 ⟨vs, H1, I1, r, q⟩ => ⟨I1.kIn, ?_⟩) he hpl
  exact run_fnG F hr hgd hb (hx σ) I1 r q.1 q.2
end
end DL
namespace DL
open PySem PySem.Spec PyProof.Rows L2
variable {K : PySem.W.Frag}
def okNp (np : List Nat) : Nat → List Sl → Bool
  | _, [] => true
  | i, s :: r => (!s.own || np.contains i) && okNp np (i + 1) r
theorem okNp_get {np : List Nat} : ∀ {k : Nat} {es : List Sl} {i : Nat} {s : Sl}, okNp np k es = true → es[i]? = some s → s.own = true → k + i ∈ np
  | _, [], _, _, _, h, _ => by simp at h
  | k, t :: r, 0, s, h, h2, ho => by
    have e : t = s := by simpa using h2
    subst e
    simp only [okNp, Bool.and_eq_true, Bool.or_eq_true, Bool.not_eq_true', ho] at h
    rcases h.1 with h | h
    · cases h
    · simpa using h
  | k, t :: r, i + 1, s, h, h2, ho => by
    simp only [okNp, Bool.and_eq_true] at h
    have := okNp_get (k := k + 1) (i := i) h.2 (by simpa using h2) ho
    have e : k + 1 + i = k + (i + 1) := by omega
    rw [← e]; exact this
def fCallF (n : Nat) (np : List Nat) (F : FD) (g : En → R En (List PArg × En)) : EF := fun env => (g env).bind fun p => match resolve p.2 p.1 with
  | some es => if p.1.length = n ∧ (slotsOf p.1).Nodup ∧ okNp np 0 es = true then match F es with
      | .ok (d, es') => .ok (d, back p.1 es' p.2)
      | .err x es' => .err x (back p.1 es' p.2)
      | .stuck => .stuck
    else .stuck
  | none => .stuck
section
variable {np : List Nat} {B : Bs} {σ : Sg} {H H' : Hp} {env : En} {vs : List V} {as : List PArg} {es es' : List Sl} {O' : Addr → Prop}
theorem argOwn_owned (hr : resolve env as = some es) (pa : PAll K (B.O σ env) σ H vs as) {a : Addr} (h : argOwn vs es a) : ∃ j, j ∈ slotsOf as ∧ ownedAt σ env j a := by
  obtain ⟨i, s, h1, h2, h3⟩ := h
  rcases resolve_get hr h1 with ⟨d, q1, rfl⟩ | ⟨j, q1, q2, _⟩
  · cases h2
  · obtain ⟨v, e1, e2⟩ := pa.get q1
    rw [h3] at e1
    cases e1
    exact ⟨j, slotsOf_mem q1, s, q2, h2, e2⟩
theorem args_ok (I : SR K np B σ H env) (hr : resolve env as = some es) (hn : (slotsOf as).Nodup) (pa : PAll K (B.O σ env) σ H vs as) {np' : List Nat} (hnp : okNp np' 0 es = true) : ArgsOk K np' (B.O σ env) H vs es where
  len := by rw [pa.length, resolve_length hr]
  od := I.od
  arg := fun i s h => by
    rcases resolve_get hr h with ⟨d, q1, rfl⟩ | ⟨j, q1, q2, _⟩
    · obtain ⟨v, e1, e2⟩ := pa.get q1
      exact ⟨v, e1, e2⟩
    · obtain ⟨v, e1, e2⟩ := pa.get q1
      obtain ⟨u, e3, q⟩ := I.slot j s q2
      have e2 : σ[j]? = some (some v) := e2
      rw [e2] at e3
      cases e3
      exact ⟨v, e1, q⟩
  dist := fun i j a s t h1 h2 h3 h4 h5 h6 => by
    rcases resolve_get hr h1 with ⟨d, q1, rfl⟩ | ⟨k, q1, q2, _⟩
    · cases h2
    rcases resolve_get hr h4 with ⟨d, q3, rfl⟩ | ⟨l, q3, q4, _⟩
    · cases h5
    obtain ⟨v, e1, e2⟩ := pa.get q1
    obtain ⟨u, e3, e4⟩ := pa.get q3
    rw [h3] at e1
    cases e1
    rw [h6] at e3
    cases e3
    have := I.dist k l a ⟨s, q2, h2, e2⟩ ⟨t, q4, h5, e4⟩
    subst this
    have key : ∀ {as : List PArg} {i j : Nat}, (slotsOf as).Nodup → as[i]? = some (.sl k) → as[j]? = some (.sl k) → i = j := by
      intro as
      induction as with
      | nil => intro i j _ h; simp at h
      | cons a r ih =>
        intro i j hn h1 h2
        cases a with
        | im d =>
          cases i with
          | zero => simp at h1
          | succ i =>
            cases j with
            | zero => simp at h2
            | succ j => exact congrArg (· + 1) (ih (i := i) (j := j) hn (by simpa using h1) (by simpa using h2))
        | sl m =>
          simp only [slotsOf, List.nodup_cons] at hn
          cases i with
          | zero =>
            have e : m = k := by simpa using h1
            cases j with
            | zero => rfl
            | succ j => exact absurd (slotsOf_mem (i := j) (by simpa using h2)) (e ▸ hn.1)
          | succ i =>
            cases j with
            | zero =>
              have e : m = k := by simpa using h2
              exact absurd (slotsOf_mem (i := i) (by simpa using h1)) (e ▸ hn.1)
            | succ j => exact congrArg (· + 1) (ih (i := i) (j := j) hn.2 (by simpa using h1) (by simpa using h2))
    exact key hn q1 q3
  np := fun i s h ho => by
    have := okNp_get hnp h ho
    simpa using this
theorem called_slots (I : SR K np B σ H env) (hr : resolve env as = some es) (hn : (slotsOf as).Nodup) (pa : PAll K (B.O σ env) σ H vs as) (hO : ∀ a, O' a → B.O σ env a ∨ H a = none) (hO2 : ∀ a, B.O σ env a → O' a) (hk : HeapOk K (B.O σ env) O' H H' vs es es') :
    (∀ j a, ownedAt σ (back as es' env) j a ↔ ownedAt σ env j a) ∧ Clean K O' σ H' (back as es' env) ∧ Mv (B.O σ env) O' H H' := by
  have m : Mv (B.O σ env) O' H H' := ⟨fun a o e n => hk.keep a o e fun w => by
    obtain ⟨j, _, q⟩ := argOwn_owned hr pa w
    exact n (.inr ⟨j, q⟩), hO, hk.dom⟩
  -- what stands in a slot that was handed over
  have inS : ∀ {j : Nat}, j ∈ slotsOf as → ∃ (i : Nat) (s s' : Sl) (v : V), env[j]? = some (some s) ∧ s.own = true ∧ (back as es' env)[j]? = some (some s') ∧ s'.own = true ∧ σ[j]? = some (some v) ∧ SlotR K O' H' v s' := fun {j} hj => by
    obtain ⟨i, q⟩ := mem_slotsOf hj
    have hi : i < as.length := (List.getElem?_eq_some_iff.mp q).1
    have hi2 : i < es.length := by rw [resolve_length hr]; exact hi
    have hes : es[i]? = some es[i] := List.getElem?_eq_getElem hi2
    rcases resolve_get hr hes with ⟨d, q1, _⟩ | ⟨k, q1, q2, q3⟩
    · rw [q] at q1; cases q1
    · rw [q] at q1
      cases q1
      obtain ⟨s', v, h1, h2, h3, h4⟩ := hk.args i _ hes q3
      obtain ⟨u, e1, e2⟩ := pa.get q
      rw [h3] at e1
      cases e1
      exact ⟨i, _, s', v, q2, q3, back_in hn q h1 (List.getElem?_eq_some_iff.mp q2).1, h2, e2, h4⟩
  have ow : ∀ j a, ownedAt σ (back as es' env) j a ↔ ownedAt σ env j a := fun j a => by
    by_cases hj : j ∈ slotsOf as
    · obtain ⟨i, s, s', v, q1, q2, q3, q4, q5, q6⟩ := inS hj
      constructor
      · rintro ⟨t, h1, h2, h3⟩
        exact ⟨s, q1, q2, h3⟩
      · rintro ⟨t, h1, h2, h3⟩
        exact ⟨s', q3, q4, h3⟩
    · constructor
      · rintro ⟨t, h1, h2, h3⟩
        exact ⟨t, by rw [back_out hj] at h1; exact h1, h2, h3⟩
      · rintro ⟨t, h1, h2, h3⟩
        exact ⟨t, by rw [back_out hj]; exact h1, h2, h3⟩
  refine ⟨ow, fun j t h => ?_, m⟩
  by_cases hj : j ∈ slotsOf as
  · obtain ⟨i, s, s', v, q1, q2, q3, q4, q5, q6⟩ := inS hj
    rw [q3] at h
    cases h
    exact ⟨v, q5, q6⟩
  · rw [back_out hj] at h
    obtain ⟨v, e, q⟩ := I.slot j t h
    refine ⟨v, e, q.mv m (fun a ea ho => hO2 a (.inr ⟨j, t, h, ho, ea ▸ e⟩)) fun a o ea ho z => hk.keep a o z fun w => ?_⟩
    obtain ⟨l, hl, q'⟩ := argOwn_owned hr pa w
    exact hj (I.dist l j a q' ⟨t, h, ho, ea ▸ e⟩ ▸ hl)
theorem SR.called (I : SR K np B σ H env) (hr : resolve env as = some es) (hn : (slotsOf as).Nodup) (pa : PAll K (B.O σ env) σ H vs as) (hk : HeapOk K (B.O σ env) (B.O σ env) H H' vs es es') :
    SR K np B σ H' (back as es' env) ∧ Mv (B.O σ env) (B.O σ (back as es' env)) H H' ∧ ∀ a, B.O σ (back as es' env) a ↔ B.O σ env a := by
  obtain ⟨ow, cl, m⟩ := called_slots I hr hn pa (fun a h => .inl h) (fun a h => h) hk
  have eO : ∀ a, B.O σ (back as es' env) a ↔ B.O σ env a := fun a => ⟨fun w => w.elim .inl fun ⟨j, q⟩ => .inr ⟨j, (ow j a).1 q⟩, fun w => w.elim .inl fun ⟨j, q⟩ => .inr ⟨j, (ow j a).2 q⟩⟩
  have nArg : ∀ a, (∀ i, ¬ ownedAt σ env i a) → ¬ argOwn vs es a := fun a h w => by
    obtain ⟨j, _, q⟩ := argOwn_owned hr pa w
    exact h j q
  refine ⟨⟨by rw [back_length]; exact I.len, fun j t h => ?_, fun i j a h1 h2 => I.dist i j a ((ow i a).1 h1) ((ow j a).1 h2), fun a o h n => ?_, fun a h => I.dom a (hk.dom a h), fun i a h => I.new i a ((ow i a).1 h), fun a h => ⟨fun w => (I.o0 a h).1 (hk.dom a w), (I.o0 a h).2⟩, fun a o h => ?_, fun i a h => I.kpo i a ((ow i a).1 h), fun i a h => I.own0 i a ((ow i a).1 h), fun p hp => ?_, I.fix⟩, m.trans (Mv.less fun a => (eO a).1), eO⟩
  · obtain ⟨v, e, q⟩ := cl j t h
    exact ⟨v, e, q.mv (Mv.less fun a => (eO a).1) (fun a ea ho => .inr ⟨j, t, h, ho, ea ▸ e⟩) fun _ _ _ _ z => z⟩
  · refine hk.keep a o (I.keep a o h n) (nArg a fun i q => ?_)
    rcases I.new i a q with w | w
    · exact n _ w rfl
    · rw [w] at h; cases h
  · refine hk.keep a o (I.kept a o h) (nArg a fun i q => ?_)
    rw [I.kpo i a q] at h; cases h
  · obtain ⟨h1, h2, h3⟩ := I.par p hp
    exact ⟨(ow _ _).2 h1, h2, h3⟩
end
theorem ExnAt.mv {O O' : Addr → Prop} {H : Hp} {ca : Str → Addr} {x : Exn} {cls : Value} {dp : Option Addr} (h : ExnAt K O H ca x cls dp) (hl : ∀ a, O' a → O a) : ExnAt K O' H ca x cls dp := by
  obtain ⟨e, h⟩ := h
  refine ⟨e, ?_⟩
  cases q : x.dat with
  | nil => rw [q] at h; exact h
  | cons f fs =>
    rw [q] at h
    obtain ⟨d, vs, h1, h2, h3, h4⟩ := h
    exact ⟨d, vs, h1, ⟨h2.1, fun z => h2.2 (hl d z)⟩, h3, AtAll.mv (Mv.less hl) h4⟩
section
variable {X : Cx} {z : Z} {k : Nat} {f : Addr} {fd : FuncData} {ps : List Str} {x : Str} {p pos : Pos} {e : Expr} {es : List Expr}
theorem de_call {np' : List Nat} {fr : Bool} {F : FD} {g : En → R En (List PArg × En)} (G : FnG X.prog X.w X.K X.mg X.base k f fd ps (spD X.K z.ca np' fr F)) (hr : Room k X.A) (hgd : X.A.guards = some []) (hg : Gl X x) (hm : X.mg x = some (.ref f)) (hk : PySem.W.keepIn X.K (.ref f) = true) (hb : Binds X.K fd ps [])
    (tk : L2N.Takes X z.W) (ha : DC z X (e :: es) g) (hdb : (x == ("__debug__" : Str)) = false := by decide) (he : starEach (e :: es) X.env = (false, eval e X.env) :: starEach es X.env := by rfl) (hpl : (backTo pos (starEach es X.env)).any (·.1) = false := by rfl) :
    DE z X fr (.Call (.Name x p) (e :: es) [] pos) (fCallF ps.length np' F g) := by
  refine de_imp (pe_callG G hr hgd hg hm hk hb (fun σ => L2N.passAt tk σ) ha hdb he hpl) fun B env σ H Q I hp => ?_
  refine ⟨B, env, I, (R.post_bind hp).imp (fun p hp vs H1 I1 m1 pa => ?_) fun _ _ q => q⟩
  obtain ⟨as, e1⟩ := p
  dsimp only at hp I1 m1 pa
  split at hp
  · rename_i es hres
    split at hp
    · rename_i hc
      obtain ⟨hlen, hnd, hnp⟩ := hc
      refine ⟨by rw [pa.length]; exact hlen, es, B.O σ e1, args_ok I1 hres hnd pa hnp, ?_⟩
      cases hF : F es with
      | stuck => rw [hF] at hp; exact hp
      | ok q =>
        obtain ⟨d, es'⟩ := q
        rw [hF] at hp
        intro v H' hcall
        obtain ⟨hk1, hk2, hk3⟩ := hcall
        obtain ⟨I2, m2, eO⟩ := I1.called hres hnd pa hk1
        refine hp v H' I2 (m1.trans m2) (At.mv (Mv.less fun a => (eO a).1) hk2) fun hf ds ed => ?_
        obtain ⟨a, xs, e2, na, nO, ha, hx, hh⟩ := hk3 hf ds ed
        obtain ⟨_, cl, _⟩ := called_slots I1 hres hnd pa (fun b w => w.elim .inl fun w => .inr (w ▸ na)) (fun b w => .inl w) hh
        have less : ∀ b, plus (B.O σ (back as es' e1)) a b → plus (B.O σ e1) a b := fun b w => w.elim (fun w => .inl ((eO b).1 w)) .inr
        refine ⟨a, xs, e2, m1.dom a na, fun w => nO ((eO a).1 w), ha, AtAll.mv (Mv.less less) hx, fun j t ht => ?_⟩
        obtain ⟨u, e3, q⟩ := cl j t ht
        exact ⟨u, e3, q.mv (Mv.less less) (fun b eb ho => .inl (.inr ⟨j, t, ht, ho, eb ▸ e3⟩)) fun _ _ _ _ z => z⟩
      | err x es' =>
        rw [hF] at hp
        intro cls dp H' hk1 hx
        obtain ⟨I2, m2, eO⟩ := I1.called hres hnd pa hk1
        exact hp cls dp H' I2 (m1.trans m2) (hx.mv fun a => (eO a).1)
    · exact hp.elim
  · exact hp.elim
/-- within a comprehension's block nothing is let out -/
theorem takes_no : L2N.Takes X (fun _ _ _ _ => False) := fun u s' ⟨_, _, _, _, _, _, _, _, _, _, _, _, _, _, _, _, w⟩ => w.elim
end
def backP (n : Nat) (e : En) : List Sl := (e.take n).map fun o => o.getD (.im .none)
def runD (n : Nat) (g : SF) : FD := fun es => match g (es.map some ++ List.replicate (n - es.length) none) with
  | .ok (.rt d e) => .ok (d, backP es.length e)
  | .ok (.nx e) => .ok (.none, backP es.length e)
  | .err x e => .err x (backP es.length e)
  | _ => .stuck
theorem start_get {α : Type} {es : List α} {m i : Nat} {s : α} : (es.map some ++ List.replicate m none)[i]? = some (some s) ↔ es[i]? = some s := by
  by_cases h : i < es.length
  · rw [List.getElem?_append_left (by simpa using h), List.getElem?_map]
    cases es[i]? <;> simp
  · have e2 : es[i]? = none := List.getElem?_eq_none (by omega)
    rw [List.getElem?_append_right (by simpa using h), e2]
    constructor
    · intro q
      rw [List.getElem?_replicate] at q
      split at q
      · cases q
      · cases q
    · intro q; cases q
theorem backP_get {n i : Nat} {e : En} {s : Sl} (hi : i < n) (h : e[i]? = some (some s)) : (backP n e)[i]? = some s := by
  unfold backP
  rw [List.getElem?_map, List.getElem?_take_of_lt hi, h]
  rfl
def psOf (vs : List V) (es : List Sl) : List (Nat × Addr) := (List.range vs.length).filterMap fun i => match es[i]?, vs[i]? with
  | some s, some (V.ref a) => if s.own = true then some (i, a) else none
  | _, _ => none
theorem mem_psOf {vs : List V} {es : List Sl} {p : Nat × Addr} : p ∈ psOf vs es ↔ ∃ s, es[p.1]? = some s ∧ s.own = true ∧ vs[p.1]? = some (.ref p.2) := by
  unfold psOf
  rw [List.mem_filterMap]
  constructor
  · rintro ⟨i, _, h⟩
    split at h
    · rename_i s a h1 h2
      split at h
      · rename_i ho
        cases h
        exact ⟨s, h1, ho, h2⟩
      · cases h
    · cases h
  · rintro ⟨s, h1, h2, h3⟩
    exact ⟨p.1, List.mem_range.mpr (List.getElem?_eq_some_iff.mp h3).1, by rw [h1, h3]; simp [h2]⟩
section
variable {P : Program} {w : World} {mg : Str → Option Value} {base : Heap}
theorem sem_def {ca : Str → Addr} {np : List Nat} {fr : Bool} {T : Hp → (Addr → Prop) → V → Hp → D → Prop} {g : SF} {n : Nat} {vs : List V} {H : Hp} {Q : VK} {E : XK} {N : List Str} (hN : N.length = n) (hl : vs.length ≤ n) (hT0 : ∀ O H', T H O .non H' .none) (h : spDT K ca np fr T (runD n g) vs H Q E) :
    tS K ⟨ca, np, fun c d _ H => E c d H, T⟩ fr g { nx := fun _ H' => Q .non H', rt := Q } (start N vs) H := by
  obtain ⟨es, O, ao, hp⟩ := h
  have hlen := ao.len
  have ow : ∀ i a, ownedAt (start N vs) (es.map some ++ List.replicate (n - es.length) none) i a ↔ (i, a) ∈ psOf vs es := fun i a => by
    rw [mem_psOf]
    constructor
    · rintro ⟨s, h1, h2, h3⟩
      exact ⟨s, start_get.1 h1, h2, start_get.1 h3⟩
    · rintro ⟨s, h1, h2, h3⟩
      exact ⟨s, start_get.2 h1, h2, start_get.2 h3⟩
  have argps : ∀ a, argOwn vs es a ↔ ∃ p ∈ psOf vs es, p.2 = a := fun a => by
    constructor
    · rintro ⟨i, s, h1, h2, h3⟩
      exact ⟨(i, a), mem_psOf.2 ⟨s, h1, h2, h3⟩, rfl⟩
    · rintro ⟨p, hp, rfl⟩
      obtain ⟨s, h1, h2, h3⟩ := mem_psOf.1 hp
      exact ⟨p.1, s, h1, h2, h3⟩
  have argO : ∀ a, argOwn vs es a → O a ∧ ∃ o, H a = some o := fun a ⟨i, s, h1, h2, h3⟩ => by
    obtain ⟨v, e, q⟩ := ao.arg i s h1
    rw [h3] at e
    cases e
    obtain ⟨b, o, e, q1, q2⟩ := q.ref h2
    cases e
    exact ⟨q1, o, q2⟩
  let B : Bs := ⟨fun a => O a ∧ ¬ argOwn vs es a, H, psOf vs es, fun _ => none, []⟩
  have eOp : ∀ a, B.Op a ↔ O a := fun a => by
    constructor
    · rintro (h | h)
      · exact h.1
      · exact (argO a ((argps a).2 h)).1
    · intro h
      by_cases q : argOwn vs es a
      · exact .inr ((argps a).1 q)
      · exact .inl ⟨h, q⟩
  have eO : ∀ a, B.O (start N vs) (es.map some ++ List.replicate (n - es.length) none) a ↔ O a := fun a => by
    constructor
    · rintro (h | ⟨i, h⟩)
      · exact h.1
      · exact (argO a ((argps a).2 ⟨_, (ow i a).1 h, rfl⟩)).1
    · intro h
      by_cases q : argOwn vs es a
      · obtain ⟨p, hp, e⟩ := (argps a).1 q
        exact .inr ⟨p.1, (ow _ _).2 (by rw [← e]; exact hp)⟩
      · exact .inl ⟨h, q⟩
  have I : SR K np B (start N vs) H (es.map some ++ List.replicate (n - es.length) none) := by
    refine ⟨?_, fun i s h => ?_, fun i j a h1 h2 => ?_, fun a o h _ => h, fun a h => h, fun i a h => .inl ((ow i a).1 h), fun a h => ?_, (fun a o h => nomatch h), fun _ _ _ => rfl, fun i a h w => ?_, fun p hp => ?_, fun p hp => (by cases hp)⟩
    · unfold L2.start
      simp only [List.length_append, List.length_map, List.length_replicate]
      omega
    · obtain ⟨v, e, q⟩ := ao.arg i s (start_get.1 h)
      refine ⟨v, start_get.2 e, q.mv (Mv.less fun a => (eO a).1) (fun a ea ho => .inr ⟨i, s, h, ho, start_get.2 (ea ▸ e)⟩) fun _ _ _ _ z => z⟩
    · obtain ⟨s, q1, q2, q3⟩ := mem_psOf.1 ((ow i a).1 h1)
      obtain ⟨t, q4, q5, q6⟩ := mem_psOf.1 ((ow j a).1 h2)
      exact ao.dist i j a s t q1 q2 q3 q4 q5 q6
    · refine ⟨fun e => ao.od a e h.1, fun p hp e => h.2 ((argps a).2 ⟨p, hp, e⟩)⟩
    · exact w.2 ((argps a).2 ⟨_, (ow i a).1 h, rfl⟩)
    · obtain ⟨s, q1, q2, q3⟩ := mem_psOf.1 hp
      refine ⟨(ow _ _).2 hp, fun e => ?_, ao.np p.1 s q1 q2⟩
      obtain ⟨_, o, e2⟩ := argO p.2 ⟨p.1, s, q1, q2, q3⟩
      have e : H p.2 = none := e
      rw [e] at e2; cases e2
  have heapOk : ∀ {σ' : Sg} {H' : Hp} {e : En} {O' : Addr → Prop}, SR K np B σ' H' e → (∀ p ∈ psOf vs es, ∃ s, e[p.1]? = some (some s) ∧ s.own = true ∧ SlotR K O' H' (.ref p.2) s) → HeapOk K O O' H H' vs es (backP es.length e) := fun {σ' H' e O'} J hs =>
    ⟨fun a o h n => J.keep a o h fun p hp q => n ((argps a).2 ⟨p, hp, q⟩), J.dom, fun i s h ho => by
      obtain ⟨v, e1, q⟩ := ao.arg i s h
      obtain ⟨a, o, rfl, q1, q2⟩ := q.ref ho
      obtain ⟨s', h1, h2, h3⟩ := hs (i, a) (mem_psOf.2 ⟨s, h, ho, e1⟩)
      exact ⟨s', .ref a, backP_get (List.getElem?_eq_some_iff.mp h).1 h1, h2, e1, h3⟩⟩
  have parO : ∀ {σ' : Sg} {H' : Hp} {e : En}, SR K np B σ' H' e → ∀ p ∈ psOf vs es, ∃ s, e[p.1]? = some (some s) ∧ s.own = true ∧ SlotR K O H' (.ref p.2) s := fun {σ' H' e} J p hp => by
    obtain ⟨s, h1, h2, h3⟩ := J.parSlot J.slot p hp
    exact ⟨s, h1, h2, h3.mv (Mv.less fun a h => J.op a ((eOp a).2 h)) (fun a ea _ => by cases ea; exact (eOp _).1 (.inr ⟨p, hp, rfl⟩)) fun _ _ _ _ z => z⟩
  refine ⟨B, _, I, ?_⟩
  unfold runD at hp
  cases hg : g (es.map some ++ List.replicate (n - es.length) none) with
  | stuck => rw [hg] at hp; exact hp
  | err x e =>
    rw [hg] at hp
    exact fun cls dp σ' H' J m hx => hp cls dp H' (heapOk J (parO J)) (hx.mv fun a h => J.op a ((eOp a).2 h))
  | ok o =>
    rw [hg] at hp
    cases o with
    | nx e => exact fun σ' H' J m => hp .non H' ⟨heapOk J (parO J), .non, fun _ _ q => nomatch q⟩ (hT0 O H')
    | bk e => exact hp.elim
    | ct e => exact hp.elim
    | rt d e =>
      intro v σ' H' J m ro rt
      rw [show B.Op = O from funext fun a => propext (eOp a)] at rt
      refine hp v H' ⟨heapOk J (parO J), At.mv (Mv.less fun a h => (eOp a).2 h) ro.1, fun hf ds ed => ?_⟩ rt
      obtain ⟨a, xs, e1, na, nO, ha, hx, hpar⟩ := ro.2 hf ds ed
      have less : ∀ b, plus O a b → plus B.Op a b := fun b w => w.elim (fun w => .inl ((eOp b).2 w)) .inr
      refine ⟨a, xs, e1, na, fun w => nO ((eOp a).2 w), ha, AtAll.mv (Mv.less less) hx, heapOk J fun p hp' => ?_⟩
      obtain ⟨s, h1, h2, h3⟩ := hpar p hp'
      exact ⟨s, h1, h2, h3.mv (Mv.less less) (fun b eb _ => by cases eb; exact .inl ((eOp _).1 (.inr ⟨p, hp', rfl⟩))) fun _ _ _ _ z => z⟩
/-- THE RULE of a def -/
theorem fun_okT {T : Hp → (Addr → Prop) → V → Hp → D → Prop} {x qual : Str} {st : Stmt} {f : Addr} {fd : FuncData} {N ps : List Str} {k : Nat} {ca : Str → Addr} {np : List Nat} {fr : Bool} {g : SF} (F : Fun K x qual st f fd) (S : FnScope N ps (defScope st)) (hps : ps.length ≤ N.length) (hT0 : ∀ H O H', T H O .non H' .none)
    (hbody : ∀ (cdv : Value) (A : Around) (outer : List Env) (s : Shared) (H : Hp) (E : XK), Room k (A.deeper (envOfC qual (defScope st) s.heap.objs.size f cdv)) → A.guards = some [] →
      DSs ⟨ca, np, fun c d _ H => E c d H, T⟩ (cxOf (L2N.CX P w) P w K mg base N qual (defScope st) f cdv A outer s H E) fr (defBody st) g) :
    FnG P w K mg base (k + 1) f fd ps (spDT K ca np fr T (runD N.length g)) := by
  obtain ⟨oc, od, kV, doc, pm, an, cdv, ct, osl, rfl, lk, hcd⟩ := F.ex
  refine ⟨fun A outer s H args us vs Q E hr hgd e0 hb r hl hsp => ?_⟩
  have KX : K.In s.heap := e0.mod.kin.keeps fun b o e => (e0.bs b o e).1
  have lim : s.heap.NoLimit := e0.mod.nolimit.keeps fun b o e => (e0.bs b o e).1
  have hkind : ∀ y ∈ ps.zip us, (defScope st).names.lookup y.1 = some .local ∨ ((defScope st).names.lookup y.1 = some .cell ∧ ((cellsFrom (s.heap.objs.size + 1) (defScope st).names []).lookup y.1).isSome = true) := fun ⟨n, v⟩ hy => by
    rcases S.par n (List.of_mem_zip hy).1 with q | q
    · exact .inl q
    · exact .inr ⟨q, PySem.W.cellsFrom_some _ _ _ (.inl q)⟩
  refine codeAny_call_function hr.depth (KX _ _ lk) rfl S.co S.gen rfl (PySem.W.codeRec_of KX hcd) (hb _ _ _ _ ?_)
  refine wpAny_newFunctionEnv_cells S.kind hkind fun env he s1 x => ?_
  subst he
  refine ⟨lim.keeps x.toInCall.keep, codeAny_func ?_⟩
  have ht := hbody cdv A outer s H E (hr.deeper _) hgd
  have I : Inv (cxOf (L2N.CX P w) P w K mg base N qual (defScope st) f cdv A outer s H E) [] (start N vs) H s1 := inv_start S hr.hd e0 hl r x
  refine wpAny_mono (ht.run [] s1 (start N vs) H _ I (sem_def rfl (by rw [hl]; exact hps) (hT0 H) hsp)) (fun fl s' hs => ?_) fun e s' hs => hs
  have fin : ∀ {σ' : Sg} {H' : Hp} {v : V} {u : Value}, Inv (cxOf (L2N.CX P w) P w K mg base N qual (defScope st) f cdv A outer s H E) [] σ' H' s' → RelV v u → Q v H' → CE outer P w H s Q u s' :=
    fun {σ' H' v u} J rv q => ⟨v, H', J.os, J.bare, J.base, J.hok, rv, q⟩
  cases fl with
  | ret u =>
    obtain ⟨v, σ', H', J, rv, q⟩ := hs
    exact fin J rv q
  | next =>
    obtain ⟨σ', H', J, q⟩ := hs
    exact fin (v := V.non) (u := Value.none) J rfl q
  | brk =>
    obtain ⟨_, _, _, q⟩ := hs
    exact False.elim q
  | cont =>
    obtain ⟨_, _, _, q⟩ := hs
    exact False.elim q
theorem FnG.weak {f : Addr} {fd : FuncData} {ps : List Str} {k : Nat} {sp sp' : Sp} (F : FnG P w K mg base k f fd ps sp) (h : ∀ vs H Q E, sp' vs H Q E → sp vs H Q E) : FnG P w K mg base k f fd ps sp' :=
  ⟨fun A outer s H args us vs Q E hr hgd e0 hb r hl hsp => F.run A outer s H args us vs Q E hr hgd e0 hb r hl (h vs H Q E hsp)⟩
theorem spDT_of {ca : Str → Addr} {np : List Nat} {fr : Bool} {T : Hp → (Addr → Prop) → V → Hp → D → Prop} {F : FD} {vs : List V} {H : Hp} {Q : VK} {E : XK} (h : spD K ca np fr F vs H Q E) : spDT K ca np fr T F vs H Q E := by
  obtain ⟨es, O, ao, hp⟩ := h
  exact ⟨es, O, ao, hp.imp (fun p q v H' c _ => q v H' c) fun _ _ q => q⟩
theorem fun_okG {x qual : Str} {st : Stmt} {f : Addr} {fd : FuncData} {N ps : List Str} {k : Nat} {ca : Str → Addr} {np : List Nat} {fr : Bool} {g : SF} (F : Fun K x qual st f fd) (S : FnScope N ps (defScope st)) (hps : ps.length ≤ N.length)
    (hbody : ∀ (cdv : Value) (A : Around) (outer : List Env) (s : Shared) (H : Hp) (E : XK), Room k (A.deeper (envOfC qual (defScope st) s.heap.objs.size f cdv)) → A.guards = some [] →
      DSs ⟨ca, np, fun c d _ H => E c d H, fun _ _ _ _ _ => True⟩ (cxOf (L2N.CX P w) P w K mg base N qual (defScope st) f cdv A outer s H E) fr (defBody st) g) :
    FnG P w K mg base (k + 1) f fd ps (spD K ca np fr (runD N.length g)) :=
  (fun_okT (T := fun _ _ _ _ _ => True) F S hps (fun _ _ _ => trivial) hbody).weak fun _ _ _ _ h => spDT_of h
end
end DL
namespace DL
open PySem PySem.Spec PyProof.Rows L2
variable {K : PySem.W.Frag}
section
variable {X : Cx} {z : Z}
theorem dts_nil : PTs X [] (tT X.K z fun env => .ok (true, env)) := ⟨fun pins s σ H Q I ⟨B, env, J, p⟩ => pts_nil.run pins s σ H Q I (p H J .refl)⟩
theorem dts_one {c : Expr} {f : En → R En (Bool × En)} (h : DT z X c f) : PTs X [c] (tT X.K z f) := pts_one h
end
def Lk (K : PySem.W.Frag) (f : Addr) (fd : FuncData) : Prop := ∃ (oc : Value) (od : Option Addr) (osl : Array (Option Value)), K.lookup f = some ⟨oc, od, .func fd, osl⟩
theorem Lk.same {K : PySem.W.Frag} {f : Addr} {fd fd' : FuncData} (h : Lk K f fd) (h' : Lk K f fd') : fd = fd' := by
  obtain ⟨_, _, _, e⟩ := h
  obtain ⟨_, _, _, e'⟩ := h'
  rw [e] at e'
  cases e'
  rfl
theorem lk_of {K : PySem.W.Frag} {x q : Str} {st : Stmt} {f : Addr} {fd : FuncData} (h : Fun K x q st f fd) : Lk K f fd := by
  obtain ⟨oc, od, kV, doc, pm, an, cdv, ct, osl, e, lk, _⟩ := h.ex
  exact ⟨oc, od, osl, lk⟩
def Has (P : Program) (w : World) (K : PySem.W.Frag) (mg : Str → Option Value) (base : Heap) (ca : Str → Addr) (x : Str) (k : Nat) (ps : List Str) (np : List Nat) (fr : Bool) (F : FD) : Prop :=
  ∃ (f : Addr) (fd : FuncData), mg x = some (.ref f) ∧ PySem.W.keepIn K (.ref f) = true ∧ L2.Binds K fd ps [] ∧ FnG P w K mg base k f fd ps (spD K ca np fr F) ∧ Lk K f fd
/-- a def that stands in the text -/
def Stands (K : PySem.W.Frag) (mg : Str → Option Value) (x : Str) (st : Stmt) (ps : List Str) : Prop :=
  ∃ (f : Addr) (fd : FuncData), mg x = some (.ref f) ∧ Fun K x x st f fd ∧ L2.Binds K fd ps []
section
variable {P : Program} {w : World} {mg : Str → Option Value} {base : Heap} {ca : Str → Addr}
theorem Stands.has {x : Str} {st : Stmt} {N ps : List Str} {k : Nat} {np : List Nat} {fr : Bool} {g : SF} {n : Nat} (S : Stands K mg x st ps) (sc : FnScope N ps (defScope st)) (hps : ps.length ≤ N.length) (hn : N.length = n)
    (hbody : ∀ (f : Addr) (cdv : Value) (A : Around) (outer : List Env) (s : Shared) (H : Hp) (E : XK), Room k (A.deeper (envOfC x (defScope st) s.heap.objs.size f cdv)) → A.guards = some [] →
      DSs ⟨ca, np, fun c d _ H => E c d H, fun _ _ _ _ _ => True⟩ (cxOf (L2N.CX P w) P w K mg base N x (defScope st) f cdv A outer s H E) fr (defBody st) g) :
    Has P w K mg base ca x (k + 1) ps np fr (runD n g) := by
  obtain ⟨f, fd, h1, h2, h3⟩ := S
  subst hn
  exact ⟨f, fd, h1, h2.kp, h3, fun_okG h2 sc hps fun cdv A outer s H E => hbody f cdv A outer s H E, lk_of h2⟩
end
section
variable {X : Cx} {z : Z} {k j n : Nat} {ps : List Str} {x : Str} {p pos : Pos} {e : Expr} {es : List Expr} {np' : List Nat} {fr : Bool} {F : FD} {g : En → R En (List PArg × En)}
theorem de_callH (h : Has X.prog X.w X.K X.mg X.base z.ca x j ps np' fr F) (hr : Room k X.A) (hj : j ≤ k) (hgd : X.A.guards = some []) (hg : Gl X x) (hn : ps.length = n)
    (tk : L2N.Takes X z.W) (ha : DC z X (e :: es) g) (hdb : (x == ("__debug__" : Str)) = false := by decide) (he : starEach (e :: es) X.env = (false, eval e X.env) :: starEach es X.env := by rfl) (hpl : (backTo pos (starEach es X.env)).any (·.1) = false := by rfl) :
    DE z X fr (.Call (.Name x p) (e :: es) [] pos) (fCallF n np' F g) := by
  obtain ⟨f, fd, h1, h2, h3, h4, _⟩ := h
  subst hn
  exact de_call (h4.mono hj) hr hgd hg h1 h2 h3 tk ha hdb he hpl
end
theorem law_callG {P : Program} {w : World} {mg mb : Str → Option Value} {k : Nat} {fa a : Addr} {fd : FuncData} {x : Str} {sp : Sp} {s₁ : Shared} {vs : List Value} {ns : List Int}
    (KX : K.In s₁.heap) (hns : s₁.heap.Ns mainGlobals mg) (hb : s₁.heap.Ns builtinsNs mb) (hbb : ∀ x : Str, x ≠ "__name__" → mb x = bootBuiltins x) (hlim : s₁.heap.NoLimit) (hg : s₁.gens = #[])
    (ha : s₁.heap.get? a = some { cls := .type "list", data := .seq vs.toArray }) (hi : IntsAre vs ns) (hl : ns.length ≤ sizeLine) (hr : Room k callerA)
    (F : ∀ base : Heap, K.In base → base.Ns mainGlobals mg → FnG P w K mg base k fa fd [x] sp) (hbind : L2.Binds K fd [x] [])
    (hsp : ∀ H : Hp, Only H → SqL K H a (ns.map V.int) → sp [.ref a] H (fun v _ => v = .bl true) fun _ _ _ => False)
    (hCX : ∀ H e s', L2N.CX P w [] H s₁ (fun _ _ _ => False) e s' → False) :
    codeAny (model P w) callerA (.call (.ref fa) ⟨[.ref a], []⟩) (fun r s' => r = .ok (.ret (.bool true)) ∧ OldK s₁.heap s'.heap ∧ s'.os = s₁.os ∧ AllBare s'.gens) s₁ := by
  have rv := vals_ints hi
  have lenV := hi.length
  have core : ∀ H : Hp, Only H → SqL K H a (ns.map V.int) → HOk P w H s₁.heap → (∀ b, H b ≠ none → b = a) → (H a ≠ none → K.lookup a = none) →
      codeAny (model P w) callerA (.call (.ref fa) ⟨[.ref a], []⟩) (fun r s' => r = .ok (.ret (.bool true)) ∧ OldK s₁.heap s'.heap ∧ s'.os = s₁.os ∧ AllBare s'.gens) s₁ := by
    intro H hO hS hok hA hK
    have base_of : ∀ {b : Addr} {o : Obj}, s₁.heap.get? b = some o → H b = none → (hidT s₁.heap H).get? b = some o := fun e n => hidT_get e n
    have noA : ∀ {b : Addr} {o : Obj} {es : Array DictEntry} {ep : Nat}, s₁.heap.get? b = some o → o.data = .dict es ep → H b = none := fun {b o es ep} e d => by
      cases q : H b with
      | none => rfl
      | some u =>
        have e' : b = a := hA b (by rw [q]; simp)
        subst e'
        rw [ha] at e; cases e
        have d' : Data.seq vs.toArray _ = Data.dict es ep := d
        cases d'
    have nsK : ∀ {b : Addr} {m : Str → Option Value}, s₁.heap.Ns b m → (hidT s₁.heap H).Ns b m := fun {b m} ⟨o, es, ep, e, d, r⟩ => ⟨o, es, ep, base_of e (noA e d), d, r⟩
    have hKb : K.In (hidT s₁.heap H) := fun b o e => base_of (KX b o e) (by
      cases q : H b with
      | none => rfl
      | some u =>
        have e' : b = a := hA b (by rw [q]; simp)
        subst e'
        rw [hK (by rw [q]; simp)] at e; cases e)
    have hM : Mod K mg (hidT s₁.heap H) := ⟨hKb, nsK hns, ⟨mb, nsK hb, hbb⟩, let ⟨mc, h1, h2⟩ := hlim; ⟨mc, nsK h1, h2⟩⟩
    have e0 : Env0 P w K mg (hidT s₁.heap H) callerA [] s₁ H := ⟨rfl, hM, fun b o e => of_hidT e, Nat.le_of_eq (hidT_size _ _), trivial, fun b hb => absurd (show b ∈ ([] : List Addr) from hb) (by simp), hok, .of_eq hg⟩
    refine codeAny_mono ((F _ hKb (nsK hns)).run callerA [] s₁ H ⟨[.ref a], []⟩ [.ref a] [.ref a] _ _ hr rfl e0 (hbind s₁ [.ref a] KX rfl) (.cons rfl .nil) rfl (hsp H hO hS)) fun r s' h => ?_
    cases r with
    | error e => exact (hCX H e s' h).elim
    | ok fl =>
      cases fl with
      | next => exact False.elim h
      | brk => exact False.elim h
      | cont => exact False.elim h
      | ret u =>
        obtain ⟨v, H', os, bare, un, hok', r', q⟩ := h
        have q' : v = .bl true := q
        subst q'
        obtain rfl : u = Value.bool true := r'
        refine ⟨rfl, OldK.of_keep fun b o e => ?_, os, bare⟩
        cases q : H b with
        | none => exact un.keep b o e q (by intro z; exact absurd (show b ∈ ([] : List Addr) from z) (by simp)) (by simp)
        | some u =>
          rcases hO b with z | ⟨ob, xs, z⟩
          · rw [q] at z; cases z
          · have z2 := un.frzs b ob _ z
            obtain ⟨e1, _⟩ := hok b _ z
            obtain ⟨e2, _⟩ := hok' b _ z2
            rw [e] at e1; cases e1
            exact e2
  cases hk : K.lookup a with
  | some o =>
    have e := KX a o hk
    rw [ha] at e
    cases e
    refine core (fun _ => none) (fun _ => .inl rfl) (.inr ⟨_, vs.toArray, _, hk, rfl, rfl, rfl, by rw [List.size_toArray, lenV]; exact hl, by simpa using rv⟩) (fun b u z => by have z' : (none : Option HO) = some u := z; cases z') (fun b z => absurd rfl z) fun z => absurd rfl z
  | none =>
    refine core (fun b => if b = a then some (.frz { cls := .type "list", data := .seq vs.toArray } (.lst (ns.map V.int))) else none) (fun b => ?_) (.inl (.inr ⟨{ cls := .type "list", data := .seq vs.toArray }, if_pos rfl⟩)) (fun b u z => ?_) (fun b z => ?_) fun _ => hk
    · by_cases hb : b = a
      · exact .inr ⟨_, _, if_pos hb⟩
      · exact .inl (if_neg hb)
    · by_cases hb : b = a
      · have z' := (if_pos hb).symm.trans z
        cases z'
        subst hb
        exact ⟨ha, by rw [List.length_map]; exact hl, vs, _, rv, ha⟩
      · have z' := (if_neg hb).symm.trans z
        cases z'
    · by_cases hb : b = a
      · exact hb
      · exact absurd (if_neg hb) z
theorem walk_ofG {l : PySem.W.OpenLaw} {n k m : Nat} {q : Program} {loose : List Str} {XP : (Str → Option Value) → Heap → Prop} {YP : World → Heap → Prop} {d : DefRec} {K : Params → PySem.W.Frag} {x : Str} {g : SF} {fr : Bool}
    (hn : l.most = some n) (hn2 : n ≤ sizeLine) (hdf : d.params.defaults = []) (hr : Room k callerA)
    (hY : ∀ (w : World) (h : Heap), YP w h → (K w.params).In h)
    (F : ∀ (w : World) (mg : Str → Option Value) (fa : Addr) (h : Heap), (K w.params).In h → h.Ns mainGlobals mg → mg d.name = some (.ref fa) →
      ∃ (fd : FuncData) (ca : Str → Addr), L2.Binds (K w.params) fd [x] [] ∧
        ∀ base : Heap, (K w.params).In base → base.Ns mainGlobals mg → FnG l.prog w (K w.params) mg base k fa fd [x] (spD (K w.params) ca [] fr (runD m g)))
    (hlaw : ∀ ns : List Int, ns.length ≤ n → ∃ es', runD m g [.im (.list (ns.map .int))] = .ok (.bool true, es')) :
    PySem.W.WalkO q loose XP YP l.row.toRowW d [] (fun f vs => PySem.call f vs) := by
  refine Att.attach_call hn hdf fun w s₀ s₁ mg mb fa o pm cd doc a vs ns G Y ho hd hcd hmg hobj hints hlen hg => ?_
  have KX := hY w _ Y
  obtain ⟨fd, ca, hb, hF⟩ := F w mg fa _ KX G.T.g hmg
  refine law_callG KX G.T.g G.T.b G.T.builtins G.T.nolimit hg hobj hints (Nat.le_trans hlen hn2) hr hF hb (fun H hO hS => ?_) fun H e s' h => ?_
  · refine ⟨[.im (.list (ns.map .int))], fun _ => False, ⟨rfl, fun _ _ h => h, fun i s h => ?_, fun i j a s t h1 h2 => ?_, fun i s h1 h2 => ?_⟩, ?_⟩
    · cases i with
      | zero =>
        have e : Sl.im (.list (ns.map .int)) = s := by simpa using h
        subst e
        exact ⟨_, rfl, .lst ⟨hS, fun z => z.elim⟩ (.of_ints ns)⟩
      | succ i => simp at h
    · cases i with
      | zero => cases h1; cases h2
      | succ i => simp at h1
    · cases i with
      | zero => cases h1; cases h2
      | succ i => simp at h1
    · obtain ⟨es', e⟩ := hlaw ns hlen
      rw [e]
      intro v H' hc
      obtain ⟨_, ha, _⟩ := hc
      cases ha
      rfl
  · obtain ⟨_, _, _, _, _, _, _, _, _, _, _, _, hE⟩ := h
    exact hE
theorem has_fit {P : Program} {w : World} {K : PySem.W.Frag} {mg : Str → Option Value} {x : Str} {st : Stmt} {ps : List Str} {k : Nat} {np : List Nat} {fr : Bool} {F : FD} {fa : Addr} {ca : Str → Addr} (S : Stands K mg x st ps)
    (H : ∀ base : Heap, K.In base → base.Ns mainGlobals mg → Has P w K mg base ca x k ps np fr F) (hmg : mg x = some (.ref fa)) :
    ∃ (fd : FuncData) (ca' : Str → Addr), L2.Binds K fd ps [] ∧ ∀ base : Heap, K.In base → base.Ns mainGlobals mg → FnG P w K mg base k fa fd ps (spD K ca' np fr F) := by
  obtain ⟨fl, fdl, e1, e2, e3⟩ := S
  have e4 : fl = fa := by have := e1.symm.trans hmg; cases this; rfl
  subst e4
  refine ⟨fdl, ca, e3, fun base hb1 hb2 => ?_⟩
  obtain ⟨f2, fd2, q1, q2, q3, q4, q5⟩ := H base hb1 hb2
  have e5 : f2 = fl := by have := q1.symm.trans e1; cases this; rfl
  subst e5
  have e6 := q5.same (lk_of e2)
  subst e6
  exact q4
abbrev FrX {K : PySem.W.Frag} {h : PySem.Heap} (_ : K.In h) : PySem.W.Frag := K
end DL
namespace DL
open PySem PySem.Spec PyProof.Rows L2
variable {K : PySem.W.Frag}
section
variable {X : Cx} {z : Z} {e : Expr} {es : List Expr}
theorem u65 {k : Nat} {A : Around} (r : Room k A) : A.units + 65 < cLine := by have := r.un; omega
/-- own list (left) compared -/
def fOpL (i : Nat) (h : D → D → Option D) (g : EF) : EF := fun env => match env[i]? with
  | some (some (.ow _)) => (g env).bind fun q => match q.2[i]? with
    | some (some (.ow ds)) => (ofO (h (.list ds) q.1)).bind fun r => .ok (r, q.2)
    | _ => .stuck
  | _ => .stuck
def fOpR (i : Nat) (h : D → D → Option D) (f : EF) : EF := fun env => (f env).bind fun q => match q.2[i]? with
    | some (some (.ow ds)) => (ofO (h q.1 (.list ds))).bind fun r => .ok (r, q.2)
    | _ => .stuck
theorem EP1.bool {B : Bs} {σ : Sg} {H H2 : Hp} {env e2 : En} {Q : VK} {b : Bool} {fr : Bool} (h : EP1 K z fr B σ H env Q (.bool b, e2)) (I : SR K z.np B σ H2 e2) (m : Mv (B.O σ env) (B.O σ e2) H H2) : Q (.bl b) H2 :=
  EP1.give h I m (.flat (.bl _) fun _ q => nomatch q)
section
variable {a b : Expr} {pos : Pos} {i : Nat} {fb fa : Bool} {g f : EF}
/-- repr(own list) -/
def fReprO (i : Nat) : EF := fun env => match env[i]? with
  | some (some (.ow ds)) => (ofO (reprD [.list ds])).bind fun r => .ok (r, env)
  | _ => .stuck
/-- isinstance(own list, T) -/
def fIsiO (T : String) (i : Nat) : EF := fun env => match env[i]? with
  | some (some (.ow _)) => (ofO (isTy T (.list []))).bind fun r => .ok (r, env)
  | _ => .stuck
end
def caOf (mg : Str → Option Value) (x : Str) : Addr := match mg x with
  | some (.ref a) => a
  | _ => 0
theorem caOf_eq {mg : Str → Option Value} {x : Str} {a : Addr} (h : mg x = some (.ref a)) : caOf mg x = a := by unfold caOf; rw [h]
theorem stands_of {h : Heap} {mg : Str → Option Value} {x : Str} {st : Stmt} {f : Addr} {od an : Option Addr} {sl : Array (Option Value)} {oc kV dc pm cd ct : Value} {ps : List Str} (KX : K.In h) (G : h.Ns mainGlobals mg)
    (a : PySem.W.nsIn K mainGlobals x = some (some (.ref f))) (l : K.lookup f = some ⟨oc, od, .func (PySem.W.fnOf x x (defArgs st) (defBody st) (defScope st) .none kV dc pm an cd ct), sl⟩) (c : PySem.W.codeIn K cd x = true) (k : PySem.W.keepIn K (.ref f) = true)
    (b : ∀ (kV doc pm : Value) (an : Option Addr) (cdv ct : Value) (us : List Value), us.length = ps.length → bindArgs (PySem.W.fnOf x x (defArgs st) (defBody st) (defScope st) .none kV doc pm an cdv ct) ⟨us, []⟩ = pure (ps.zip us)) : Stands K mg x st ps :=
  ⟨f, _, PySem.W.mg_of KX G a, fun_mk l c k, (fun_mk l c k).binds b⟩
/-- an own exception class over another one, without methods of its own -/
structure ExF (K : PySem.W.Frag) (mg : Str → Option Value) (x : Str) (C : Addr) : Prop where
  g : mg x = some (.ref C)
  k : PySem.W.keepIn K (.ref C) = true
  b : PySem.W.subIn K (.ref C) (.type "BaseException") = some true
  t : PySem.W.typeIn K (.ref C) = some (.type "type")
  x : PySem.W.excIn K C [.type "ValueError", .type "Exception", .type "BaseException", .type "object"] "ValueError.__new__" = true
theorem exf_of {h : Heap} {mg : Str → Option Value} {x : Str} {C : Addr} (KX : K.In h) (G : h.Ns mainGlobals mg) (a : PySem.W.nsIn K mainGlobals x = some (some (.ref C))) (k : PySem.W.keepIn K (.ref C) = true)
    (b : PySem.W.subIn K (.ref C) (.type "BaseException") = some true) (t : PySem.W.typeIn K (.ref C) = some (.type "type")) (x' : PySem.W.excIn K C [.type "ValueError", .type "Exception", .type "BaseException", .type "object"] "ValueError.__new__" = true) : ExF K mg x C :=
  ⟨PySem.W.mg_of KX G a, k, b, t, x'⟩
theorem ds_raiseF {x m : Str} {C : Addr} {j : Nat} {p p2 pos pos' : Pos} {fr : Bool} (hc : X.calm = true) (tk : L2N.Takes X z.W) (F : ExF X.K X.mg x C) (hg : Gl X x) (hC : z.ca = caOf X.mg) (hdb : (x == ("__debug__" : Str)) = false := by decide) :
    DS z X fr (.Raise (some (.Call (.Name x p) [.Constant (.str m) j p2] [] pos)) none pos') (sRaise x) :=
  ds_raise hc tk (L2N.pmk_own PySem.F.excBase_ValueError F.x F.g F.k (raises_own F.b F.t) hg hdb) (by rw [hC]; exact caOf_eq F.g)
theorem ds_par {fr : Bool} {i j : Nat} {x y : Str} {a b : Expr} {g : En → R En (List D × En)} {px py pt pos : Pos} {kt k2 pt2} (hc : X.calm = true) (hN : X.N.Nodup) (hi : X.N[i]? = some x) (hj : X.N[j]? = some y) (hij : i ≠ j)
    (hx : X.env.scope.names.lookup x = some .local) (hy : X.env.scope.names.lookup y = some .local) (ha : DA z X [a, b] g) (hin : i ∉ z.np) (hjn : j ∉ z.np)
    (hw : swappedStores [.Tuple [.Name x px, .Name y py] kt pt] (.Tuple [a, b] k2 pt2) X.env = pure (some [x, y]) := by rfl)
    (hs : swapsWithSole [.Tuple [.Name x px, .Name y py] kt pt] (.Tuple [a, b] k2 pt2) pos.line X.env = pure false := by rfl) :
    DS z X fr (.Assign [.Tuple [.Name x px, .Name y py] kt pt] (.Tuple [a, b] k2 pt2) pos) (sPar i j g) :=
  ds_imp (ps_par hc hN hi hj hij hx hy ha hw hs) fun B env σ H Dd I p => sem_par hin hjn I p
/-- a, b, c = x, y, z -/
def sPar3 (i j l : Nat) (g : En → R En (List D × En)) : SF := fun env => (g env).bind fun p => match p.1 with
  | [d, e, f] => .ok (.nx (((p.2.set i (some (.im d))).set j (some (.im e))).set l (some (.im f))))
  | _ => .stuck
end
end DL
namespace DL
open PySem PySem.Spec PyProof.Rows L2
section
variable {X : Cx} {z : Z} {e : Expr} {es : List Expr} {pos : Pos} {f : EF} {g : En → R En (List D × En)} {fr : Bool}
def fStar (f : EF) (g : En → R En (List D × En)) : En → R En (List D × En) := fun env => (f env).bind fun p => (ofO (itemsD p.1)).bind fun ds => (g p.2).bind fun q => .ok (ds ++ q.1, q.2)
theorem da_star (ha : DE z X fr e f) (hr : DA z X es g) (hs : starEach (.Starred e pos :: es) X.env = (true, eval e X.env) :: starEach es X.env := by rfl) : DA z X (.Starred e pos :: es) (fStar f g) :=
  da_imp (StX.pa_star ha hr hs) fun B env σ H Q I hp => ⟨B, env, I, (R.post_bind hp).imp (fun p hp v H1 I1 m1 a1 _ => by
    obtain ⟨d, e1⟩ := p
    obtain ⟨ds, hd, hp⟩ := ofO_post (R.post_bind hp)
    have go : ∀ (xs : List V), AtAll X.K (B.O σ e1) H1 xs ds → tA X.K z g σ H1 fun ys H2 => Q (xs ++ ys) H2 := fun xs r =>
      ⟨B, e1, I1, (R.post_bind hp).imp (fun q hq vs H2 I2 m2 a2 => hq (xs ++ vs) H2 I2 (m1.trans m2) ((AtAll.mv m2 r).append a2)) fun _ _ q => q.step m1⟩
    cases a1 with
    | lst l r => cases hd; exact ⟨_, _, rfl, .inr l.1, go _ r⟩
    | tup l r => cases hd; exact ⟨_, _, rfl, .inl l.1, go _ r⟩
    | _ => cases hd) fun _ _ q => q⟩
end
end DL
namespace DL
open PySem PySem.Spec PyProof.Rows L2
variable {prog : Program} {w : World} {A : Around} {s : Shared} {E : Value → Shared → Prop}
section
variable {X : Cx} {z : Z}
theorem AtAll.back {K : PySem.W.Frag} {O : Addr → Prop} {H : Hp} {vs : List V} {ds : List D} (h : AtAll K O H vs ds) : AtAll K O H vs.reverse ds.reverse := by
  induction vs generalizing ds with
  | nil => cases h; exact .nil
  | cons v vs ih =>
    cases h with
    | cons a r =>
      rw [List.reverse_cons, List.reverse_cons]
      exact (ih r).append (.cons a .nil)
end
end DL
namespace DL
open PySem PySem.Spec PyProof.Rows L2
variable {K : PySem.W.Frag}
def Sl.lent : Sl → Sl
  | .ow ds => .im (.list ds)
  | s => s
def lentE (env : En) : En := env.map (Option.map Sl.lent)
def noDk (env : En) : Bool := env.all fun o => match o with | some (.dk _) => false | some (.db _) => false | _ => true
theorem SR.lend {np : List Nat} {B : Bs} {σ : Sg} {H : Hp} {env : En} (I : SR K np B σ H env) (hd : noDk env = true) : SR K np ⟨B.O0, H, [], H, B.fx⟩ σ H (lentE env) := by
  have no : ∀ i a, ¬ ownedAt σ (lentE env) i a := fun i a ⟨s, h1, h2, _⟩ => by
    unfold lentE at h1
    rw [List.getElem?_map, Option.map_eq_some_iff] at h1
    obtain ⟨o, h3, h4⟩ := h1
    cases o with
    | none => cases h4
    | some t =>
      cases h4
      cases t with
      | im d => cases h2
      | ow ds => cases h2
      | dk kvs =>
        have := List.all_eq_true.mp hd _ (List.mem_of_getElem? h3)
        cases this
      | db kvs =>
        have := List.all_eq_true.mp hd _ (List.mem_of_getElem? h3)
        cases this
  have sub : ∀ a, Bs.O ⟨B.O0, H, [], H, B.fx⟩ σ (lentE env) a → B.O0 a := fun a z => z.elim id fun ⟨i, q⟩ => absurd q (no i a)
  refine ⟨by simpa [lentE] using I.len, fun i s hs => ?_, fun i j a h => absurd h (no i a), fun a o h _ => h, fun a h => h, fun i a h => absurd h (no i a), fun a h => ⟨(I.o0 a h).1, fun p hp => by cases hp⟩, fun a o h => h, fun i a h => absurd h (no i a), fun i a h => absurd h (no i a), (fun p hp => by cases hp), I.fix⟩
  unfold lentE at hs
  rw [List.getElem?_map, Option.map_eq_some_iff] at hs
  obtain ⟨o, h3, h4⟩ := hs
  cases o with
  | none => cases h4
  | some t =>
    cases h4
    obtain ⟨v, e, q⟩ := I.slot i t h3
    refine ⟨v, e, ?_⟩
    have m : Mv (B.O σ env) (Bs.O ⟨B.O0, H, [], H, B.fx⟩ σ (lentE env)) H H := Mv.less fun a z => .inl (sub a z)
    cases t with
    | im d => exact At.mv m q
    | ow ds =>
      obtain ⟨a, xs, rfl, _, h5, h6⟩ := q
      have na : ¬ B.O0 a := I.own0 i a ⟨_, h3, rfl, e⟩
      exact .lst ⟨.inl (.inl h5), fun z => absurd (sub a z) na⟩ (AtAll.mv m h6)
    | dk kvs =>
      have := List.all_eq_true.mp hd _ (List.mem_of_getElem? h3)
      cases this
    | db kvs =>
      have := List.all_eq_true.mp hd _ (List.mem_of_getElem? h3)
      cases this
section
variable {X : Cx} {e : Expr} {z : Z}
def tLend (t : En → R En (Bool × En)) : En → R En (Bool × En) := fun env => if noDk env = true then (match t (lentE env) with
  | .ok p => .ok (p.1, env)
  | _ => .stuck) else .stuck
def flatD : D → Bool
  | .list _ => false
  | .tuple _ => false
  | .dict _ => false
  | _ => true
def fLend (f : EF) : EF := fun env => if noDk env = true then (match f (lentE env) with
  | .ok p => if flatD p.1 = true then .ok (p.1, env) else .stuck
  | _ => .stuck) else .stuck
theorem dt_lend {t : En → R En (Bool × En)} (h : DT z X e t) : DT z X e (tLend t) := dt_imp h fun B env σ H Q I hp => by
  unfold tLend at hp
  by_cases hd : noDk env = true
  · rw [if_pos hd] at hp
    refine ⟨_, _, I.lend hd, ?_⟩
    revert hp
    cases t (lentE env) with
    | stuck => exact fun q => q
    | err x s => exact fun q => q.elim
    | ok p => exact fun q H' I' m => q H' (I.ex fun a o h => I'.kept a o h) (Mv.ex fun a o h => I'.kept a o h)
  · rw [if_neg hd] at hp
    exact hp.elim
theorem At.flatD {O O' : Addr → Prop} {H : Hp} {v : V} {d : D} (h : At K O H v d) (hf : flatD d = true) : At K O' H v d := by
  cases h with
  | non => exact .non
  | bl b => exact .bl b
  | int i => exact .int i
  | str x => exact .str x
  | lst _ _ => cases hf
  | tup _ _ => cases hf
  | exc _ _ _ => cases hf
  | excP _ _ _ _ _ => cases hf
  | sti _ _ _ _ _ _ _ => cases hf
end
end DL
namespace DL
open PySem PySem.Spec PyProof.Rows L2
variable {K : PySem.W.Frag}
/-- all of the package's errors stand in the written part -/
structure ExA (K : PySem.W.Frag) (mg : Str → Option Value) : Prop where
  i : ∀ n : Str, n ∈ exNames → ExI K n
  g : ∀ n : Str, n ∈ exNames → mg n = some (.ref (caK K n))
  o : ∀ n : Str, n ∈ exNames → PySem.W.kitOne K (.type "NoneType") (.ref (caK K n)) = some false
  m : ∀ n : Str, n ∈ exNames → PySem.W.exmOne K (.ref (caK K n)) (.ref (caK K n)) = some true
  f : ∀ n : Str, n ∈ exNames → PySem.W.findIn K (.ref (caK K n)) "bar" = some none ∧ PySem.W.findIn K (.ref (caK K n)) "line" = some none
section
variable {np : List Nat} {B : Bs} {σ : Sg} {H : Hp} {env : En}
/-- a name goes -/
theorem SR.drop (I : SR K np B σ H env) {i : Nat} {x : Option V} (hi : i ∉ np) : SR K np B (σ.set i x) H (env.set i none) ∧ Mv (B.O σ env) (B.O (σ.set i x) (env.set i none)) H H := by
  have ow : ∀ j a, ownedAt (σ.set i x) (env.set i none) j a → j ≠ i ∧ ownedAt σ env j a := fun j a ⟨s, h1, h2, h3⟩ => by
    rcases getElem?_set_some h1 with ⟨e, e2⟩ | ⟨e, h1⟩
    · cases e2
    · rw [List.getElem?_set_ne (Ne.symm e)] at h3
      exact ⟨e, s, h1, h2, h3⟩
  have wo : ∀ j a, j ≠ i → ownedAt σ env j a → ownedAt (σ.set i x) (env.set i none) j a := fun j a n ⟨s, h1, h2, h3⟩ =>
    ⟨s, by rw [List.getElem?_set_ne (Ne.symm n)]; exact h1, h2, by rw [List.getElem?_set_ne (Ne.symm n)]; exact h3⟩
  have m : Mv (B.O σ env) (B.O (σ.set i x) (env.set i none)) H H := Mv.less fun a z => z.elim .inl fun ⟨j, q⟩ => .inr ⟨j, (ow j a q).2⟩
  refine ⟨⟨by simpa using I.len, fun j s hs => ?_, fun j k a h1 h2 => I.dist j k a (ow j a h1).2 (ow k a h2).2, I.keep, I.dom, fun j a h => I.new j a (ow j a h).2, I.o0, I.kept, fun j a h => I.kpo j a (ow j a h).2, fun j a h => I.own0 j a (ow j a h).2, fun p hp => ?_, I.fixSet hi⟩, m⟩
  · rcases getElem?_set_some hs with ⟨_, e2⟩ | ⟨e, h1⟩
    · cases e2
    · obtain ⟨u, e1, q⟩ := I.slot j s h1
      exact ⟨u, by rw [List.getElem?_set_ne (Ne.symm e)]; exact e1, q.mv m (fun a ea ho => .inr ⟨j, wo j a e ⟨s, h1, ho, ea ▸ e1⟩⟩) fun _ _ _ _ z => z⟩
  · obtain ⟨h1, h2, h3⟩ := I.par p hp
    exact ⟨wo _ _ (fun z => hi (z ▸ h3)) h1, h2, h3⟩
end
section
variable {X : Cx} {z : Z} {fr : Bool} {e : Expr}
/-- an error as data -/
def excDP (x : Exn) : D := .dict ((.str x.cls, .none) :: x.dat.map fun p => (.str p.1, p.2))
/-- i: the clause's name; j: the name that keeps the error -/
def sTryK (i j : Nat) (g : SF) : SF := fun env => match g env with
  | .err x e => if decide (x.dat.length ≤ 1) = true ∧ x.cls ∈ exNames then .ok (.nx ((e.set j (some (.im (excDP x)))).set i none)) else .stuck
  | r => r
/-- isinstance of an error's class -/
def isEx (m : Str) : D → Option D
  | .none => some (.bool false)
  | .dict ((.str n, .none) :: _) => some (.bool (exSub n m))
  | _ => none
def fIsE (m : Str) (f : EF) : EF := fUn (isEx m) f
end
end DL
namespace DL
open PySem PySem.Spec PyProof.Rows L2
def exOne (K : PySem.W.Frag) (n : Str) : Bool :=
  (PySem.W.nsIn K mainGlobals n == some (some (.ref (caK K n)))) &&
  (PySem.W.findIn K (.ref (caK K n)) "__getattribute__" == some (some (.builtin "BaseException.__getattribute__"))) &&
  (PySem.W.findIn K (.ref (caK K n)) "__getattr__" == some none) &&
  (PySem.W.subIn K (.ref (caK K n)) (.type "BaseException") == some true) &&
  PySem.W.hasDictIn K (caK K n) &&
  (PySem.W.findIn K (.ref (caK K n)) "__class__" == some (some (.builtin "object.__class__"))) &&
  (PySem.W.mroIn K (caK K n) (.type "object") == some true) &&
  (tyFive.all fun T => PySem.W.kitOne K (.ref (caK K n)) (.type T) == some false) &&
  (PySem.W.kitOne K (.ref (caK K n)) (.type "ValueError") == some true) &&
  (PySem.W.exmOne K (.ref (caK K n)) (.ref (caK K "StintsError")) == some true) &&
  (exNames.all fun m => PySem.W.kitOne K (.ref (caK K n)) (.ref (caK K m)) == some (exSub n m)) &&
  (PySem.W.kitOne K (.type "NoneType") (.ref (caK K n)) == some false) &&
  ((PySem.W.exmOne K (.ref (caK K n)) (.ref (caK K n)) == some true) &&
  ((PySem.W.findIn K (.ref (caK K n)) "bar" == some none) && (PySem.W.findIn K (.ref (caK K n)) "line" == some none)))
def exAll (K : PySem.W.Frag) : Bool := (PySem.W.specialIn K (.builtin "object.__class__") "__get__" == some (some (.builtin "getset_descriptor.__get__"))) && (PySem.W.takesIn K (.builtin "object.__class__") == some true) && exNames.all (exOne K)
theorem exA_of {K : PySem.W.Frag} {h : Heap} {mg : Str → Option Value} (KX : K.In h) (G : h.Ns mainGlobals mg) (c : exAll K = true) : ExA K mg := by
  unfold exAll at c
  simp only [Bool.and_eq_true, beq_iff_eq] at c
  obtain ⟨⟨c1, c2⟩, c3⟩ := c
  have one : ∀ n : Str, n ∈ exNames → exOne K n = true := fun n hn => List.all_eq_true.mp c3 n hn
  refine ⟨fun n hn => ?_, fun n hn => ?_, fun n hn => ?_, fun n hn => ?_, fun n hn => ?_⟩
  · have q := one n hn
    unfold exOne at q
    simp only [Bool.and_eq_true, beq_iff_eq] at q
    obtain ⟨⟨⟨⟨⟨⟨⟨⟨⟨⟨⟨⟨q1, q2⟩, q3⟩, q4⟩, q5⟩, q6⟩, q7⟩, q8⟩, q9⟩, q10⟩, q11⟩, q12⟩, _⟩ := q
    exact ⟨⟨q2, q3, q4, q5, q6, c1, c2, q7⟩, fun T hT => beq_iff_eq.mp (List.all_eq_true.mp q8 T hT), q9, q10, fun m hm => beq_iff_eq.mp (List.all_eq_true.mp q11 m hm)⟩
  · have q := one n hn
    unfold exOne at q
    simp only [Bool.and_eq_true, beq_iff_eq] at q
    obtain ⟨⟨⟨⟨⟨⟨⟨⟨⟨⟨⟨⟨q1, q2⟩, q3⟩, q4⟩, q5⟩, q6⟩, q7⟩, q8⟩, q9⟩, q10⟩, q11⟩, q12⟩, _⟩ := q
    exact PySem.W.mg_of KX G q1
  · have q := one n hn
    unfold exOne at q
    simp only [Bool.and_eq_true, beq_iff_eq] at q
    exact q.1.2
  · have q := one n hn
    unfold exOne at q
    simp only [Bool.and_eq_true, beq_iff_eq] at q
    exact q.2.1
  · have q := one n hn
    unfold exOne at q
    simp only [Bool.and_eq_true, beq_iff_eq] at q
    exact q.2.2
end DL
namespace DL
open PySem PySem.Spec PyProof.Rows L2
section
variable {X : Cx} {z : Z} {e : Expr}
def fMt (h : D → D → Option D) (f g : EF) : EF := fun env => (f env).bind fun p => match p.1 with
  | .list ds => (g p.2).bind fun q => (ofO (h (.list ds) q.1)).bind fun r => .ok (r, q.2)
  | _ => .stuck
end
end DL
namespace DL
open PySem PySem.Spec PyProof.Rows L2
variable {K : PySem.W.Frag}
def keyOf : D → Option Key
  | .int i => some (.inl i)
  | .str x => some (.inr x)
  | _ => none
theorem keyOf_at {O : Addr → Prop} {H : Hp} {v : V} {d : D} {k : Key} (h : At K O H v d) (e : keyOf d = some k) : v = kV k := by
  cases h with
  | int i => cases e; rfl
  | str x => cases e; rfl
  | _ => cases e
def valD (kvs : List (Key × D)) (k : Key) : Option D := (kvs.find? fun kv => decide (kv.1 = k)).map (·.2)
def putD (kvs : List (Key × D)) (k : Key) (v : D) : List (Key × D) :=
  if (kvs.any fun kv => decide (kv.1 = k)) = true then kvs.map (fun kv => if kv.1 = k then (kv.1, v) else kv) else kvs ++ [(k, v)]
/-- a dict's pairs and their data -/
inductive DkR (K : PySem.W.Frag) (O : Addr → Prop) (H : Hp) : List (Key × V) → List (Key × D) → Prop
  | nil : DkR K O H [] []
  | cons {k : Key} {v : V} {d : D} {vs : List (Key × V)} {kvs : List (Key × D)} : At K O H v d → DkR K O H vs kvs → DkR K O H ((k, v) :: vs) ((k, d) :: kvs)
section
variable {O O' : Addr → Prop} {H H' : Hp}
theorem DkR.of : ∀ {vs : List (Key × V)} {kvs : List (Key × D)}, vs.map Prod.fst = kvs.map Prod.fst → AtAll K O H (vs.map Prod.snd) (kvs.map Prod.snd) → DkR K O H vs kvs
  | [], [], _, _ => .nil
  | [], _ :: _, e, _ => by simp at e
  | _ :: _, [], e, _ => by simp at e
  | (k, v) :: vs, (k', d) :: kvs, e, r => by
    simp only [List.map_cons, List.cons.injEq] at e r
    obtain ⟨rfl, e⟩ := e
    cases r with
    | cons a r => exact .cons a (DkR.of e r)
theorem DkR.fst : ∀ {vs : List (Key × V)} {kvs : List (Key × D)}, DkR K O H vs kvs → vs.map Prod.fst = kvs.map Prod.fst
  | _, _, .nil => rfl
  | _, _, .cons a r => by simp only [List.map_cons, r.fst]
theorem DkR.snd : ∀ {vs : List (Key × V)} {kvs : List (Key × D)}, DkR K O H vs kvs → AtAll K O H (vs.map Prod.snd) (kvs.map Prod.snd)
  | _, _, .nil => .nil
  | _, _, .cons a r => .cons a r.snd
theorem DkR.length : ∀ {vs : List (Key × V)} {kvs : List (Key × D)}, DkR K O H vs kvs → vs.length = kvs.length
  | _, _, .nil => rfl
  | _, _, .cons a r => by simp only [List.length_cons, r.length]
theorem DkR.mv (m : Mv O O' H H') : ∀ {vs : List (Key × V)} {kvs : List (Key × D)}, DkR K O H vs kvs → DkR K O' H' vs kvs
  | _, _, .nil => .nil
  | _, _, .cons a r => .cons (a.mv m) (r.mv m)
/-- what is found -/
theorem DkR.val : ∀ {vs : List (Key × V)} {kvs : List (Key × D)} (k : Key), DkR K O H vs kvs → (valD kvs k = none ∧ valV vs k = none) ∨ ∃ d v, valD kvs k = some d ∧ valV vs k = some v ∧ At K O H v d
  | _, _, k, .nil => .inl ⟨rfl, rfl⟩
  | _, _, k, .cons (k := j) (v := v) (d := d) (vs := vs) (kvs := kvs) a r => by
    unfold valD valV
    simp only [List.find?_cons]
    by_cases e : j = k
    · simp only [e, decide_true, Option.map_some]
      exact .inr ⟨d, v, rfl, rfl, a⟩
    · simp only [e, decide_false]
      exact r.val k
theorem DkR.any (p : Key → Bool) : ∀ {vs : List (Key × V)} {kvs : List (Key × D)}, DkR K O H vs kvs → (vs.any fun kv => p kv.1) = kvs.any fun kv => p kv.1
  | _, _, .nil => rfl
  | _, _, .cons a r => by simp only [List.any_cons, r.any p]
theorem DkR.put {v : V} {d : D} (k : Key) (a : At K O H v d) : ∀ {vs : List (Key × V)} {kvs : List (Key × D)}, DkR K O H vs kvs → DkR K O H (putK vs k v) (putD kvs k d) := by
  intro vs kvs r
  unfold putK putD
  rw [r.any fun j => decide (j = k)]
  split
  · rename_i h
    clear h
    induction r with
    | nil => exact .nil
    | cons b r ih =>
      simp only [List.map_cons]
      split
      · exact .cons a ih
      · exact .cons b ih
  · rename_i h
    clear h
    induction r with
    | nil => exact .cons a .nil
    | cons b r ih => exact .cons b ih
end
theorem SlotR.dkR {O : Addr → Prop} {H : Hp} {v : V} {kvs : List (Key × D)} (h : SlotR K O H v (.dk kvs)) : ∃ a vs, v = .ref a ∧ O a ∧ H a = some (.dK vs) ∧ DkR K O H vs kvs := by
  obtain ⟨a, vs, e, o, h, f, r⟩ := h
  exact ⟨a, vs, e, o, h, .of f r⟩
theorem SlotR.of_dkR {O : Addr → Prop} {H : Hp} {a : Addr} {vs : List (Key × V)} {kvs : List (Key × D)} (o : O a) (h : H a = some (.dK vs)) (r : DkR K O H vs kvs) : SlotR K O H (.ref a) (.dk kvs) := ⟨a, vs, rfl, o, h, r.fst, r.snd⟩
section
variable {X : Cx} {z : Z} {e : Expr} {pos : Pos} {i : Nat} {o : Expr}
/-- d[k] -/
def fDIx (i : Nat) (g : EF) : EF := fun env => match env[i]? with
  | some (some (.dk _)) => (g env).bind fun q => match q.2[i]? with
    | some (some (.dk kvs)) => (ofO ((keyOf q.1).bind (valD kvs))).bind fun r => .ok (r, q.2)
    | _ => .stuck
  | _ => .stuck
theorem de_dix {fe : Bool} {g : EF} (hu : X.A.units + 1 < cLine) (ho : PE X o (tVar i)) (he : DE z X fe e g) (hs : NoSl e) : DE z X false (.Subscript o e pos) (fDIx i g) :=
  de_imp (pe_dget hu ho he hs) fun B env σ H Q I hp => by
    unfold fDIx at hp
    split at hp
    · rename_i kvs0 e0
      obtain ⟨v0, hv, q0⟩ := I.slot i _ e0
      refine ⟨v0, hv, B, env, I, (R.post_bind hp).imp (fun q hq u H2 I2 m2 a2 _ => ?_) fun _ _ q => q⟩
      split at hq
      · rename_i kvs e1
        obtain ⟨w, ew, hw⟩ := ofO_post (R.post_bind hq)
        obtain ⟨v1, hv1, q1⟩ := I2.slot i _ e1
        rw [hv] at hv1
        cases hv1
        obtain ⟨a, vs, rfl, hO, hH, r⟩ := q1.dkR
        cases ek : keyOf q.1 with
        | none => rw [ek] at ew; cases ew
        | some k =>
          rw [ek] at ew
          have ew : valD kvs k = some w := ew
          rcases r.val k with ⟨h1, _⟩ | ⟨d, v, h1, h2, ha⟩
          · rw [h1] at ew; cases ew
          · rw [h1] at ew; cases ew
            refine ⟨a, v, rfl, ?_, hw v H2 I2 m2 ha fun z => nomatch z⟩
            rw [keyOf_at a2 ek, ← h2]
            exact DGet.k hH
      · exact hq.elim
    · exact hp.elim
/-- d.get(k, x) -/
def fDGet2 (i : Nat) (g f : EF) : EF := fun env => match env[i]? with
  | some (some (.dk _)) => (g env).bind fun q => (f q.2).bind fun p => match p.2[i]? with
    | some (some (.dk kvs)) => (ofO (keyOf q.1)).bind fun k => .ok ((valD kvs k).getD p.1, p.2)
    | _ => .stuck
  | _ => .stuck
theorem de_dget2 {fe ff : Bool} {g f : EF} {e2 : Expr} {apos cpos : Pos} (hu : X.A.units + 1 < cLine) (ho : PE X o (tVar i)) (he : DE z X fe e g) (hf : DE z X ff e2 f) (m : M2 X o "get" apos e e2 cpos) :
    DE z X false (.Call (.Attribute o "get" apos) [e, e2] [] cpos) (fDGet2 i g f) :=
  de_imp (pe_dget2 hu ho he hf m) fun B env σ H Q I hp => by
    unfold fDGet2 at hp
    split at hp
    · rename_i kvs0 e0
      obtain ⟨v0, hv, q0⟩ := I.slot i _ e0
      obtain ⟨a0, vs0, rfl, _, hH0, _⟩ := q0.dkR
      refine ⟨_, hv, a0, rfl, .inl ⟨vs0, .inl hH0⟩, B, env, I, (R.post_bind hp).imp (fun q hq u H2 I2 m2 a2 _ => ?_) fun _ _ q => q⟩
      refine ⟨B, q.2, I2, (R.post_bind hq).imp (fun p hq2 w H3 I3 m3 a3 _ => ?_) fun _ _ q => q.step m2⟩
      split at hq2
      · rename_i kvs e1
        obtain ⟨k, ek, hw⟩ := ofO_post (R.post_bind hq2)
        obtain ⟨v1, hv1, q1⟩ := I3.slot i _ e1
        rw [hv] at hv1
        cases hv1
        obtain ⟨a, vs, ea, hO, hH, r⟩ := q1.dkR
        cases ea
        have eu : u = kV k := keyOf_at a2 ek
        rcases r.val k with ⟨h1, h2⟩ | ⟨d, v, h1, h2, ha⟩
        · rw [h1] at hw
          refine ⟨none, ?_, hw w H3 I3 (m2.trans m3) a3 fun z => nomatch z⟩
          rw [eu, ← h2]
          exact DGet.k hH
        · rw [h1] at hw
          refine ⟨some v, ?_, hw v H3 I3 (m2.trans m3) ha fun z => nomatch z⟩
          rw [eu, ← h2]
          exact DGet.k hH
      · exact hq2.elim
    · exact hp.elim
end
end DL
namespace DL
open PySem PySem.Spec PyProof.Rows L2
variable {K : PySem.W.Frag}
section
variable {np : List Nat} {B : Bs} {σ : Sg} {H : Hp} {env : En}
/-- a new thing is stored as the slot's own -/
theorem SR.setNew (I : SR K np B σ H env) {i : Nat} {p : Addr} {o : HO} {t : Sl} (hi : i ∉ np) (hp : H p = none) (ht : t.own = true) (r : ∀ (O2 : Addr → Prop) (H2 : Hp), Mv (B.O σ env) O2 H H2 → O2 p → H2 p = some o → SlotR K O2 H2 (.ref p) t) :
    SR K np B (σ.set i (some (.ref p))) (upd H p o) (env.set i (some t)) ∧ Mv (B.O σ env) (B.O (σ.set i (some (.ref p))) (env.set i (some t))) H (upd H p o) := by
  have nO : ¬ B.O σ env p := I.nO hp
  have I1 := I.ex (Ex.new (o := o) hp)
  have ow : ∀ j b, ownedAt (σ.set i (some (.ref p))) (env.set i (some t)) j b → (j = i ∧ b = p) ∨ (j ≠ i ∧ ownedAt σ env j b) := fun j b ⟨s, h1, h2, h3⟩ => by
    rcases getElem?_set_some h1 with ⟨e, _⟩ | ⟨e, h1⟩
    · rcases getElem?_set_some h3 with ⟨_, e3⟩ | ⟨e3, _⟩
      · cases e3; exact .inl ⟨e, rfl⟩
      · exact absurd e e3
    · rcases getElem?_set_some h3 with ⟨e3, _⟩ | ⟨_, h3⟩
      · exact absurd e3 e
      · exact .inr ⟨e, s, h1, h2, h3⟩
  have wo : ∀ j b, j ≠ i → ownedAt σ env j b → ownedAt (σ.set i (some (.ref p))) (env.set i (some t)) j b := fun j b n ⟨s, h1, h2, h3⟩ =>
    ⟨s, by rw [List.getElem?_set_ne (Ne.symm n)]; exact h1, h2, by rw [List.getElem?_set_ne (Ne.symm n)]; exact h3⟩
  have sub : ∀ b, B.O (σ.set i (some (.ref p))) (env.set i (some t)) b → plus (B.O σ env) p b := fun b z => by
    rcases z with z | ⟨j, q⟩
    · exact .inl (.inl z)
    · rcases ow j b q with ⟨_, e⟩ | ⟨_, q⟩
      · exact .inr e
      · exact .inl (.inr ⟨j, q⟩)
  have m0 : Mv (B.O σ env) (plus (B.O σ env) p) H (upd H p o) := Mv.new hp
  have m1 : Mv (plus (B.O σ env) p) (B.O (σ.set i (some (.ref p))) (env.set i (some t))) (upd H p o) (upd H p o) := Mv.less sub
  have m := m0.trans m1
  have no : ∀ l, ¬ ownedAt σ env l p := fun l q => nO (.inr ⟨l, q⟩)
  refine ⟨⟨by simpa using I.len, fun j s h1 => ?_, fun j k b h1 h2 => ?_, I1.keep, I1.dom, fun j b h => ?_, I1.o0, I1.kept, fun j b h => ?_, fun j b h => ?_, fun q hq => ?_, I1.fixSet hi⟩, m⟩
  · rcases getElem?_set_some h1 with ⟨e, e2⟩ | ⟨e, h2⟩
    · cases e2
      subst e
      have hl : j < env.length := by
        have := (List.getElem?_eq_some_iff.mp h1).1
        simpa using this
      have hl' : j < σ.length := by rw [I.len]; exact hl
      exact ⟨.ref p, by rw [List.getElem?_set_self hl'], r _ _ m (.inr ⟨j, t, by rw [List.getElem?_set_self hl], ht, by rw [List.getElem?_set_self hl']⟩) upd_same⟩
    · obtain ⟨u, e1, q⟩ := I.slot j s h2
      exact ⟨u, by rw [List.getElem?_set_ne (Ne.symm e)]; exact e1, q.mv m (fun b eb ho => .inr ⟨j, wo j b e ⟨s, h2, ho, eb ▸ e1⟩⟩) fun b o _ _ z => Ex.new hp b o z⟩
  · rcases ow j b h1 with ⟨e1, e2⟩ | ⟨e1, q1⟩
    · rcases ow k b h2 with ⟨e3, e4⟩ | ⟨e3, q2⟩
      · rw [e1, e3]
      · rw [e2] at q2
        exact absurd q2 (no k)
    · rcases ow k b h2 with ⟨e3, e4⟩ | ⟨e3, q2⟩
      · rw [e4] at q1
        exact absurd q1 (no j)
      · exact I.dist j k b q1 q2
  · rcases ow j b h with ⟨_, e⟩ | ⟨_, q⟩
    · exact .inr (e ▸ I.dom p hp)
    · exact I.new j b q
  · rcases ow j b h with ⟨_, e⟩ | ⟨_, q⟩
    · rw [e]
      cases ek : B.kp p with
      | none => rfl
      | some o =>
        have := I.kept p o ek
        rw [hp] at this; cases this
    · exact I.kpo j b q
  · rcases ow j b h with ⟨_, e⟩ | ⟨_, q⟩
    · exact fun w => nO (.inl (e ▸ w))
    · exact I.own0 j b q
  · obtain ⟨h1, h2, h3⟩ := I.par q hq
    exact ⟨wo _ _ (fun z => hi (z ▸ h3)) h1, h2, h3⟩
end
theorem SR.setDk {np : List Nat} {B : Bs} {σ : Sg} {H : Hp} {env : En} (I : SR K np B σ H env) {i : Nat} {p : Addr} {vs : List (Key × V)} {kvs : List (Key × D)} (hi : i ∉ np) (hp : H p = none) (r : DkR K (B.O σ env) H vs kvs) :
    SR K np B (σ.set i (some (.ref p))) (upd H p (.dK vs)) (env.set i (some (.dk kvs))) ∧ Mv (B.O σ env) (B.O (σ.set i (some (.ref p))) (env.set i (some (.dk kvs)))) H (upd H p (.dK vs)) :=
  I.setNew hi hp rfl fun O2 H2 m o2 h2 => SlotR.of_dkR o2 h2 (r.mv m)
theorem SR.setDb {np : List Nat} {B : Bs} {σ : Sg} {H : Hp} {env : En} (I : SR K np B σ H env) {i : Nat} {p : Addr} (hi : i ∉ np) (hp : H p = none) :
    SR K np B (σ.set i (some (.ref p))) (upd H p (BD p [])) (env.set i (some (.db []))) ∧ Mv (B.O σ env) (B.O (σ.set i (some (.ref p))) (env.set i (some (.db [])))) H (upd H p (BD p [])) :=
  I.setNew hi hp rfl fun O2 H2 m o2 h2 => ⟨p, [], rfl, o2, h2, rfl, .nil⟩
theorem u1 {k : Nat} {A : Around} (r : Room k A) : A.units + 1 < cLine := by have := r.un; omega
section
variable {X : Cx} {z : Z} {e : Expr} {pos : Pos} {i j : Nat} {o : Expr} {fr : Bool}
/-- k in d -/
def fDIn (i : Nat) (f : EF) : EF := fun env => (f env).bind fun q => match q.2[i]? with
  | some (some (.dk kvs)) => (ofO (keyOf q.1)).bind fun k => .ok (.bool (valD kvs k).isSome, q.2)
  | _ => .stuck
theorem e_din {fe : Bool} {f : EF} {B : Bs} {env : En} {σ : Sg} {H : Hp} {Q : VK} (hp : (fDIn i f env).post (EP1 X.K z true B σ H env Q) (XP X.K z B σ H env)) (I : SR X.K z.np B σ H env) : tDIn (tE X.K z fe f) (tVar i) σ H Q := by
  unfold fDIn at hp
  refine ⟨B, env, I, (R.post_bind hp).imp (fun q hq u H2 I2 m2 a2 _ => ?_) fun _ _ q => q⟩
  split at hq
  · rename_i kvs e1
    obtain ⟨k, ek, hw⟩ := ofO_post (R.post_bind hq)
    obtain ⟨v1, hv1, q1⟩ := I2.slot i _ e1
    obtain ⟨a, vs, rfl, hO, hH, r⟩ := q1.dkR
    have eu : u = kV k := keyOf_at a2 ek
    refine ⟨_, hv1, a, valV vs k, rfl, by rw [eu]; exact DGet.k hH, ?_⟩
    have es : (valV vs k).isSome = (valD kvs k).isSome := by
      rcases r.val k with ⟨h1, h2⟩ | ⟨d, v, h1, h2, _⟩ <;> rw [h1, h2] <;> rfl
    rw [es]
    exact hw (.bl (valD kvs k).isSome) H2 I2 m2 (.bl _) fun _ => .flat fun _ q => nomatch q
  · exact hq.elim
theorem dt_din {fe : Bool} {f : EF} (hu : X.A.units + 1 < cLine) (he : DE z X fe e f) (ho : PE X o (tVar i)) (h1 : behindInMarks .In o = false := by rfl) : DT z X (.Compare e [.In] [o] pos) (fBool (fDIn i f)) :=
  dt_imp (pt_cmp (pc_din hu he ho) h1) fun B env σ H Q I hp => by
    refine e_din (z := z) (fe := fe) (Q := fun x H1 => ∃ c, x = .bl c ∧ Q c H1) ((R.post_bind hp).imp (fun p hp v H' I' m a _ => ?_) fun _ _ q => q) I
    obtain ⟨d, e'⟩ := p
    cases d with
    | bool b =>
      cases a
      exact ⟨b, rfl, hp H' I' m⟩
    | _ => exact hp.elim
/-- d[k] = v -/
def sDSto (i : Nat) (g f : EF) : SF := fun env => (f env).bind fun p => match p.2[i]? with
  | some (some (.dk _)) => (g p.2).bind fun q => match q.2[i]? with
    | some (some (.dk kvs)) => if kvs.length < sizeLine then (ofO (keyOf q.1)).bind fun k => .ok (.nx (q.2.set i (some (.dk (putD kvs k p.1))))) else .stuck
    | _ => .stuck
  | _ => .stuck
theorem ds_dsto {fe ff : Bool} {g f : EF} {value : Expr} {pos' : Pos} (hu : X.A.units + 1 < cLine) (ho : PE X o (tVar i)) (he : DE z X fe e g) (hv : DE z X ff value f) (hs : swapsWith value (some (.Subscript o e pos')) pos.line X.env = pure false := by rfl) :
    DS z X fr (.Assign [.Subscript o e pos'] value pos) (sDSto i g f) :=
  ds_imp (ps_dput hu ho he hv hs) fun B env σ H Dd I p => by
    unfold sDSto at p
    refine ⟨B, env, I, (R.post_bind p).imp (fun p hp v H1 I1 m1 a1 _ => ?_) fun _ _ q => q.xp⟩
    split at hp
    · rename_i kvs0 e0
      obtain ⟨v0, hv0, q0⟩ := I1.slot i _ e0
      refine ⟨v0, hv0, B, p.2, I1, (R.post_bind hp).imp (fun q hq u H2 I2 m2 a2 _ => ?_) fun _ _ q => (XS.step m1 q).xp⟩
      split at hq
      · rename_i kvs e1
        split at hq
        · rename_i hlen
          obtain ⟨k, ek, hw⟩ := ofO_post (R.post_bind hq)
          obtain ⟨v1, hv1, q1⟩ := I2.slot i _ e1
          rw [hv0] at hv1
          cases hv1
          obtain ⟨a, vs, rfl, hO, hH, r⟩ := q1.dkR
          have eu : u = kV k := keyOf_at a2 ek
          have rp : DkR X.K (B.O σ q.2) H2 (putK vs k v) (putD kvs k p.1) := r.put k (At.mv m2 a1)
          have mw : Mv (B.O σ q.2) (B.O σ q.2) H2 (upd H2 a (.dK (putK vs k v))) := ⟨fun b u e n => by rw [upd_ne fun z => n (by rw [z]; exact hO)]; exact e, fun _ h => .inl h, fun b e => by
            by_cases z : b = a
            · rw [z, upd_same] at e; cases e
            · rw [upd_ne z] at e; exact e⟩
          obtain ⟨I3, m3⟩ := I2.write (s' := .dk (putD kvs k p.1)) e1 rfl rfl hv0 (SlotR.of_dkR hO upd_same (rp.mv mw))
          refine ⟨a, _, rfl, by rw [eu]; exact DPut.k hH (by rw [r.length]; exact hlen), ?_⟩
          exact hw σ _ I3 ((m1.trans m2).trans m3)
        · exact hq.elim
      · exact hq.elim
    · exact hp.elim
/-- x = {name: constant} -/
def sSetDk (j i : Nat) (c : D) : SF := fun env => match env[i]? with
  | some (some (.im d)) => (ofO (keyOf d)).bind fun k => .ok (.nx (env.set j (some (.dk [(k, c)]))))
  | _ => .stuck
theorem ds_setDk {x : Str} {e1 e2 : Expr} {v : V} {c : D} {pos' dpos : Pos} (hN : X.N.Nodup) (hn : X.N[j]? = some x) (hx : Loc X.env.scope x) (h1 : PE X e1 (tVar i)) (h2 : PE X e2 (L2.tC v)) (hc : ∀ O H, At X.K O H v c) (hj : j ∉ z.np)
    (hs : swapsWith (.Dict [some e1] [e2] dpos) (some (.Name x pos')) pos.line X.env = pure false := by rfl) (hf : X.fn x = true ∨ X.env.scope.names.lookup x = some .local := by first | exact .inl rfl | exact .inr rfl | assumption) :
    DS z X fr (.Assign [.Name x pos'] (.Dict [some e1] [e2] dpos) pos) (sSetDk j i c) :=
  ds_imp (ps_set hN hn hx (pe_disp (pps_cons h1 h2 pps_nil) rfl rfl (by simp) (by simp)) hs hf) fun B env σ H Dd I p => by
    unfold sSetDk at p
    split at p
    · rename_i d e0
      obtain ⟨k, ek, hw⟩ := ofO_post (R.post_bind p)
      obtain ⟨u, hu, a⟩ := I.im e0
      intro q hq
      refine ⟨u, hu, upd_same, [(k, v)], by rw [keyOf_at a ek]; rfl, by simp, ?_⟩
      rw [upd_upd]
      obtain ⟨I3, m3⟩ := I.setDk (i := j) (p := q) (vs := [(k, v)]) (kvs := [(k, c)]) hj hq (.cons (hc _ _) .nil)
      exact hw _ _ I3 m3
    · exact p.elim
end
end DL
namespace DL
open PySem PySem.Spec PyProof.Rows L2
variable {K : PySem.W.Frag}
theorem BD_mut (a : Addr) (vs : List (Bool × V)) : Mut (some (BD a vs)) := True.intro
theorem pairs_kind {P P' : Program} {w w' : World} {es : List DictEntry} {us : List (Bool × Value)} (q : Pairs (PpSet.boolK P w) es us) : Pairs (PpSet.boolK P' w') es us := by
  induction q with
  | nil => exact .nil
  | cons h1 h2 _ ih => exact .cons h1 h2 ih
theorem bd_kind {P P' : Program} {w w' : World} {h : Heap} {a : Addr} {us : List (Bool × Value)} (q : h.DictOf (PpSet.boolK P w) a us) : h.DictOf (PpSet.boolK P' w') a us := by
  obtain ⟨o, es, ep, ho, hx, hd, hk, hp, hn⟩ := q
  exact ⟨o, es, ep, ho, hx, hd, hk, pairs_kind hp, hn⟩
theorem bdk_at {h h' : Heap} {a : Addr} {vs : List (Bool × V)} (q : BDk h a vs) (k : ∀ o, h.get? a = some o → h'.get? a = some o) : BDk h' a vs := by
  obtain ⟨z, hd, P, w, us, kv, o, es, ep, ho, r⟩ := q
  exact ⟨z, hd, P, w, us, kv, o, es, ep, k o ho, r⟩
theorem bd_ok {P : Program} {w : World} {H : Hp} {h : Heap} {a : Addr} {vs : List (Bool × V)} (q : BDk h a vs) : ObjOk P w H h a (BD a vs) := by
  obtain ⟨z, hd, P', w', us, kv, o, es, ep, ho, r⟩ := id q
  exact ⟨q, ⟨o, ho⟩, fun h1 h2 y k => bdk_at y k⟩
theorem bd_get {P : Program} {w : World} {H : Hp} {h : Heap} {a : Addr} {vs : List (Bool × V)} (x : ObjOk P w H h a (BD a vs)) : BDk h a vs := by
  have y : ObjOk P w H h a (HO.ext fun h => BDk h a vs) := x
  exact y.1
section
variable {X : Cx} {pins : List (Addr × Obj)} {σ : L2.St} {H : Hp} {s : Shared} {a : Addr} {vs : List (Bool × V)} {k : Bool} {v : V} {u r : Value} {A : Around} {E : Value → Shared → Prop}
/-- the value of a key that is there; the dict may be locked -/
theorem bd_read {Q : Value → Shared → Prop} (I : Inv X pins σ H s) (e : Rd H a (BD a vs)) (l : valV vs k = some v) (h : ∀ x s', Inv X pins σ H s' → RelV v x → Q x s') :
    wpAny (model X.prog X.w) A (getItem (.ref a) (.bool k)) Q E s := by
  have ok : ObjOk X.prog X.w H s.heap a (BD a vs) := by
    rcases e with e | ⟨o, e⟩
    · exact I.hok a _ e
    · exact (I.hok a _ e).2
  obtain ⟨z, hd, P, w, us, kv, dd⟩ := bd_get ok
  have dd : s.heap.DictOf (PpSet.boolK X.prog X.w) a us := bd_kind dd
  obtain ⟨x, hx, rx⟩ := RelO.some_of (v := v) (o := valueAt us k) (by rw [← l]; exact kv.val k)
  exact wpAny_getItem_of (PpSet.boolK_is _ _ k) dd.mapOf hx (h x _ (I.tok _) rx)
/-- a key is given a value -/
theorem bd_write {Q : Unit → Shared → Prop} (I : Inv X pins σ H s) (e : H a = some (BD a vs)) (hl : vs.length < sizeLine) (rv : RelV v r) (h : ∀ s', Inv X pins σ (upd H a (BD a (putK vs k v))) s' → Q () s') :
    wpAny (model X.prog X.w) A (setItem (.ref a) (.bool k) r) Q E s := by
  obtain ⟨z, hd, P, w, us, kv, dd⟩ := bd_get (I.hok a _ e)
  have dd : s.heap.DictOf (PpSet.boolK X.prog X.w) a us := bd_kind dd
  have zu : us.length ≤ sizeLine := by rw [← kv.length]; exact z
  refine wpAny_setItem_pairs (hsz := zu) (PpSet.boolK_is _ _ k) dd fun h' dd' same => h _ ?_
  have there : ∃ q, h'.get? a = some q := by
    obtain ⟨q, _, _, hq, _⟩ := dd'
    exact ⟨q, hq⟩
  have long : (putK vs k v).length ≤ sizeLine := by
    have := length_putK vs k v
    omega
  exact d_write I (by rw [e]; exact BD_mut a vs) same there (bd_ok ⟨long, hd, X.prog, X.w, _, kv.put k rv, dd'⟩)
end
/-- x = {} : a dict for truth values -/
def tBNew : TE := fun _ H Q => ∀ p, H p = none → Q (.ref p) (upd H p (BD p []))
theorem pe_bnew {X : Cx} {pos : Pos} : PE X (.Dict [] [] pos) tBNew := by
  constructor
  intro pins s σ H Q I q
  have big : (s.heap.objs.size == sysModules) = false := beq_eq_false_iff_ne.mpr (Ne.symm (Nat.ne_of_lt I.big))
  have new : BDk (s.heap.push { cls := .type "dict", data := .dict #[] }) s.heap.objs.size [] := ⟨Nat.zero_le _, big, X.prog, X.w, [], .nil, Heap.DictOf.new s.heap⟩
  have I1 := I.laid (a := s.heap.objs.size) (o := BD s.heap.objs.size []) (t' := s.toks) (fun _ _ q => Heap.get?_push_of_some _ q) (Nat.le_refl _) (bd_ok new)
  exact wpAny_Dict_empty ⟨.ref s.heap.objs.size, _, I1, rfl, q _ (I.hok.fresh (Nat.le_refl _))⟩
/-- d[k] = v -/
def sBPut (td ty tv : TE) : TS := fun D σ H => tv σ H fun v H1 => td σ H1 fun x H2 => ty σ H2 fun y H3 => ∃ (a : Addr) (vs : List (Bool × V)) (k : Bool), x = .ref a ∧ y = .bl k ∧ H3 a = some (BD a vs) ∧ vs.length < sizeLine ∧ D.nx σ (upd H3 a (BD a (putK vs k v)))
theorem ps_bput {X : Cx} {o i value : Expr} {pos pos' : Pos} {td ty tv : TE} (ho : PE X o td) (hi : PE X i ty) (hv : PE X value tv) (hs : swapsWith value (some (.Subscript o i pos')) pos.line X.env = pure false) :
    PS X (.Assign [.Subscript o i pos'] value pos) (sBPut td ty tv) := by
  constructor
  intro pins s σ H D I h
  refine wpAny_Assign_Subscript (thn (hv.run pins s σ H _ I h) fun r s1 ⟨v, H1, I1, rv, q1⟩ => thn (ho.run pins s1 σ H1 _ I1 q1) fun u s2 ⟨x, H2, I2, rx, q2⟩ => ?_) hs
  refine thn (hi.run pins s2 σ H2 _ I2 q2) fun iv s3 hh => ?_
  obtain ⟨y, H3, I3, ry, a, vs, k, rfl, rfl, e, hl, q3⟩ := hh
  obtain rfl : u = Value.ref a := rx
  obtain rfl : iv = Value.bool k := ry
  exact bd_write I3 e hl rv fun s4 I4 => ⟨σ, _, I4, q3⟩
/-- d[k] within the walk -/
def tBGet (td ty : TE) : TE := fun σ H Q => td σ H fun x H1 => ty σ H1 fun y H2 => ∃ (a : Addr) (vs : List (Bool × V)) (k : Bool) (v : V), x = .ref a ∧ y = .bl k ∧ Rd H2 a (BD a vs) ∧ valV vs k = some v ∧ Q v H2
theorem bd_type {X : Cx} {pins : List (Addr × Obj)} {σ : L2.St} {H : Hp} {s : Shared} {a : Addr} {vs : List (Bool × V)} (I : Inv X pins σ H s) (e : Rd H a (BD a vs)) : s.TypeIs (.ref a) "dict" := by
  have ok : ObjOk X.prog X.w H s.heap a (BD a vs) := by
    rcases e with e | ⟨o, e⟩
    · exact I.hok a _ e
    · exact (I.hok a _ e).2
  obtain ⟨z, hd, P, w, us, kv, dd⟩ := bd_get ok
  exact dd.typeIs
theorem pe_bget {X : Cx} {o i : Expr} {pos : Pos} {td ty : TE} (ho : PE X o td) (hi : PE X i ty) (hs : NoSl i) : PE X (.Subscript o i pos) (tBGet td ty) := by
  constructor
  intro pins s σ H Q I h
  refine subD_of PySem.F.slot_dict_getitem.lookup hs (thn (ho.run pins s σ H _ I h) fun u s1 ⟨x, H1, I1, rx, q1⟩ => ?_)
  refine thn (hi.run pins s1 σ H1 _ I1 q1) fun iv s2 hh => ?_
  obtain ⟨y, H2, I2, ry, a, vs, k, v, rfl, rfl, e, l, q2⟩ := hh
  obtain rfl : u = Value.ref a := rx
  obtain rfl : iv = Value.bool k := ry
  exact ⟨bd_type I2 e, bd_read I2 e l fun w' s3 I3 rw' => ⟨v, H2, I3, rw', q2⟩⟩
/-- the keys of the locked dict, one by one -/
def ItB (d : Addr) (o : Obj) (vs : List (Bool × V)) : It where
  go := fun i H => H d = some (.frz o (BD d vs)) ∧ i < vs.length
  yld := fun i H x H' => H' = H ∧ ∃ k v, vs[i]? = some (k, v) ∧ x = .bl k
  stop := fun i H => H d = some (.frz o (BD d vs)) ∧ vs.length ≤ i
theorem frzB {X : Cx} {pins : List (Addr × Obj)} {σ : L2.St} {H : Hp} {s : Shared} {d : Addr} {o : Obj} {vs : List (Bool × V)} (I : Inv X pins σ H s) (h : H d = some (.frz o (BD d vs))) :
    (d == sysModules) = false ∧ s.heap.get? d = some o ∧ o.ExactDict ∧ ∃ (es : Array DictEntry) (ep : Nat) (us : List (Bool × Value)), o.data = .dict es ep ∧ es.size = vs.length ∧ KV vs us ∧ s.heap.DictAt (PpSet.boolK X.prog X.w) d us ep := by
  obtain ⟨hd, ok⟩ := I.hok d _ h
  obtain ⟨z, hs, P, w, us, kv, o', es, ep, ho, hx, hdt, r⟩ := bd_get ok
  rw [hd] at ho
  cases ho
  have l1 := r.2.1.length
  have l2 : vs.length = us.length := kv.length
  rw [Array.length_toList] at l1
  exact ⟨hs, hd, hx, es, ep, us, hdt, by omega, kv, o, es, hd, hx, hdt, r.1, pairs_kind r.2.1, r.2.2⟩
theorem isB_rel {P : Program} {w : World} {k : Bool} {u : Value} (h : (PpSet.boolK P w).is k u = true) : RelV (.bl k) u := PpSet.isB_shape h
section
variable {P : Program} {w : World} {tg : Expr} {d : Addr} {o : Obj} {es : Array DictEntry} {ep : Nat} {vs : List (Bool × V)}
theorem turn_bkeys (it : Addr) (hod : o.data = .dict es ep) : Turn P w K tg (ItB d o vs) [it] it (fun i h => h.IsKeyIter it d i vs.length ep) := by
  constructor
  case mem => exact List.mem_cons_self ..
  case obj =>
    intro i h st b hb
    obtain rfl : b = it := by simpa using hb
    obtain ⟨oi, e, c, dd⟩ := st
    exact ⟨oi, e, fun v z => by rw [dd] at z; cases z⟩
  case keep => exact fun i h h' st k => st.at fun oi e => k it (List.mem_cons_self ..) oi e
  case item =>
    intro X hP hw hK hc i pins s σ H E I hf st hg
    subst hP hw hK
    obtain ⟨hd, hi⟩ := hg
    obtain ⟨f0, f1, f2, f3, f4, f5⟩ := hf it (List.mem_cons_self ..)
    obtain ⟨hs, hgd, hx, es', ep', us, hdt, hsz, kv, hm⟩ := frzB I hd
    obtain ⟨rfl, rfl⟩ := dict_ep hod hdt
    have hkv : vs[i]? = some (vs[i].1, vs[i].2) := List.getElem?_eq_getElem hi
    obtain ⟨u, hu, ru⟩ := kv_get kv hkv
    have hl : vs.length = us.length := kv.length
    rw [hl] at st
    refine wpAny_pyNext_dict_item st hm hu fun key h' hkey st' sb => ?_
    have I1 : Inv X pins σ H { s with heap := h' } := I.turned (t' := s.toks) (fun b ob hb e => (sb.2 b hb).trans e) f0 f1 f3 f4 f5
    obtain ⟨oi, e, c, dd⟩ := id st'
    refine ⟨key, rfl, go_of (s := { s with heap := h' }) e c dd (by decide) ⟨.bl vs[i].1, H, I1, isB_rel hkey, ⟨rfl, _, _, hkv, rfl⟩, ?_, fun b hb => (hf b hb).1⟩⟩
    show h'.IsKeyIter it d (i + 1) vs.length _
    rw [hl]
    exact st'
  case done =>
    intro X hP hw hK hc i pins s σ H E I hf st hg
    subst hP hw hK
    obtain ⟨hd, hi⟩ := hg
    obtain ⟨f0, f1, f2, f3, f4, f5⟩ := hf it (List.mem_cons_self ..)
    obtain ⟨hs, hgd, hx, es', ep', us, hdt, hsz, kv, hm⟩ := frzB I hd
    obtain ⟨rfl, rfl⟩ := dict_ep hod hdt
    exact next_key_end (I.ok.hd hc) st hgd hdt hsz hi fun h' eb => ⟨rfl, I.turned (t' := s.toks) (fun b ob hb e => eb b ob hb e) f0 f1 f3 f4 f5⟩
  case self => exact fun A i s Q E st h => wpAny_pyIter_keyiter st h
end
def iBKeys (td : TE) : TI := fun σ H R => td σ H fun x H1 => ∃ d o vs, x = .ref d ∧ H1 d = some (.frz o (BD d vs)) ∧ R (ItB d o vs) H1
theorem pi_bkeys {X : Cx} {tg e : Expr} {td : TE} (he : PE X e td) : PI X tg e (iBKeys td) := by
  constructor
  intro pins s σ H R I h
  refine thn (he.run pins s σ H _ I h) fun u s1 hh => ?_
  obtain ⟨x, H1, I1, rx, d, o, vs, rfl, hd, q⟩ := hh
  obtain rfl : u = Value.ref d := rx
  obtain ⟨hs, hgd, hx, es, ep, us, hdt, hsz, kv, hm⟩ := frzB I1 hd
  refine iter_keys hs hgd hx hdt (pi_one (tk := s1.toks) I1 _ (turn_bkeys _ hdt) ⟨_, Heap.get?_push_size _ rfl, rfl, ?_⟩ q)
  rw [hsz] <;> rfl
end DL
namespace DL
open PySem PySem.Spec PyProof.Rows L2
variable {K : PySem.W.Frag}
def putB (kvs : List (Bool × D)) (k : Bool) (v : D) : List (Bool × D) :=
  if (kvs.any fun kv => decide (kv.1 = k)) = true then kvs.map (fun kv => if kv.1 = k then (kv.1, v) else kv) else kvs ++ [(k, v)]
inductive DbR (K : PySem.W.Frag) (O : Addr → Prop) (H : Hp) : List (Bool × V) → List (Bool × D) → Prop
  | nil : DbR K O H [] []
  | cons {k : Bool} {v : V} {d : D} {vs : List (Bool × V)} {kvs : List (Bool × D)} : At K O H v d → DbR K O H vs kvs → DbR K O H ((k, v) :: vs) ((k, d) :: kvs)
section
variable {O O' : Addr → Prop} {H H' : Hp}
theorem DbR.of : ∀ {vs : List (Bool × V)} {kvs : List (Bool × D)}, vs.map Prod.fst = kvs.map Prod.fst → AtAll K O H (vs.map Prod.snd) (kvs.map Prod.snd) → DbR K O H vs kvs
  | [], [], _, _ => .nil
  | [], _ :: _, e, _ => by simp at e
  | _ :: _, [], e, _ => by simp at e
  | (k, v) :: vs, (k', d) :: kvs, e, r => by
    simp only [List.map_cons, List.cons.injEq] at e r
    obtain ⟨rfl, e⟩ := e
    cases r with
    | cons a r => exact .cons a (DbR.of e r)
theorem DbR.fst : ∀ {vs : List (Bool × V)} {kvs : List (Bool × D)}, DbR K O H vs kvs → vs.map Prod.fst = kvs.map Prod.fst
  | _, _, .nil => rfl
  | _, _, .cons a r => by simp only [List.map_cons, r.fst]
theorem DbR.snd : ∀ {vs : List (Bool × V)} {kvs : List (Bool × D)}, DbR K O H vs kvs → AtAll K O H (vs.map Prod.snd) (kvs.map Prod.snd)
  | _, _, .nil => .nil
  | _, _, .cons a r => .cons a r.snd
theorem DbR.length : ∀ {vs : List (Bool × V)} {kvs : List (Bool × D)}, DbR K O H vs kvs → vs.length = kvs.length
  | _, _, .nil => rfl
  | _, _, .cons a r => by simp only [List.length_cons, r.length]
theorem DbR.mv (m : Mv O O' H H') : ∀ {vs : List (Bool × V)} {kvs : List (Bool × D)}, DbR K O H vs kvs → DbR K O' H' vs kvs
  | _, _, .nil => .nil
  | _, _, .cons a r => .cons (a.mv m) (r.mv m)
theorem DbR.any (p : Bool → Bool) : ∀ {vs : List (Bool × V)} {kvs : List (Bool × D)}, DbR K O H vs kvs → (vs.any fun kv => p kv.1) = kvs.any fun kv => p kv.1
  | _, _, .nil => rfl
  | _, _, .cons a r => by simp only [List.any_cons, r.any p]
theorem DbR.put {v : V} {d : D} (k : Bool) (a : At K O H v d) {vs : List (Bool × V)} {kvs : List (Bool × D)} (r : DbR K O H vs kvs) : DbR K O H (putK vs k v) (putB kvs k d) := by
  unfold putK putB
  rw [r.any fun j => decide (j = k)]
  split
  · rename_i h
    clear h
    induction r with
    | nil => exact .nil
    | cons b r ih =>
      simp only [List.map_cons]
      split
      · exact .cons a ih
      · exact .cons b ih
  · rename_i h
    clear h
    induction r with
    | nil => exact .cons a .nil
    | cons b r ih => exact .cons b ih
end
theorem SlotR.dbR {O : Addr → Prop} {H : Hp} {v : V} {kvs : List (Bool × D)} (h : SlotR K O H v (.db kvs)) : ∃ a vs, v = .ref a ∧ O a ∧ H a = some (BD a vs) ∧ DbR K O H vs kvs := by
  obtain ⟨a, vs, e, o, h, f, r⟩ := h
  exact ⟨a, vs, e, o, h, .of f r⟩
theorem SlotR.of_dbR {O : Addr → Prop} {H : Hp} {a : Addr} {vs : List (Bool × V)} {kvs : List (Bool × D)} (o : O a) (h : H a = some (BD a vs)) (r : DbR K O H vs kvs) : SlotR K O H (.ref a) (.db kvs) := ⟨a, vs, rfl, o, h, r.fst, r.snd⟩
section
variable {X : Cx} {z : Z} {e : Expr} {pos : Pos} {i j : Nat} {o : Expr} {fr : Bool}
/-- x = {} -/
def sSetDb (j : Nat) : SF := fun env => .ok (.nx (env.set j (some (.db []))))
theorem ds_setDb {x : Str} {pos' dpos : Pos} (hN : X.N.Nodup) (hn : X.N[j]? = some x) (hx : Loc X.env.scope x) (hj : j ∉ z.np)
    (hs : swapsWith (.Dict [] [] dpos) (some (.Name x pos')) pos.line X.env = pure false := by rfl) (hf : X.fn x = true ∨ X.env.scope.names.lookup x = some .local := by first | exact .inl rfl | exact .inr rfl | assumption) :
    DS z X fr (.Assign [.Name x pos'] (.Dict [] [] dpos) pos) (sSetDb j) :=
  ds_imp (ps_set hN hn hx pe_bnew hs hf) fun B env σ H Dd I p => by
    unfold sSetDb at p
    intro q hq
    obtain ⟨I3, m3⟩ := I.setDb (i := j) (p := q) hj hq
    exact p _ _ I3 m3
/-- d[k] = v -/
def sDbSto (i : Nat) (g f : EF) : SF := fun env => (f env).bind fun p => match p.2[i]? with
  | some (some (.db _)) => (g p.2).bind fun q => match q.2[i]?, q.1 with
    | some (some (.db kvs)), .bool k => if kvs.length < sizeLine then .ok (.nx (q.2.set i (some (.db (putB kvs k p.1))))) else .stuck
    | _, _ => .stuck
  | _ => .stuck
theorem ds_dbsto {fe ff : Bool} {g f : EF} {value : Expr} {pos' : Pos} (ho : PE X o (tVar i)) (he : DE z X fe e g) (hv : DE z X ff value f) (hs : swapsWith value (some (.Subscript o e pos')) pos.line X.env = pure false := by rfl) :
    DS z X fr (.Assign [.Subscript o e pos'] value pos) (sDbSto i g f) :=
  ds_imp (ps_bput ho he hv hs) fun B env σ H Dd I p => by
    unfold sDbSto at p
    refine ⟨B, env, I, (R.post_bind p).imp (fun p hp v H1 I1 m1 a1 _ => ?_) fun _ _ q => q.xp⟩
    split at hp
    · rename_i kvs0 e0
      obtain ⟨v0, hv0, q0⟩ := I1.slot i _ e0
      refine ⟨v0, hv0, B, p.2, I1, (R.post_bind hp).imp (fun q hq u H2 I2 m2 a2 _ => ?_) fun _ _ q => (XS.step m1 q).xp⟩
      split at hq
      · rename_i kvs k e1 eq
        split at hq
        · rename_i hlen
          obtain ⟨v1, hv1, q1⟩ := I2.slot i _ e1
          rw [hv0] at hv1
          cases hv1
          obtain ⟨a, vs, rfl, hO, hH, r⟩ := q1.dbR
          have eu : u = .bl k := by
            rw [eq] at a2
            cases a2
            rfl
          have rp : DbR X.K (B.O σ q.2) H2 (putK vs k v) (putB kvs k p.1) := r.put k (At.mv m2 a1)
          have mw : Mv (B.O σ q.2) (B.O σ q.2) H2 (upd H2 a (BD a (putK vs k v))) := ⟨fun b u e n => by rw [upd_ne fun z => n (by rw [z]; exact hO)]; exact e, fun _ h => .inl h, fun b e => by
            by_cases z : b = a
            · rw [z, upd_same] at e; cases e
            · rw [upd_ne z] at e; exact e⟩
          obtain ⟨I3, m3⟩ := I2.write (s' := .db (putB kvs k p.1)) e1 rfl rfl hv0 (SlotR.of_dbR hO upd_same (rp.mv mw))
          exact ⟨a, vs, k, rfl, eu, hH, by rw [r.length]; exact hlen, hq σ _ I3 ((m1.trans m2).trans m3)⟩
        · exact hq.elim
      · exact hq.elim
    · exact hp.elim
/-- [d[x] for x in d] -/
def tBVals (i : Nat) : TE := fun σ H Q => ∃ a vs, σ[i]? = some (some (.ref a)) ∧ H a = some (BD a vs) ∧ (vs.map Prod.fst).Nodup ∧ vs.length < sizeLine ∧ ∀ p, H p = none → Q (.ref p) (upd H p (.lst (vs.map Prod.snd)))
theorem valV_at {vs : List (Bool × V)} (nd : (vs.map Prod.fst).Nodup) : ∀ {i : Nat} {k : Bool} {v : V}, vs[i]? = some (k, v) → valV vs k = some v := by
  induction vs with
  | nil => intro i k v h; simp at h
  | cons p r ih =>
    intro i k v h
    rw [List.map_cons, List.nodup_cons] at nd
    cases i with
    | zero =>
      have e : p = (k, v) := by simpa using h
      subst e
      exact valV_pos rfl
    | succ i =>
      have h : r[i]? = some (k, v) := by simpa using h
      rw [valV_neg fun z => nd.1 (List.mem_map.mpr ⟨_, List.mem_of_getElem? h, z.symm⟩)]
      exact ih nd.2 h
theorem pe_bvals {x y : Str} {scope : Scope} {p1 p2 p3 p4 p5 pos : Pos} (hc : X.calm = true) (hN : X.N.Nodup) (ho : PE X (.Name x p1) (tVar i)) (ok : BlkOk X.N X.env.scope scope [(y, j)]) (hij : i ≠ j) (hj : X.N[j]? = some y)
    (hg : ∀ (s : Shared) (H : Hp) (C : Addr) (cl : List (Str × Addr)) (fp : List Addr), PG (X.blk s H scope (compEnvC scope cl C X.env) fp) (.Name y p2) (gName j))
    (he : ∀ (s : Shared) (H : Hp) (C : Addr) (cl : List (Str × Addr)) (fp : List Addr), PE (X.blk s H scope (compEnvC scope cl C X.env) fp) (.Name x p3) (tVar i))
    (hk : ∀ (s : Shared) (H : Hp) (C : Addr) (cl : List (Str × Addr)) (fp : List Addr), PE (X.blk s H scope (compEnvC scope cl C X.env) fp) (.Name y p4) (tVar j)) :
    PE X (.ListComp (.Subscript (.Name x p3) (.Name y p4) p5) [⟨.Name y p2, .Name x p1, [], 0⟩] scope pos) (tBVals i) := by
  have P : PE X (.ListComp (.Subscript (.Name x p3) (.Name y p4) p5) [⟨.Name y p2, .Name x p1, [], 0⟩] scope pos) _ := pe_lock (pe_lc hc hN (pi_bkeys ho) ok hg (fun _ _ _ _ _ => pts_nil) fun s H C cl fp => pe_bget (he s H C cl fp) (hk s H C cl fp) (fun _ _ => rfl))
  refine ⟨fun pins s σ H Q I hh => P.run pins s σ H Q I ?_⟩
  obtain ⟨a, vs, hσ, hH, nd, hl, q⟩ := hh
  have lj : j < σ.length := by
    rw [I.len]
    exact (List.getElem?_eq_some_iff.mp hj).1
  refine ⟨a, BD a vs, hH, BD_mut a vs, fun od => ?_⟩
  refine ⟨.ref a, hσ, a, od, vs, rfl, upd_same, fun p hp => ?_⟩
  have pa : p ≠ a := fun z => by rw [z, upd_same] at hp; cases hp
  have hp0 : H p = none := by rw [upd_ne pa] at hp; exact hp
  let G : Nat → Hp := fun n => upd (upd H a (.frz od (BD a vs))) p (.lst ((vs.map Prod.snd).take n))
  have Ga : ∀ n, G n a = some (.frz od (BD a vs)) := fun n => by
    show upd (upd H a (.frz od (BD a vs))) p (.lst ((vs.map Prod.snd).take n)) a = _
    rw [upd_ne (Ne.symm pa), upd_same]
  refine ⟨fun n m H' => m = vs.length - n ∧ n ≤ vs.length ∧ H' = G n, ⟨_, rfl, Nat.zero_le _, rfl⟩, ?_⟩
  rintro n m H' ⟨rfl, hn, rfl⟩
  by_cases hs : vs.length ≤ n
  · refine .inl ⟨⟨Ga n, hs⟩, Ga n, ?_⟩
    have e : upd (G n) a (BD a vs) = upd H p (.lst (vs.map Prod.snd)) := by
      funext b
      show upd (upd (upd H a (.frz od (BD a vs))) p (.lst ((vs.map Prod.snd).take n))) a (BD a vs) b = _
      rw [List.take_of_length_le (by rw [List.length_map]; exact hs)]
      by_cases b1 : b = a
      · rw [b1, upd_same, upd_ne (Ne.symm pa), hH]
      · rw [upd_ne b1]
        by_cases b2 : b = p
        · rw [b2, upd_same, upd_same]
        · rw [upd_ne b2, upd_ne b1, upd_ne b2]
    rw [e]
    exact q p hp0
  · refine .inr ⟨⟨Ga n, by omega⟩, fun H' => H' = G (n + 1), fun H' e => ⟨vs.length - (n + 1), by omega, rfl, by omega, e⟩, ?_⟩
    rintro x H' ⟨rfl, k, v, hkv, rfl⟩
    refine ⟨(wipe_set (show j ∈ List.map (fun q : Str × Nat => q.2) [(y, j)] from List.mem_cons_self ..)).trans (wipe_wipe σ _), ?_⟩
    show tBGet (tVar i) (tVar j) _ _ _
    have w1 : wipe σ (List.map (·.2) [(y, j)]) = σ.set j none := rfl
    rw [w1]
    have s1 : ((σ.set j none).set j (some (V.bl k)))[i]? = some (some (.ref a)) := by
      rw [List.getElem?_set_ne (Ne.symm hij), List.getElem?_set_ne (Ne.symm hij)]
      exact hσ
    have s2 : ((σ.set j none).set j (some (V.bl k)))[j]? = some (some (.bl k)) := by
      rw [List.getElem?_set_self (by rw [List.length_set]; exact lj)]
    refine ⟨_, s1, _, s2, a, vs, k, v, rfl, rfl, .inr ⟨od, Ga n⟩, valV_at nd hkv, (vs.map Prod.snd).take n, upd_same, ?_, ?_⟩
    · rw [List.length_take, List.length_map]
      omega
    · show upd (upd (upd H a (.frz od (BD a vs))) p _) p _ = upd _ p _
      rw [upd_upd]
      congr 2
      have hn2 : n < (vs.map Prod.snd).length := by rw [List.length_map]; omega
      rw [List.take_succ_eq_append_getElem hn2, List.getElem_map]
      obtain ⟨h1, h2⟩ := List.getElem?_eq_some_iff.mp hkv
      rw [h2]
def fDbVals (i : Nat) : EF := fun env => match env[i]? with
  | some (some (.db kvs)) => if (kvs.map Prod.fst).Nodup ∧ kvs.length < sizeLine then .ok (.list (kvs.map Prod.snd), env) else .stuck
  | _ => .stuck
theorem de_dbvals {x y : Str} {scope : Scope} {p1 p2 p3 p4 p5 pos : Pos} (hc : X.calm = true) (hN : X.N.Nodup) (ho : PE X (.Name x p1) (tVar i)) (ok : BlkOk X.N X.env.scope scope [(y, j)]) (hij : i ≠ j) (hj : X.N[j]? = some y)
    (hg : ∀ (s : Shared) (H : Hp) (C : Addr) (cl : List (Str × Addr)) (fp : List Addr), PG (X.blk s H scope (compEnvC scope cl C X.env) fp) (.Name y p2) (gName j))
    (he : ∀ (s : Shared) (H : Hp) (C : Addr) (cl : List (Str × Addr)) (fp : List Addr), PE (X.blk s H scope (compEnvC scope cl C X.env) fp) (.Name x p3) (tVar i))
    (hk : ∀ (s : Shared) (H : Hp) (C : Addr) (cl : List (Str × Addr)) (fp : List Addr), PE (X.blk s H scope (compEnvC scope cl C X.env) fp) (.Name y p4) (tVar j)) :
    DE z X false (.ListComp (.Subscript (.Name x p3) (.Name y p4) p5) [⟨.Name y p2, .Name x p1, [], 0⟩] scope pos) (fDbVals i) :=
  de_imp (pe_bvals hc hN ho ok hij hj hg he hk) fun B env σ H Q I hp => by
    unfold fDbVals at hp
    split at hp
    · rename_i kvs e0
      split at hp
      · rename_i hd
        obtain ⟨v0, hv, q0⟩ := I.slot i _ e0
        obtain ⟨a, vs, rfl, hO, hH, r⟩ := q0.dbR
        refine ⟨a, vs, hv, hH, by rw [r.fst]; exact hd.1, by rw [r.length]; exact hd.2, fun p hp0 => ?_⟩
        have I1 := I.ex (Ex.new (o := .lst (vs.map Prod.snd)) hp0)
        have m1 : Mv (B.O σ env) (B.O σ env) H (upd H p (.lst (vs.map Prod.snd))) := Mv.ex (Ex.new hp0)
        refine hp (.ref p) _ I1 m1 (.lst ⟨.inl (.inl upd_same), fun w => absurd w (I.nO hp0)⟩ (AtAll.mv m1 r.snd)) fun q => nomatch q
      · exact hp.elim
    · exact hp.elim
end
end DL
namespace DL
open PySem PySem.Spec PyProof.Rows L2
variable {K : PySem.W.Frag}
/-- what the written part tells of an error's class with an own __init__ -/
structure InitF (K : PySem.W.Frag) (mg : Str → Option Value) (x f : Str) (st : Stmt) (C : Addr) : Prop where
  g : mg x = some (.ref C)
  T : OexC K C
  no : PySem.W.findIn K (.ref C) f = some none
  ini : ∃ (fI : Addr) (fd : FuncData) (q : Str), PySem.W.findIn K (.ref C) "__init__" = some (some (.ref fI)) ∧ PySem.W.typeIn K (.ref fI) = some (.type "function") ∧ Fun K "__init__" q st fI fd ∧ L2.Binds K fd ["self", f] []
def spI (C : Addr) (f : Str) : Sp := fun vs H Q _ => ∃ (a : Addr) (y : V), vs = [.ref a, y] ∧ H a = some (exo a C none) ∧ ∀ dx, H dx = none → dx ≠ a → Q .non (upd (upd H dx (exd dx [(f, y)])) a (exo a C (some dx)))
section
variable {P : Program} {w : World} {mg : Str → Option Value} {base : Heap}
theorem init_ok {f q : Str} {st : Stmt} {C fI : Addr} {fd : FuncData} {p1 p2 p3 p4 : Pos} (F : Fun K "__init__" q st fI fd) (T : OexC K C) (no : PySem.W.findIn K (.ref C) f = some none) (S : FnScope ["self", f] ["self", f] (defScope st))
    (hb : defBody st = [.Assign [.Attribute (.Name "self" p1) f p2] (.Name f p3) p4]) (hs : Vis (defScope st) "self") (hf : Vis (defScope st) f) (hd : (f == ("__debug__" : Str)) = false := by decide) (hcd : (f == ("__classdict__" : Str)) = false := by decide)
    (hsw : ∀ env, swapsWith (.Name f p3) (some (.Attribute (.Name "self" p1) f p2)) p4.line env = pure false := by intro _; rfl) :
    FnOk P w K mg base CX0 1 fI fd ["self", f] (spI C f) := by
  refine F.ok S (fun vs H Q E h => ?_) fun cdv A outer s H vs Q E hr h => ?_
  · obtain ⟨a, y, rfl, _⟩ := h
    rfl
  · obtain ⟨a, y, rfl, ha, q⟩ := h
    rw [hb]
    refine ⟨_, pss_one (ps_ost (pv 0 rfl hs) (pv 1 rfl hf hd hcd) (hsw _)), ?_⟩
    exact ⟨y, rfl, .ref a, rfl, a, C, rfl, T, no, .inl ⟨ha, fun dx n ne => q dx n ne⟩⟩
end
section
variable {X : Cx} {z : Z} {fr fe : Bool} {k : Nat} {e : Expr} {g : EF} {pos : Pos}
/-- raise c(e), the error has the field f -/
def sRaiseP (c f : Str) (g : EF) : SF := fun env => (g env).bind fun p => .err ⟨c, [(f, p.1)]⟩ p.2
theorem ds_raiseP {c f : Str} {st : Stmt} {C : Addr} {p pos' : Pos} {p1 p2 p3 p4 : Pos} (hc : X.calm = true) (tk : L2N.Takes X z.W) (F : InitF X.K X.mg c f st C) (S : FnScope ["self", f] ["self", f] (defScope st))
    (hb : defBody st = [.Assign [.Attribute (.Name "self" p1) f p2] (.Name f p3) p4]) (hs : Vis (defScope st) "self") (hf : Vis (defScope st) f) (hr : Room k X.A) (hk : 2 ≤ k) (hC : z.ca = caOf X.mg) (he : DE z X fe e g) (hg : Gl X c)
    (hd : (f == ("__debug__" : Str)) = false := by decide) (hcd : (f == ("__classdict__" : Str)) = false := by decide) (hsw : ∀ env, swapsWith (.Name f p3) (some (.Attribute (.Name "self" p1) f p2)) p4.line env = pure false := by intro _; rfl)
    (hdb : (c == ("__debug__" : Str)) = false := by decide) (hst : starEach [e] X.env = (false, eval e X.env) :: starEach [] X.env := by rfl) :
    DS z X fr (.Raise (some (.Call (.Name c p) [e] [] pos)) none pos') (sRaiseP c f g) := by
  obtain ⟨gC, T, no, fI, fd, q, iC, tI, Fu, bI⟩ := F
  have Fn := init_ok (P := X.prog) (w := X.w) (mg := X.mg) (base := X.base) Fu T no S hb hs hf hd hcd hsw
  have R1 := L2N.pmk_oexN (X := X) (p := p) (pos := pos) T iC tI Fn (hr.mono hk) bI (.nil : Vals [] []) pass0 hg gC (pa_cons he pa_nil hst) hdb hst rfl
  refine ds_imp (L2N.ps_raise hc tk R1) fun B env σ H Dd I pp => ?_
  unfold sRaiseP at pp
  refine ⟨B, env, I, (R.post_bind pp).imp (fun q hq v H1 I1 m1 a1 _ => ?_) fun _ _ q => q.xp⟩
  refine ⟨by simp, fun a na => ⟨a, v, rfl, upd_same, fun dx hdx da => ?_⟩⟩
  have hd1 : H1 dx = none := by rw [upd_ne da] at hdx; exact hdx
  have h2 : (upd (upd (upd H1 a (exo a C none)) dx (exd dx [(f, v)])) a (exo a C (some dx))) dx = some (exd dx [(f, v)]) := by rw [upd_ne da, upd_same]
  refine ⟨rfl, dx, [(f, v)], upd_same, h2, hd1, ?_⟩
  have e1 : upd (del (upd (upd (upd H1 a (exo a C none)) dx (exd dx [(f, v)])) a (exo a C (some dx))) a) dx (.xd [(f, v)]) = upd H1 dx (.xd [(f, v)]) := by
    funext b
    by_cases hb1 : b = dx
    · rw [hb1, upd_same, upd_same]
    · rw [upd_ne hb1, upd_ne hb1]
      by_cases hb2 : b = a
      · rw [hb2, del_same, na]
      · rw [del_ne hb2, upd_ne hb2, upd_ne hb1, upd_ne hb2]
  rw [e1]
  have I2 := I1.ex (Ex.new (o := .xd [(f, v)]) hd1)
  have m2 : Mv (B.O σ q.2) (B.O σ q.2) H1 (upd H1 dx (.xd [(f, v)])) := Mv.ex (Ex.new hd1)
  have nO : ¬ B.O σ q.2 dx := I1.nO hd1
  have ec : z.ca c = C := by rw [hC]; exact caOf_eq gC
  exact hq (.ref C) (some dx) σ _ I2 (m1.trans m2) ⟨by rw [ec], dx, [(f, v)], rfl, ⟨upd_same, nO⟩, rfl, .cons (At.mv m2 a1) .nil⟩
end
end DL
namespace DL
open PySem PySem.Spec PyProof.Rows L2
variable {K : PySem.W.Frag}
/-- the i-th statement of a class's body -/
def clsS (s : Stmt) (i : Nat) : Stmt := match s with
  | .ClassDef _ _ _ body _ _ _ _ _ _ _ => body.getD i (.Pass ⟨0, 0, 0, 0⟩)
  | _ => .Pass ⟨0, 0, 0, 0⟩
def veB (K : PySem.W.Frag) (C : Addr) : Bool := match K.lookup C with
  | some ⟨.type "type", _, .cls cd, sl⟩ => (match cd.mro, sl.toList with
    | .ref C' :: bm, [_, _, _, _, some (.builtin n), _] => decide (C' = C) && (decide (n = "ValueError.__new__") && (!cd.hasDel && (cd.hasDict && PySem.HandSPX.refsVE bm)))
    | _, _ => false)
  | _ => false
theorem veB_ok {C : Addr} (q : veB K C = true) : ∃ nm qn N bs bm sn sub ab col dd k0 k1 k2 k3 k5, K.lookup C = some (excClassObj nm qn C N bs bm true sn sub ab col dd k0 k1 k2 k3 k5 "ValueError.__new__") ∧ PySem.HandSPX.refsVE bm = true := by
  unfold veB at q
  split at q
  · rename_i dd cd sl lk
    split at q
    · rename_i C' bm k0 k1 k2 k3 n k5 em es
      simp only [Bool.and_eq_true, decide_eq_true_eq, Bool.not_eq_true'] at q
      obtain ⟨rfl, rfl, q3, q4, q5⟩ := q
      obtain ⟨nm, bs, mro, ns, qn, hd, sn, sub, ab, col, del⟩ := cd
      dsimp only at em q3 q4
      subst em q3 q4
      obtain ⟨l⟩ := sl
      dsimp only at es
      subst es
      exact ⟨nm, qn, ns, bs, bm, sn, sub, ab, col, dd, k0, k1, k2, k3, k5, lk, q5⟩
    · cases q
  · cases q
def oexB (K : PySem.W.Frag) (C : Addr) (f : Str) : Bool := veB K C && ((PySem.W.findIn K (.ref C) "__setattr__" == some (some (.builtin "object.__setattr__"))) && ((PySem.W.subIn K (.ref C) (.type "BaseException") == some true) &&
  ((PySem.W.typeIn K (.ref C) == some (.type "type")) && (PySem.W.keepIn K (.ref C) && (PySem.W.findIn K (.ref C) f == some none)))))
theorem initf_of {h : Heap} {mg : Str → Option Value} {x f q : Str} {st : Stmt} {C fI : Addr} {od an : Option Addr} {sl : Array (Option Value)} {oc kV dc pm cd ct : Value} (KX : K.In h) (G : h.Ns mainGlobals mg)
    (a : PySem.W.nsIn K mainGlobals x = some (some (.ref C))) (t : oexB K C f = true) (i : PySem.W.findIn K (.ref C) "__init__" = some (some (.ref fI))) (ti : PySem.W.typeIn K (.ref fI) = some (.type "function"))
    (l : K.lookup fI = some ⟨oc, od, .func (PySem.W.fnOf "__init__" q (defArgs st) (defBody st) (defScope st) .none kV dc pm an cd ct), sl⟩) (c : PySem.W.codeIn K cd q = true) (k : PySem.W.keepIn K (.ref fI) = true)
    (b : ∀ (kV doc pm : Value) (an : Option Addr) (cdv ct : Value) (us : List Value), us.length = (["self", f] : List Str).length → bindArgs (PySem.W.fnOf "__init__" q (defArgs st) (defBody st) (defScope st) .none kV doc pm an cdv ct) ⟨us, []⟩ = pure ((["self", f] : List Str).zip us)) :
    InitF K mg x f st C := by
  unfold oexB at t
  simp only [Bool.and_eq_true, beq_iff_eq] at t
  obtain ⟨t1, t2, t3, t4, t5, t6⟩ := t
  refine ⟨PySem.W.mg_of KX G a, ⟨veB_ok t1, t2, t3, t4, t5⟩, t6, fI, _, q, i, ti, fun_mk l c k, (fun_mk l c k).binds b⟩
end DL
namespace DL
open PySem PySem.Spec PyProof.Rows L2
variable {K : PySem.W.Frag}
section
variable {X : Cx} {z : Z} {fr fe : Bool} {e : Expr} {g : EF} {pos : Pos} {i j : Nat}
def fListRg (g : EF) : EF := fun env => (g env).bind fun p => match p.1 with
  | .int n => if 0 ≤ n ∧ n ≤ 16777216 then .ok (.list (rangeL 0 n.toNat), p.2) else .stuck
  | _ => .stuck
theorem rg_at (O : Addr → Prop) (H : Hp) : ∀ n : Nat, AtAll K O H ((List.range n).map fun i => V.int (0 + (i : Nat))) ((List.range n).map fun i => PyData.int (0 + (i : Nat))) := by
  intro n
  generalize List.range n = is
  induction is with
  | nil => exact .nil
  | cons i is ih => exact .cons (.int _) ih
theorem de_listRg {p p2 pos2 : Pos} (hc : X.calm = true) (he : DE z X fe e g) (hg : Gl X "list") (hm : X.mg "list" = none) (hg2 : Gl X "range") (hm2 : X.mg "range" = none)
    (n1 : starEach [.Call (.Name "range" p2) [e] [] pos2] X.env = (false, eval (.Call (.Name "range" p2) [e] [] pos2) X.env) :: starEach [] X.env := by rfl) (n2 : starEach [e] X.env = (false, eval e X.env) :: starEach [] X.env := by rfl) :
    DE z X true (.Call (.Name "list" p) [.Call (.Name "range" p2) [e] [] pos2] [] pos) (fListRg g) :=
  de_imp (pe_listRg hc hg hm (prg_1 hg2 hm2 he n2) n1) fun B env σ H Q I hp => by
    unfold fListRg at hp
    refine ⟨B, env, I, (R.post_bind hp).imp (fun p hp v H1 I1 m1 a1 _ => ?_) fun _ _ q => q⟩
    obtain ⟨d, e2⟩ := p
    dsimp only at hp a1
    cases d with
    | int m0 =>
      simp only at hp
      split at hp
      · rename_i hn
        cases a1
        refine ⟨m0, rfl, RgOk.of_le (by decide) hn.2 (by decide) hn.1, fun q hq => ?_⟩
        have e1 : rgV 0 m0 = (List.range m0.toNat).map fun i => V.int (0 + (i : Nat)) := by
          unfold rgV
          rw [Int.sub_zero]
        rw [e1]
        exact EP1.give hp I1 m1 (Res.lst I1.od hq (rg_at _ _ _))
      · exact hp.elim
    | _ => exact hp.elim
end
end DL
namespace DL
open PySem PySem.Spec PyProof.Rows L2
variable {K : PySem.W.Frag}
/-- .. where α holds o for the time being: it is nobody's data, and it stays -/
def Bs.hold (B : Bs) (α : Addr) (o : HO) : Bs := ⟨plus B.O0 α, B.H0, B.ps, fun a => if a = α then some o else B.kp a, B.fx⟩
section
variable {np : List Nat} {B : Bs} {σ : Sg} {H H1 H2 : Hp} {env e1 e2 : En} {α : Addr} {o : HO}
theorem Bs.hold_O (a : Addr) : (B.hold α o).O σ env a ↔ plus (B.O σ env) α a := by
  constructor
  · rintro ((h | h) | h)
    · exact .inl (.inl h)
    · exact .inr h
    · exact .inl (.inr h)
  · rintro ((h | h) | h)
    · exact .inl (.inl h)
    · exact .inr h
    · exact .inl (.inr h)
/-- what is moved under a hold is moved without it, from before α -/
theorem Mv.hold (m1 : Mv (B.O σ env) (B.O σ e1) H H1) (m : Mv ((B.hold α o).O σ e1) ((B.hold α o).O σ e2) H1 H2) (na : H α = none) : Mv (B.O σ env) (B.O σ e2) H H2 := by
  refine ⟨fun a u e n => ?_, fun a z => ?_, fun a z => m1.dom a (m.dom a z)⟩
  · refine m.keep a u (m1.keep a u e n) fun q => ?_
    rcases (Bs.hold_O a).1 q with q | q
    · exact (m1.own a q).elim n fun z => by rw [z] at e; cases e
    · rw [q, na] at e; cases e
  · rcases m.own a ((Bs.hold_O a).2 (.inl z)) with q | q
    · rcases (Bs.hold_O a).1 q with q | q
      · exact m1.own a q
      · exact .inr (q ▸ na)
    · exact .inr (m1.dom a q)
end
section
variable {X : Cx} {z : Z} {fr : Bool}
/-- j's own list is i's from now on -/
def sMove (i j : Nat) : SF := fun env => match env[j]? with
  | some (some (.ow ds)) => .ok (.nx ((env.set i (some (.ow ds))).set j none))
  | _ => .stuck
/-- an own list is looked at no more -/
def sDrop (i : Nat) (h : SF) : SF := fun env => h (env.set i none)
theorem SR.dropE {np : List Nat} {B : Bs} {σ : Sg} {H : Hp} {env : En} (I : SR K np B σ H env) {i : Nat} (hi : i ∉ np) : SR K np B σ H (env.set i none) ∧ Mv (B.O σ env) (B.O σ (env.set i none)) H H := by
  have ow : ∀ j a, ownedAt σ (env.set i none) j a → j ≠ i ∧ ownedAt σ env j a := fun j a ⟨s, h1, h2, h3⟩ => by
    rcases getElem?_set_some h1 with ⟨e, e2⟩ | ⟨e, h1⟩
    · cases e2
    · exact ⟨e, s, h1, h2, h3⟩
  have wo : ∀ j a, j ≠ i → ownedAt σ env j a → ownedAt σ (env.set i none) j a := fun j a n ⟨s, h1, h2, h3⟩ =>
    ⟨s, by rw [List.getElem?_set_ne (Ne.symm n)]; exact h1, h2, h3⟩
  have m : Mv (B.O σ env) (B.O σ (env.set i none)) H H := Mv.less fun a z => z.elim .inl fun ⟨j, q⟩ => .inr ⟨j, (ow j a q).2⟩
  refine ⟨⟨by simpa using I.len, fun j s hs => ?_, fun j k a h1 h2 => I.dist j k a (ow j a h1).2 (ow k a h2).2, I.keep, I.dom, fun j a h => I.new j a (ow j a h).2, I.o0, I.kept, fun j a h => I.kpo j a (ow j a h).2, fun j a h => I.own0 j a (ow j a h).2, fun p hp => ?_, I.fix⟩, m⟩
  · rcases getElem?_set_some hs with ⟨_, e2⟩ | ⟨e, h1⟩
    · cases e2
    · obtain ⟨u, e1, q⟩ := I.slot j s h1
      exact ⟨u, e1, q.mv m (fun a ea ho => .inr ⟨j, wo j a e ⟨s, h1, ho, ea ▸ e1⟩⟩) fun _ _ _ _ z => z⟩
  · obtain ⟨h1, h2, h3⟩ := I.par p hp
    exact ⟨wo _ _ (fun z => hi (z ▸ h3)) h1, h2, h3⟩
theorem dss_drop {i : Nat} {h : SF} {sts : List Stmt} (hh : DSs z X fr sts h) (hi : i ∉ z.np) : DSs z X fr sts (sDrop i h) := pss_weak hh fun Dd σ H ⟨B, env, I, p⟩ => by
  obtain ⟨I', m⟩ := I.dropE hi
  exact ⟨B, _, I', R.post.imp p (fun o q => q.step m) fun x e q => q.step m⟩
theorem ds_move {i j : Nat} {x : Str} {e : Expr} {pos pos' : Pos} (hN : X.N.Nodup) (hn : X.N[i]? = some x) (hx : Loc X.env.scope x) (he : PE X e (tVar j)) (hi : i ∉ z.np) (hj : j ∉ z.np) (hij : i ≠ j) (hs : swapsWith e (some (.Name x pos')) pos.line X.env = pure false := by rfl)
    (hf : X.fn x = true ∨ X.env.scope.names.lookup x = some .local := by first | exact .inl rfl | exact .inr rfl | assumption) : DS z X fr (.Assign [.Name x pos'] e pos) (sMove i j) := by
  refine ds_imp (ps_set hN hn hx he hs hf) fun B env σ H Dd I p => ?_
  unfold sMove at p
  split at p
  · rename_i ds hd
    obtain ⟨α, xs, e1, hO, hH, hat⟩ := I.ow hd
    refine ⟨.ref α, e1, ?_⟩
    have oj : ownedAt σ env j α := ⟨_, hd, rfl, e1⟩
    have ow : ∀ k a, ownedAt (σ.set i (some (.ref α))) ((env.set i (some (.ow ds))).set j none) k a → (k = i ∧ a = α) ∨ (k ≠ i ∧ k ≠ j ∧ ownedAt σ env k a) := fun k a ⟨s, h1, h2, h3⟩ => by
      rcases getElem?_set_some h1 with ⟨_, e2⟩ | ⟨nj, h1⟩
      · cases e2
      · rcases getElem?_set_some h1 with ⟨e, e2⟩ | ⟨ni, h1⟩
        · rcases getElem?_set_some h3 with ⟨_, e3⟩ | ⟨e3, _⟩
          · cases e3; exact .inl ⟨e, rfl⟩
          · exact absurd e e3
        · rcases getElem?_set_some h3 with ⟨e3, _⟩ | ⟨_, h3⟩
          · exact absurd e3 ni
          · exact .inr ⟨ni, nj, s, h1, h2, h3⟩
    have wo : ∀ k a, k ≠ i → k ≠ j → ownedAt σ env k a → ownedAt (σ.set i (some (.ref α))) ((env.set i (some (.ow ds))).set j none) k a := fun k a n n2 ⟨s, h1, h2, h3⟩ =>
      ⟨s, by rw [List.getElem?_set_ne (Ne.symm n2), List.getElem?_set_ne (Ne.symm n)]; exact h1, h2, by rw [List.getElem?_set_ne (Ne.symm n)]; exact h3⟩
    have m : Mv (B.O σ env) (B.O (σ.set i (some (.ref α))) ((env.set i (some (.ow ds))).set j none)) H H := Mv.less fun a q => q.elim .inl fun ⟨k, q⟩ => (ow k a q).elim (fun q => .inr ⟨j, q.2 ▸ oj⟩) fun q => .inr ⟨k, q.2.2⟩
    refine p _ _ ⟨by simpa using I.len, fun k s hk => ?_, fun k l a h1 h2 => ?_, I.keep, I.dom, fun k a h => ?_, I.o0, I.kept, fun k a h => ?_, fun k a h => ?_, fun q hq => ?_, I.fixSet hi⟩ m
    · rcases getElem?_set_some hk with ⟨_, e2⟩ | ⟨nj, hk1⟩
      · cases e2
      · rcases getElem?_set_some hk1 with ⟨e, e2⟩ | ⟨ni, hk2⟩
        · cases e2
          subst e
          have hl : k < env.length := by
            have := (List.getElem?_eq_some_iff.mp hk1).1
            simpa using this
          have hl' : k < σ.length := by rw [I.len]; exact hl
          have eσ : (σ.set k (some (V.ref α)))[k]? = some (some (.ref α)) := by rw [List.getElem?_set_self hl']
          exact ⟨.ref α, eσ, α, xs, rfl, .inr ⟨k, .ow ds, hk, rfl, eσ⟩, hH, AtAll.mv m hat⟩
        · obtain ⟨u, e1', q⟩ := I.slot k s hk2
          exact ⟨u, by rw [List.getElem?_set_ne (Ne.symm ni)]; exact e1', q.mv m (fun a ea ho => .inr ⟨k, wo k a ni nj ⟨s, hk2, ho, ea ▸ e1'⟩⟩) fun _ _ _ _ z => z⟩
    · rcases ow k a h1 with ⟨e, ea⟩ | ⟨n1, n2, q1⟩
      · rcases ow l a h2 with ⟨e', _⟩ | ⟨n3, n4, q2⟩
        · rw [e, e']
        · rw [ea] at q2
          exact absurd (I.dist l j α q2 oj) n4
      · rcases ow l a h2 with ⟨e', ea⟩ | ⟨n3, n4, q2⟩
        · rw [ea] at q1
          exact absurd (I.dist k j α q1 oj) n2
        · exact I.dist k l a q1 q2
    · rcases ow k a h with ⟨_, ea⟩ | ⟨_, _, q⟩
      · rcases I.new j α oj with q | q
        · have := (I.par _ q).2.2
          exact absurd this hj
        · exact .inr (ea ▸ q)
      · exact I.new k a q
    · rcases ow k a h with ⟨_, ea⟩ | ⟨_, _, q⟩
      · exact ea ▸ I.kpo j α oj
      · exact I.kpo k a q
    · rcases ow k a h with ⟨_, ea⟩ | ⟨_, _, q⟩
      · exact ea ▸ I.own0 j α oj
      · exact I.own0 k a q
    · obtain ⟨h1, h2, h3⟩ := I.par q hq
      exact ⟨wo _ _ (fun z => hi (z ▸ h3)) (fun z => hj (z ▸ h3)) h1, h2, h3⟩
  · exact p.elim
end
end DL
namespace DL
open PySem PySem.Spec PyProof.Rows L2
variable {K : PySem.W.Frag}
def flatL : D → Bool
  | .list ds => ds.all flatD
  | _ => false
def fLendL (f : EF) : EF := fun env => if noDk env = true then (match f (lentE env) with
  | .ok p => if flatL p.1 = true then .ok (p.1, env) else .stuck
  | _ => .stuck) else .stuck
theorem AtAll.flatD {O O' : Addr → Prop} {H : Hp} : ∀ {vs : List V} {ds : List D}, AtAll K O H vs ds → ds.all flatD = true → AtAll K O' H vs ds
  | _, _, .nil, _ => .nil
  | _, _, .cons a r, h => by
    rw [List.all_cons, Bool.and_eq_true] at h
    exact .cons (At.flatD a h.1) (AtAll.flatD r h.2)
section
variable {X : Cx} {e : Expr} {z : Z}
theorem fLendL_dk {f : EF} {env : En} {p : D × En → Prop} {q : Exn → En → Prop} (h : (fLendL f env).post p q) : noDk env = true := by
  unfold fLendL at h
  by_cases hd : noDk env = true
  · exact hd
  · rw [if_neg hd] at h; exact h.elim
theorem sem_lendL {f : EF} {B : Bs} {env : En} {σ : Sg} {H : Hp} {Q : VK} (I : SR K z.np B σ H env) (hd : noDk env = true) (hp : (fLendL f env).post (EP1 K z true B σ H env Q) (XP K z B σ H env)) :
    (f (lentE env)).post (EP1 K z true ⟨B.O0, H, [], H, B.fx⟩ σ H (lentE env) Q) (XP K z ⟨B.O0, H, [], H, B.fx⟩ σ H (lentE env)) := by
  unfold fLendL at hp
  rw [if_pos hd] at hp
  revert hp
  cases f (lentE env) with
  | stuck => exact fun q => q
  | err x s => exact fun q => q.elim
  | ok p =>
    intro q
    simp only at q
    by_cases hf : flatL p.1 = true
    · rw [if_pos hf] at q
      obtain ⟨d, e2⟩ := p
      cases d with
      | list ds =>
        have hf : ds.all flatD = true := hf
        intro v H' I' m a fr
        obtain ⟨α, xs, rfl, nα, nO, hα, ax, _⟩ := fr rfl ds rfl
        have ex : Ex H H' := fun a o h => I'.kept a o h
        have nO' : ¬ B.O σ env α := I.nO nα
        refine q (.ref α) H' (I.ex ex) (Mv.ex ex) (.lst ⟨.inl (.inl hα), fun w => absurd w nO'⟩ (ax.flatD hf)) fun _ ds' e => ?_
        cases e
        exact ⟨α, xs, rfl, nα, nO', hα, ax.flatD hf, Clean.of I ex nα⟩
      | _ => cases hf
    · rw [if_neg hf] at q
      exact q.elim
section
variable {y : Str} {i : Nat} {fr fe : Bool} {elt tg iter : Expr} {ifs : List Expr} {scope : Scope} {own : List (Str × Nat)} {pos py spos : Pos} {gw : En → R En (List D × En)} {ws : List Nat} {T : TF} {t : En → R En (Bool × En)} {f : EF}
theorem ds_setLcOL (hc : X.calm = true) (hN : X.N.Nodup) (hy : X.N[i]? = some y) (hyl : X.env.scope.names.lookup y = some .local)
    (hsw : swapsWith (.ListComp elt [⟨tg, iter, ifs, 0⟩] scope pos) (some (.Name y py)) spos.line X.env = pure true) (hi : DI z X tg iter gw) (ok : BlkOk X.N X.env.scope scope own)
    (hg : ∀ (s : Shared) (H : Hp) (C : Addr) (cl : List (Str × Addr)) (fp : List Addr), PG (X.blk s H scope (compEnvC scope cl C X.env) fp) tg (tG X.K z.quiet ws T)) (ht : ∀ (s : Shared) (H : Hp) (C : Addr) (cl : List (Str × Addr)) (fp : List Addr), PTs (X.blk s H scope (compEnvC scope cl C X.env) fp) ifs (tT X.K z.quiet t))
    (he : ∀ (s : Shared) (H : Hp) (C : Addr) (cl : List (Str × Addr)) (fp : List Addr), PE (X.blk s H scope (compEnvC scope cl C X.env) fp) elt (tE X.K z.quiet fe f)) (hw : ∀ w ∈ ws, w ∈ own.map (·.2)) (hin : i ∉ z.np) (hs : ∀ x, foldedSetIterable iter X.env x = pure x := by intro _; rfl) (hvn : npFree z.np (own.map (·.2)) = true := by rfl) :
    DS z X fr (.Assign [.Name y py] (.ListComp elt [⟨tg, iter, ifs, 0⟩] scope pos) spos) (sSetO i (fLendL (fLc gw T t f (own.map (·.2))))) :=
  ds_imp (ps_setLc hc hN hy hyl hsw hi ok hg ht he hs) fun B env σ H Dd I p =>
    have q := sem_setO I hin p
    sem_lc hw (npFree_not hvn) (I.lend (fLendL_dk q)) (sem_lendL I (fLendL_dk q) q)
end
end
end DL
namespace DL
open PySem PySem.Spec PyProof.Rows L2
/-- a zip of two lists that has given out i pairs, all of which are still there -/
def ZSt (h : Heap) (z TI TO i1 i2 l1 l2 S : Addr) (xs ys : Array Value) (i : Nat) : Prop :=
  IsPair h TI (.ref i1) (.ref i2) ∧ h.IsListIter i1 l1 i ∧ h.IsListIter i2 l2 i ∧ h.IsList l1 xs ∧ h.IsList l2 ys ∧
    ((IsZip h z TI TO .none ∧ ∃ a b, IsPair h TO a b) ∨ ∃ T f oT, IsZipHeld h z TI TO T f ∧ h.get? T = some oT ∧ T ≠ z ∧ T ≠ i1 ∧ T ≠ i2 ∧ T ≠ S)
/-- the zip's own objects, and the lists it walks, lie ahead of the list that is made -/
structure ZLow (z TI TO i1 i2 l1 l2 S : Addr) : Prop where
  D : ZipApart z TI TO i1 i2 l1 l2
  z : z < S
  TI : TI < S
  TO : TO < S
  i1 : i1 < S
  i2 : i2 < S
  l1 : l1 < S
  l2 : l2 < S
theorem ZSt.keep {h h' : Heap} {z TI TO i1 i2 l1 l2 S : Addr} {xs ys : Array Value} {i : Nat} (L : ZLow z TI TO i1 i2 l1 l2 S) (x : ZSt h z TI TO i1 i2 l1 l2 S xs ys i) (hk : ∀ b o, b ≠ S → h.get? b = some o → h'.get? b = some o) : ZSt h' z TI TO i1 i2 l1 l2 S xs ys i := by
  obtain ⟨hTI, h1, h2, hl1, hl2, hz⟩ := x
  refine ⟨hk _ _ (Nat.ne_of_lt L.TI) hTI, h1.at fun o e => hk _ o (Nat.ne_of_lt L.i1) e, h2.at fun o e => hk _ o (Nat.ne_of_lt L.i2) e, hl1.at fun o e => hk _ o (Nat.ne_of_lt L.l1) e, hl2.at fun o e => hk _ o (Nat.ne_of_lt L.l2) e, ?_⟩
  rcases hz with ⟨hz, a, b, hTO⟩ | ⟨T, f, oT, hz, hT, r1, r2, r3, r4⟩
  · exact .inl ⟨hk _ _ (Nat.ne_of_lt L.z) hz, a, b, hk _ _ (Nat.ne_of_lt L.TO) hTO⟩
  · exact .inr ⟨T, f, oT, hk _ _ (Nat.ne_of_lt L.z) hz, hk _ _ r4 hT, r1, r2, r3, r4⟩
section
variable {prog : Program} {w : World} {A : Around} {E : Value → Shared → Prop} {s : Shared} {R : Result → Shared → Prop} {z TI TO i1 i2 l1 l2 : Addr} {xs ys : Array Value} {n : Nat}
theorem ZSt.typeIs {S : Addr} {i : Nat} (x : ZSt s.heap z TI TO i1 i2 l1 l2 S xs ys i) : s.TypeIs (.ref z) "zip" := by
  obtain ⟨_, _, _, _, _, hz⟩ := x
  rcases hz with ⟨hz, _⟩ | ⟨_, _, _, hz, _⟩
  · exact ⟨_, hz, rfl⟩
  · exact ⟨_, hz, rfl⟩
end
end DL
namespace DL
open PySem PySem.Spec PyProof.Rows L2
mutual
/-- v stands for d; as: the lists in it, in order; none of them may be changed by others -/
inductive Tr (K : PySem.W.Frag) (O : Addr → Prop) (H : Hp) : V → D → List Addr → Prop
  | non : Tr K O H .non .none []
  | bl (b : Bool) : Tr K O H (.bl b) (.bool b) []
  | int (i : Int) : Tr K O H (.int i) (.int i) []
  | str (x : Str) : Tr K O H (.str x) (.str x) []
  | lst {a : Addr} {xs : List V} {ds : List D} {as : List Addr} : H a = some (.lst xs) → ¬ O a → TrAll K O H xs ds as → Tr K O H (.ref a) (.list ds) (a :: as)
  | tup {a : Addr} {xs : List V} {ds : List D} {as : List Addr} : LT K O H a xs → TrAll K O H xs ds as → Tr K O H (.ref a) (.tuple ds) as
inductive TrAll (K : PySem.W.Frag) (O : Addr → Prop) (H : Hp) : List V → List D → List Addr → Prop
  | nil : TrAll K O H [] [] []
  | cons {v : V} {vs : List V} {d : D} {ds : List D} {as bs : List Addr} : Tr K O H v d as → TrAll K O H vs ds bs → TrAll K O H (v :: vs) (d :: ds) (as ++ bs)
end
section
variable {K : PySem.W.Frag} {O O' : Addr → Prop} {H H' : Hp}
mutual
theorem Tr.mv (m : Mv O O' H H') : ∀ {v : V} {d : D} {as : List Addr}, Tr K O H v d as → Tr K O' H' v d as
  | _, _, _, .non => .non
  | _, _, _, .bl b => .bl b
  | _, _, _, .int i => .int i
  | _, _, _, .str x => .str x
  | _, _, _, .lst h n r => .lst (m.keep _ _ h n) (fun w => (m.own _ w).elim n fun q => by rw [q] at h; cases h) (TrAll.mv m r)
  | _, _, _, .tup l r => .tup (l.mv m) (TrAll.mv m r)
theorem TrAll.mv (m : Mv O O' H H') : ∀ {vs : List V} {ds : List D} {as : List Addr}, TrAll K O H vs ds as → TrAll K O' H' vs ds as
  | _, _, _, .nil => .nil
  | _, _, _, .cons h r => .cons (Tr.mv m h) (TrAll.mv m r)
end
mutual
/-- data without a list in it -/
def noLst : D → Bool
  | .list _ => false
  | .dict _ => false
  | .tuple ds => noLstAll ds
  | _ => true
def noLstAll : List D → Bool
  | [] => true
  | d :: ds => noLst d && noLstAll ds
end
mutual
theorem At.tr : ∀ {v : V} {d : D}, At K O H v d → noLst d = true → Tr K O H v d []
  | _, _, .non, _ => .non
  | _, _, .bl b, _ => .bl b
  | _, _, .int i, _ => .int i
  | _, _, .str x, _ => .str x
  | _, _, .tup l r, h => .tup l (AtAll.tr r (by simpa only [noLst] using h))
  | _, _, .lst _ _, h => by simp only [noLst] at h; cases h
  | _, _, .exc _ _ _, h => by simp only [noLst] at h; cases h
  | _, _, .excP _ _ _ _ _, h => by simp only [noLst] at h; cases h
  | _, _, .sti _ _ _ _ _ _ _, h => by simp only [noLst] at h; cases h
theorem AtAll.tr : ∀ {vs : List V} {ds : List D}, AtAll K O H vs ds → noLstAll ds = true → TrAll K O H vs ds []
  | _, _, .nil, _ => .nil
  | _, _, .cons a r, h => by
    simp only [noLstAll, Bool.and_eq_true] at h
    exact .cons (At.tr a h.1) (AtAll.tr r h.2)
end
end
mutual
def dep : D → Nat
  | .list ds => depAll ds + 1
  | .tuple ds => depAll ds + 1
  | _ => 0
def depAll : List D → Nat
  | [] => 0
  | d :: ds => max (dep d) (depAll ds)
end
mutual
def wt : D → Nat
  | .list ds => wtAll ds + 1
  | .tuple ds => wtAll ds + 1
  | _ => 0
def wtAll : List D → Nat
  | [] => 0
  | d :: ds => wt d + wtAll ds + 1
end
/-- all lists in v are new since H0, no two are one; its depth, its size -/
def TreeT (K : PySem.W.Frag) (n m : Nat) : Hp → (Addr → Prop) → V → Hp → D → Prop := fun H0 O v H d => ∃ as, Tr K O H v d as ∧ as.Nodup ∧ (∀ a ∈ as, H0 a = none) ∧ dep d ≤ n ∧ wt d ≤ m
theorem TreeT.le {K : PySem.W.Frag} {n m n' m' : Nat} {H0 : Hp} {O : Addr → Prop} {v : V} {H : Hp} {d : D} (h : TreeT K n m H0 O v H d) (hn : n ≤ n') (hm : m ≤ m') : TreeT K n' m' H0 O v H d := by
  obtain ⟨as, h1, h2, h3, h4, h5⟩ := h
  exact ⟨as, h1, h2, h3, Nat.le_trans h4 hn, Nat.le_trans h5 hm⟩
/-- a def that hands back such a value -/
def HasT (P : Program) (w : World) (K : PySem.W.Frag) (mg : Str → Option Value) (base : Heap) (ca : Str → Addr) (x : Str) (k : Nat) (ps : List Str) (np : List Nat) (fr : Bool) (F : FD) (a b : Nat) : Prop :=
  ∃ (f : Addr) (fd : FuncData), mg x = some (.ref f) ∧ PySem.W.keepIn K (.ref f) = true ∧ L2.Binds K fd ps [] ∧ FnG P w K mg base k f fd ps (spDT K ca np fr (TreeT K a b) F) ∧ Lk K f fd
theorem HasT.has {P : Program} {w : World} {K : PySem.W.Frag} {mg : Str → Option Value} {base : Heap} {ca : Str → Addr} {x : Str} {k : Nat} {ps : List Str} {np : List Nat} {fr : Bool} {F : FD} {a b : Nat} (h : HasT P w K mg base ca x k ps np fr F a b) : Has P w K mg base ca x k ps np fr F := by
  obtain ⟨f, fd, h1, h2, h3, h4, h5⟩ := h
  exact ⟨f, fd, h1, h2, h3, h4.weak fun _ _ _ _ q => spDT_of q, h5⟩
end DL
namespace DL
open PySem PySem.Spec PyProof.Rows L2
section
variable {K : PySem.W.Frag} {O O' : Addr → Prop} {H H' : Hp}
mutual
theorem Tr.at : ∀ {v : V} {d : D} {as : List Addr}, Tr K O H v d as → At K O H v d
  | _, _, _, .non => .non
  | _, _, _, .bl b => .bl b
  | _, _, _, .int i => .int i
  | _, _, _, .str x => .str x
  | _, _, _, .lst e n r => .lst ⟨.inl (.inl e), fun w => absurd w n⟩ (TrAll.at r)
  | _, _, _, .tup l r => .tup l (TrAll.at r)
theorem TrAll.at : ∀ {vs : List V} {ds : List D} {as : List Addr}, TrAll K O H vs ds as → AtAll K O H vs ds
  | _, _, _, .nil => .nil
  | _, _, _, .cons h r => .cons (Tr.at h) (TrAll.at r)
end
end
end DL
namespace DL
open PySem PySem.Spec PyProof.Rows L2
mutual
def noDct : D → Bool
  | .list ds => noDctAll ds
  | .tuple ds => noDctAll ds
  | .dict _ => false
  | _ => true
def noDctAll : List D → Bool
  | [] => true
  | d :: ds => noDct d && noDctAll ds
end
structure Uq (K : PySem.W.Frag) (H : Hp) : Prop where
  t : ∀ a xs ys, SqT K H a xs → SqT K H a ys → xs = ys
  l : ∀ a xs ys, SqL K H a xs → SqL K H a ys → xs = ys
  x : ∀ a xs ys, SqL K H a xs → SqT K H a ys → False
section
variable {K : PySem.W.Frag} {O : Addr → Prop} {H : Hp}
mutual
theorem At.uniq (U : Uq K H) : ∀ {v : V} {d d' : D}, At K O H v d → At K O H v d' → noDct d = true → noDct d' = true → d = d'
  | _, _, _, .non, .non, _, _ => rfl
  | _, _, _, .bl _, .bl _, _, _ => rfl
  | _, _, _, .int _, .int _, _, _ => rfl
  | _, _, _, .str _, .str _, _, _ => rfl
  | _, _, _, .lst l r, .lst l' r', h, h' => by
    obtain rfl := U.l _ _ _ l.1 l'.1
    simp only [noDct] at h h'
    rw [AtAll.uniq U r r' h h']
  | _, _, _, .tup l r, .tup l' r', h, h' => by
    obtain rfl := U.t _ _ _ l.1 l'.1
    simp only [noDct] at h h'
    rw [AtAll.uniq U r r' h h']
  | _, _, _, .lst l r, .tup l' r', h, h' => (U.x _ _ _ l.1 l'.1).elim
  | _, _, _, .tup l r, .lst l' r', h, h' => (U.x _ _ _ l'.1 l.1).elim
  | _, _, _, .exc _ _ _, _, h, _ => by simp only [noDct] at h; cases h
  | _, _, _, .excP _ _ _ _ _, _, h, _ => by simp only [noDct] at h; cases h
  | _, _, _, .sti _ _ _ _ _ _ _, _, h, _ => by simp only [noDct] at h; cases h
  | _, _, _, _, .exc _ _ _, _, h => by simp only [noDct] at h; cases h
  | _, _, _, _, .excP _ _ _ _ _, _, h => by simp only [noDct] at h; cases h
  | _, _, _, _, .sti _ _ _ _ _ _ _, _, h => by simp only [noDct] at h; cases h
theorem AtAll.uniq (U : Uq K H) : ∀ {vs : List V} {ds ds' : List D}, AtAll K O H vs ds → AtAll K O H vs ds' → noDctAll ds = true → noDctAll ds' = true → ds = ds'
  | _, _, _, .nil, .nil, _, _ => rfl
  | _, _, _, .cons a r, .cons a' r', h, h' => by
    simp only [noDctAll, Bool.and_eq_true] at h h'
    rw [At.uniq U a a' h.1 h'.1, AtAll.uniq U r r' h.2 h'.2]
end
end
def Z.at (z : Z) (j : Nat) : Z := ⟨z.ca, j :: z.np, z.W, z.rt⟩
/-- what is known of the name's value, since the state before -/
structure MOk (K : PySem.W.Frag) (n m : Nat) (z : Z) (B : Bs) (σ0 : Sg) (H0 : Hp) (env0 : En) (σ : Sg) (H : Hp) (env : En) (v : V) (d : D) (as : List Addr) : Prop where
  tr : Tr K (B.O σ env) H v d as
  nd : as.Nodup
  dp : dep d ≤ n
  sz : wt d ≤ m
  nw : ∀ a ∈ as, H0 a = none
  nb : ∀ a ∈ as, B.H0 a = none
  nk : ∀ a ∈ as, B.kp a = none
  mv : Mv (B.O σ0 env0) (B.O σ env) H0 H
  ps : ∀ p ∈ B.ps, p.1 ∈ z.np
  fx : ∀ p ∈ B.fx, p.1 ∈ z.np
theorem MOk.step {K : PySem.W.Frag} {n m : Nat} {z : Z} {B : Bs} {σ0 σ σ' : Sg} {H0 H H' : Hp} {env0 env env' : En} {v : V} {d : D} {as : List Addr} (h : MOk K n m z B σ0 H0 env0 σ H env v d as) (mm : Mv (B.O σ env) (B.O σ' env') H H') : MOk K n m z B σ0 H0 env0 σ' H' env' v d as :=
  ⟨h.tr.mv mm, h.nd, h.dp, h.sz, h.nw, h.nb, h.nk, h.mv.trans mm, h.ps, h.fx⟩
end DL
namespace DL
open PySem PySem.Spec PyProof.Rows L2
def F0 : Addr → Prop := fun _ => False
inductive FlatR (K : PySem.W.Frag) (H : Hp) : Sg → En → Prop
  | nil : FlatR K H [] []
  | non {σ : Sg} {env : En} (x : Option V) : FlatR K H σ env → FlatR K H (x :: σ) (none :: env)
  | im {σ : Sg} {env : En} {v : V} {d : D} : At K F0 H v d → FlatR K H σ env → FlatR K H (some v :: σ) (some (.im d) :: env)
section
variable {K : PySem.W.Frag} {H : Hp}
theorem FlatR.len : ∀ {σ : Sg} {env : En}, FlatR K H σ env → σ.length = env.length
  | _, _, .nil => rfl
  | _, _, .non _ r => congrArg (· + 1) r.len
  | _, _, .im _ r => congrArg (· + 1) r.len
theorem FlatR.get : ∀ {σ : Sg} {env : En} {i : Nat} {s : Sl}, FlatR K H σ env → env[i]? = some (some s) → ∃ (d : D) (v : V), s = .im d ∧ σ[i]? = some (some v) ∧ At K F0 H v d
  | _, _, _, _, .nil, h => by simp at h
  | _, _, 0, _, .non _ _, h => by simp at h
  | _, _, 0, _, .im (v := v) (d := d) a _, h => ⟨d, v, by simpa using h.symm, rfl, a⟩
  | _, _, i + 1, _, .non _ r, h => by simpa using r.get (i := i) (by simpa using h)
  | _, _, i + 1, _, .im _ r, h => by simpa using r.get (i := i) (by simpa using h)
end
section
variable {K : PySem.W.Frag} {O : Addr → Prop} {H H' : Hp}
theorem TrAll.append : ∀ {vs us : List V} {ds es : List D} {as bs : List Addr}, TrAll K O H vs ds as → TrAll K O H us es bs → TrAll K O H (vs ++ us) (ds ++ es) (as ++ bs)
  | _, _, _, _, _, _, .nil, q => q
  | _, _, _, _, _, _, .cons x r, q => by
    rw [List.append_assoc]
    exact .cons x (TrAll.append r q)
end
end DL
namespace DL
open PySem PySem.Spec PyProof.Rows L2
section
variable {S α β : Type} {env : En} {f g k : EF} {h h' : D → D → Option D} {i j : Nat}
theorem bind_ok (a : α) (f : α → R S β) : (R.ok a : R S α).bind f = f a := rfl
theorem ofO_some (a : α) : (ofO (some a) : R S α) = .ok a := rfl
theorem calm_ok (a : α) : (R.ok a : R S α).calm = .ok a := rfl
theorem fVar_ap : fVar i env = match env[i]? with | some (some (.im d)) => .ok (d, env) | _ => .stuck := rfl
theorem fIxO_ap : fIxO i g env = match env[i]? with
  | some (some (.ow _)) => (g env).bind fun q => match q.2[i]? with
    | some (some (.ow ds)) => (ofO (ixD (.list ds) q.1)).bind fun r => .ok (r, q.2)
    | _ => .stuck
  | _ => .stuck := rfl
theorem fLenO_ap : fLenO i env = match env[i]? with | some (some (.ow ds)) => .ok (.int ds.length, env) | _ => .stuck := rfl
theorem fReprO_ap : fReprO i env = match env[i]? with | some (some (.ow ds)) => (ofO (reprD [.list ds])).bind fun r => .ok (r, env) | _ => .stuck := rfl
theorem fIsiO_ap (T : String) : fIsiO T i env = match env[i]? with | some (some (.ow _)) => (ofO (isTy T (.list []))).bind fun r => .ok (r, env) | _ => .stuck := rfl
theorem fOpL_ap : fOpL i h g env = match env[i]? with
  | some (some (.ow _)) => (g env).bind fun q => match q.2[i]? with
    | some (some (.ow ds)) => (ofO (h (.list ds) q.1)).bind fun r => .ok (r, q.2)
    | _ => .stuck
  | _ => .stuck := rfl
theorem fOpR_ap : fOpR i h f env = (f env).bind fun q => match q.2[i]? with
    | some (some (.ow ds)) => (ofO (h q.1 (.list ds))).bind fun r => .ok (r, q.2)
    | _ => .stuck := rfl
theorem cSl_ap {c : En → R En (List PArg × En)} : cSl j c env = match env[j]? with
  | some (some s) => if s.own = true then (c env).bind fun q => .ok (.sl j :: q.1, q.2) else .stuck
  | _ => .stuck := rfl
variable {a b : SF}
theorem sSeq_ap : sSeq a b env = (a env).bind fun o => match o with | .nx e => b e | o => .ok o := rfl
theorem sRetO_ap : sRetO i env = match env[i]? with | some (some (.ow ds)) => .ok (.rt (.list ds) env) | _ => .stuck := rfl
theorem sFrz_ap : sFrz i a env = match env[i]? with | some (some (.ow ds)) => a (env.set i (some (.im (.list ds)))) | _ => .stuck := rfl
theorem sApp_ap : sApp i f env = match env[i]? with
  | some (some (.ow _)) => (f env).bind fun p => match p.2[i]? with
    | some (some (.ow ds)) => if ds.length < sizeLine then .ok (.nx (p.2.set i (some (.ow (ds ++ [p.1]))))) else .stuck
    | _ => .stuck
  | _ => .stuck := rfl
theorem sAugS_ap {op : Int → Int → Int} : sAugS i op g f env = match env[i]? with
  | some (some (.ow _)) => (g env).bind fun q => match q.2[i]?, q.1 with
    | some (some (.ow ds)), .int k => if 0 ≤ k then match ds[k.toNat]? with
      | some (.int x) => (f q.2).bind fun p => match p.2[i]?, p.1 with
        | some (some (.ow es)), .int y => if k.toNat < es.length then .ok (.nx (p.2.set i (some (.ow (es.set k.toNat (.int (op x y))))))) else .stuck
        | _, _ => .stuck
      | _ => .stuck
      else .stuck
    | _, _ => .stuck
  | _ => .stuck := rfl
theorem sAug_ap {op : Int → Int → Int} : sAug i op f env = match env[i]? with
  | some (some (.im (.int x))) => (f env).bind fun p => match p.1 with
    | .int y => .ok (.nx (p.2.set i (some (.im (.int (op x y))))))
    | _ => .stuck
  | _ => .stuck := rfl
theorem forF_cons {T : TF} {d : D} {ds : List D} : forF T a (d :: ds) env = (ofO (T d env)).bind fun e1 => (a e1).bind fun o => match o with
    | .nx e => forF T a ds e
    | .ct e => forF T a ds e
    | .bk e => .ok (.nx e)
    | .rt d e => .ok (.rt d e) := rfl
theorem resolve_im {d : D} {as : List PArg} : resolve env (.im d :: as) = (resolve env as).map (.im d :: ·) := rfl
theorem resolve_sl {as : List PArg} : resolve env (.sl j :: as) = match env[j]? with | some (some s) => if s.own = true then (resolve env as).map (s :: ·) else none | _ => none := rfl
theorem back_nil {es : List Sl} : back [] es env = env := by cases es <;> rfl
theorem runD_ap {n : Nat} {es : List Sl} : runD n a es = match a (es.map some ++ List.replicate (n - es.length) none) with
  | .ok (.rt d e) => .ok (d, backP es.length e)
  | .ok (.nx e) => .ok (.none, backP es.length e)
  | .err x e => .err x (backP es.length e)
  | _ => .stuck := rfl
end
theorem sizeLine_lt (n : Nat) (h : n ≤ 16777216) : n ≤ sizeLine := by rw [sizeLine_eq]; exact h
theorem addD_int (i j : Int) : addD (.int i) (.int j) = some (.int (i + j)) := rfl
theorem subD_int (i j : Int) : subD (.int i) (.int j) = some (.int (i - j)) := rfl
theorem negD_int (i : Int) : negD (.int i) = some (.int (-i)) := rfl
theorem mulD_l {i j : Int} (h1 : -18446744073709551616 < i) (h2 : i < 18446744073709551616) : mulD (.int i) (.int j) = some (.int (i * j)) := by
  simp only [mulD]
  rw [if_pos (show CMulV i j from Or.inl (Or.inl ⟨by omega, by omega⟩))]
theorem mulD_r {i j : Int} (h1 : -18446744073709551616 < j) (h2 : j < 18446744073709551616) : mulD (.int i) (.int j) = some (.int (i * j)) := by
  simp only [mulD]
  rw [if_pos (show CMulV i j from Or.inl (Or.inr ⟨by omega, by omega⟩))]
theorem modD_pos {i j : Int} (h : 0 < j) : modD (.int i) (.int j) = some (.int (i % j)) := by
  simp only [modD]
  rw [if_pos (by omega), Int.fmod_eq_emod_of_nonneg _ (by omega)]
theorem fdivD_pos {i j : Int} (h : 0 < j) (h2 : j < 1073741824) : fdivD (.int i) (.int j) = some (.int (i / j)) := by
  simp only [fdivD]
  rw [if_pos ⟨by omega, by omega⟩, Int.fdiv_eq_ediv_of_nonneg _ (by omega)]
theorem ltD_int (i j : Int) : ltD (.int i) (.int j) = some (.bool (decide (i < j))) := rfl
theorem leD_int (i j : Int) : leD (.int i) (.int j) = some (.bool (decide (i ≤ j))) := rfl
theorem gtD_int (i j : Int) : gtD (.int i) (.int j) = some (.bool (decide (j < i))) := rfl
theorem geD_int (i j : Int) : geD (.int i) (.int j) = some (.bool (decide (j ≤ i))) := rfl
theorem intD_int (i : Int) : intD [.int i] = some (.int i) := rfl
theorem lenD_list (ds : List D) : lenD [.list ds] = some (.int ds.length) := rfl
theorem lenD_tuple (ds : List D) : lenD [.tuple ds] = some (.int ds.length) := rfl
theorem lenD_lmap {α : Type} (f : α → D) (xs : List α) : lenD [.list (xs.map f)] = some (.int xs.length) := by simp [lenD]
theorem lenD_tmap {α : Type} (f : α → D) (xs : List α) : lenD [.tuple (xs.map f)] = some (.int xs.length) := by simp [lenD]
theorem itemsD_list (ds : List D) : itemsD (.list ds) = some ds := rfl
theorem itemsD_tuple (ds : List D) : itemsD (.tuple ds) = some ds := rfl
theorem rangeD1_int {j : Int} (h1 : -1000000000 ≤ j) (h2 : j ≤ 1000000000) : rangeD1 [.int j] = some (rangeL 0 j.toNat) := by
  simp only [rangeD1]; rw [if_pos (by omega)]
theorem rangeD2_int {i j : Int} (h1 : -1000000000 ≤ i) (h2 : i ≤ 1000000000) (h3 : -1000000000 ≤ j) (h4 : j ≤ 1000000000) : rangeD2 [.int i, .int j] = some (rangeL i (j - i).toNat) := by
  simp only [rangeD2]; rw [if_pos (by omega)]
theorem notD_bool (b : Bool) : notD (.bool b) = some (.bool (!b)) := rfl
theorem ixD_tuple (ds : List D) (i : Int) : ixD (.tuple ds) (.int i) = atI ds i := rfl
theorem atI_nat' {ds : List D} {i : Int} {d : D} (h0 : 0 ≤ i) (h : ds[i.toNat]? = some d) : atI ds i = some d := by
  have e : ((i.toNat : Nat) : Int) = i := by omega
  rw [← e]; exact atI_nat h
theorem maxD2 (i j : Int) : maxD [.int i, .int j] = some (.int (max i j)) := rfl
theorem minD2 (i j : Int) : minD [.int i, .int j] = some (.int (min i j)) := rfl
theorem tupleD_list (ds : List D) : tupleD [.list ds] = some (.tuple ds) := rfl
theorem listD_tuple (ds : List D) : listD [.tuple ds] = some (.list ds) := rfl
theorem listD_list (ds : List D) : listD [.list ds] = some (.list ds) := rfl
theorem sumD_list (ns : List Int) : sumD [.list (ns.map .int)] = some (.int ns.sum) := by simp only [sumD, intsD_map, Option.map_some]
theorem boolsD_map : ∀ bs : List Bool, boolsD (bs.map PyData.bool) = some bs
  | [] => rfl
  | b :: r => by simp only [List.map_cons, boolsD, boolsD_map r, Option.map_some]
theorem allD_list (bs : List Bool) : allD [.list (bs.map .bool)] = some (.bool (bs.all id)) := by simp only [allD, boolsD_map, Option.map_some]
structure Nice (n w : Nat) (d : D) : Prop where
  lay : d.canLay0 = true
  dep : d.depth ≤ n
  wt : d.weight ≤ w
  sh : d.showable = true
  ls : d.leavesShort 300 = true
def NiceAll (n w : Nat) (ds : List D) : Prop := ∀ d ∈ ds, Nice n w d
theorem Nice.mono {n w n' w' : Nat} {d : D} (h : Nice n w d) (hn : n ≤ n') (hw : w ≤ w') : Nice n' w' d := ⟨h.lay, Nat.le_trans h.dep hn, Nat.le_trans h.wt hw, h.sh, h.ls⟩
theorem nice_none : Nice 0 0 .none := ⟨by simp [PyData.canLay0], by simp [PyData.depth], by simp [PyData.weight], by simp [PyData.showable], by simp [PyData.leavesShort]⟩
theorem nice_bool (b : Bool) : Nice 0 0 (.bool b) := ⟨by simp [PyData.canLay0], by simp [PyData.depth], by simp [PyData.weight], by simp [PyData.showable], by simp [PyData.leavesShort]⟩
theorem nice_int {i : Int} (h : i.natAbs.log2 < 100) : Nice 0 100 (.int i) := by
  refine ⟨by simp [PyData.canLay0], by simp [PyData.depth], ?_, ?_, ?_⟩
  · simp only [PyData.weight]; split <;> omega
  · simp only [PyData.showable, decide_eq_true_eq]; omega
  · simp only [PyData.leavesShort, PyData.shown]
    have e := int_text_length_le (a := i) (k := 100) (by decide) h
    refine decide_eq_true ?_
    rw [PySem.ofString_length]; omega
theorem log2_small {n : Nat} (h : n < 2 ^ 100) : n.log2 < 100 := by
  by_cases h0 : n = 0
  · subst h0; decide
  · exact (Nat.log2_lt h0).2 h
theorem nice_small {i : Int} (h1 : -1000000000000000000000000000000 ≤ i) (h2 : i ≤ 1000000000000000000000000000000) : Nice 0 100 (.int i) := nice_int (log2_small (Nat.lt_of_le_of_lt (show i.natAbs ≤ 1000000000000000000000000000000 by omega) (by decide)))
theorem niceAll_depth {n w : Nat} : ∀ {ds : List D}, NiceAll n w ds → PyData.depthAll ds ≤ n
  | [], _ => by simp [PyData.depthAll]
  | d :: r, h => by
    have h1 := (h d (by simp)).dep
    have h2 := niceAll_depth (ds := r) fun x hx => h x (by simp [hx])
    simp only [PyData.depthAll]
    omega
theorem niceAll_weight {n w : Nat} : ∀ {ds : List D}, NiceAll n w ds → PyData.weightAll ds ≤ (w + 1) * ds.length
  | [], _ => by simp [PyData.weightAll]
  | d :: r, h => by
    have h1 := (h d (by simp)).wt
    have h2 := niceAll_weight (ds := r) fun x hx => h x (by simp [hx])
    simp only [PyData.weightAll, List.length_cons]
    rw [Nat.mul_add]
    omega
theorem niceAll_lay {n w : Nat} : ∀ {ds : List D}, NiceAll n w ds → PyData.canLayAll0 ds = true
  | [], _ => by simp [PyData.canLayAll0]
  | d :: r, h => by
    simp only [PyData.canLayAll0, (h d (by simp)).lay, niceAll_lay (ds := r) fun x hx => h x (by simp [hx]), Bool.and_self]
theorem niceAll_sh {n w : Nat} : ∀ {ds : List D}, NiceAll n w ds → PyData.showableAll ds = true
  | [], _ => by simp [PyData.showableAll]
  | d :: r, h => by
    simp only [PyData.showableAll, (h d (by simp)).sh, niceAll_sh (ds := r) fun x hx => h x (by simp [hx]), Bool.and_self]
theorem niceAll_ls {n w : Nat} : ∀ {ds : List D}, NiceAll n w ds → PyData.leavesShortAll 300 ds = true
  | [], _ => by simp [PyData.leavesShortAll]
  | d :: r, h => by
    simp only [PyData.leavesShortAll, (h d (by simp)).ls, niceAll_ls (ds := r) fun x hx => h x (by simp [hx]), Bool.and_self]
theorem nice_list {n w k : Nat} {ds : List D} (h : NiceAll n w ds) (hk : ds.length ≤ k) : Nice (n + 1) ((w + 1) * k) (.list ds) := by
  refine ⟨by simp only [PyData.canLay0, niceAll_lay h], ?_, ?_, by simp only [PyData.showable, niceAll_sh h], by simp only [PyData.leavesShort, niceAll_ls h]⟩
  · have := niceAll_depth h
    simp only [PyData.depth]; omega
  · have h1 := niceAll_weight h
    simp only [PyData.weight]
    exact Nat.le_trans h1 (Nat.mul_le_mul_left _ hk)
theorem nice_tuple {n w k : Nat} {ds : List D} (h : NiceAll n w ds) (hk : ds.length ≤ k) : Nice (n + 1) ((w + 1) * k) (.tuple ds) := by
  refine ⟨by simp only [PyData.canLay0, niceAll_lay h], ?_, ?_, by simp only [PyData.showable, niceAll_sh h], by simp only [PyData.leavesShort, niceAll_ls h]⟩
  · have := niceAll_depth h
    simp only [PyData.depth]; omega
  · have h1 := niceAll_weight h
    simp only [PyData.weight]
    exact Nat.le_trans h1 (Nat.mul_le_mul_left _ hk)
theorem Nice.shaped {n w : Nat} {d : D} (h : Nice n w d) (hn : n ≤ 64) : SeqAt.shaped d = true := by
  unfold SeqAt.shaped
  rw [h.lay, Bool.true_and, decide_eq_true_eq]
  exact Nat.le_trans h.dep hn
theorem eqD_nice {n w n' w' : Nat} {d e : D} (h : Nice n w d) (h' : Nice n' w' e) (hn : n ≤ 64 := by decide) (hn' : n' ≤ 64 := by decide) : eqD d e = some (.bool (PyData.eqv d e)) := by
  unfold eqD; rw [h.shaped hn, h'.shaped hn']; rfl
theorem neD_nice {n w n' w' : Nat} {d e : D} (h : Nice n w d) (h' : Nice n' w' e) (hn : n ≤ 64 := by decide) (hn' : n' ≤ 64 := by decide) : neD d e = some (.bool (!PyData.eqv d e)) := by
  unfold neD; rw [h.shaped hn, h'.shaped hn']; rfl
theorem neD_int (x y : Int) : neD (.int x) (.int y) = some (.bool (!decide (x = y))) := by
  unfold neD SeqAt.shaped; simp only [PyData.canLay0, PyData.depth, PyData.eqv]; by_cases q : x = y <;> simp [q]
theorem eqD_int (x y : Int) : eqD (.int x) (.int y) = some (.bool (decide (x = y))) := by
  unfold eqD SeqAt.shaped; simp only [PyData.canLay0, PyData.depth, PyData.eqv]; by_cases q : x = y <;> simp [q]
/-- each turn leaves the slots as they were -/
theorem compF_all {T : TF} {t : En → R En (Bool × En)} {f : EF} {vs : List Nat} {env : En} {b : D → Bool} {v : D → D} : ∀ {ds acc : List D}, acc.length + ds.length ≤ sizeLine →
    (∀ d ∈ ds, ∃ e1 e2, T d env = some e1 ∧ t e1 = .ok (b d, e2) ∧ (b d = true → ∃ e3, f e2 = .ok (v d, e3) ∧ okVs e3 vs = true ∧ wipeE e3 vs = env) ∧ (b d = false → okVs e2 vs = true ∧ wipeE e2 vs = env)) →
    compF T t f vs ds acc env = .ok (acc ++ (ds.filter b).map v, env)
  | [], acc, _, _ => by simp [compF]
  | d :: ds, acc, hl, h => by
    obtain ⟨e1, e2, h1, h2, h3, h4⟩ := h d (by simp)
    have ih := fun acc' (hl' : acc'.length + ds.length ≤ sizeLine) => compF_all (T := T) (t := t) (f := f) (vs := vs) (env := env) (b := b) (v := v) (ds := ds) (acc := acc') hl' fun x hx => h x (by simp [hx])
    unfold compF
    rw [h1, ofO_some, bind_ok, h2, calm_ok, bind_ok]
    simp only [List.length_cons] at hl
    cases hb : b d with
    | true =>
      obtain ⟨e3, h5, h6, h7⟩ := h3 hb
      simp only [if_true]
      rw [h5, calm_ok, bind_ok]
      simp only
      rw [if_pos ⟨by omega, h6⟩, h7, ih _ (by simp; omega)]
      simp [List.filter_cons, hb]
    | false =>
      obtain ⟨h6, h7⟩ := h4 hb
      simp only [Bool.false_eq_true, if_false]
      rw [if_pos h6, h7, ih _ (by omega)]
      simp [List.filter_cons, hb]
end DL
namespace DL
open PySem PySem.Spec PyProof.Rows L2
structure Ev {S α : Type} (m : R S (α × S)) (Q : α → S → Prop) (E : Exn → S → Prop) : Prop where
  out : match m with
    | .ok p => Q p.1 p.2
    | .err x s => E x s
    | .stuck => False
def EvO {α : Type} (o : Option α) (Q : α → Prop) : Prop := ∃ r, o = some r ∧ Q r
/-- a statement: goes on, returns, breaks, continues, raises -/
structure Es (m : R En Out) (N : En → Prop) (P : D → En → Prop) (B C : En → Prop) (E : Exn → En → Prop) : Prop where
  out : match m with
    | .ok (.nx e) => N e
    | .ok (.rt d e) => P d e
    | .ok (.bk e) => B e
    | .ok (.ct e) => C e
    | .err x e => E x e
    | .stuck => False
theorem ex_mk {α : Type} {p q : α → Prop} (a : α) (h : p a) (k : q a) : ∃ a, p a ∧ q a := ⟨a, h, k⟩
theorem tt_mk {X Y : Prop} (x : X) : (true = true → X) ∧ (true = false → Y) := ⟨fun _ => x, fun h => Bool.noConfusion h⟩
theorem ff_mk {X Y : Prop} (y : Y) : (false = true → X) ∧ (false = false → Y) := ⟨fun h => Bool.noConfusion h, fun _ => y⟩
theorem nt_mk {X Y : Prop} (y : Y) : ((!true) = true → X) ∧ ((!true) = false → Y) := ⟨fun h => Bool.noConfusion h, fun _ => y⟩
theorem nf_mk {X Y : Prop} (x : X) : ((!false) = true → X) ∧ ((!false) = false → Y) := ⟨fun _ => x, fun h => Bool.noConfusion h⟩
inductive Par2 : List D → (D → D → Prop) → Prop
  | mk {d d' : D} {N : D → D → Prop} (q : N d d') : Par2 [d, d'] N
inductive Par3 : List D → (D → D → D → Prop) → Prop
  | mk {d d' d'' : D} {N : D → D → D → Prop} (q : N d d' d'') : Par3 [d, d', d''] N
theorem ev_o {α : Type} {o : Option α} {Q : α → Prop} {r : α} (h : o = some r) (q : Q r) : EvO o Q := ⟨r, h, q⟩
section
variable {S α β : Type}
theorem ev_imp {m : R S (α × S)} {Q Q' : α → S → Prop} {E E' : Exn → S → Prop} (h : Ev m Q E) (hq : ∀ a s, Q a s → Q' a s) (he : ∀ x s, E x s → E' x s) : Ev m Q' E' := by
  cases m with
  | stuck => exact ⟨h.1⟩
  | ok a => exact ⟨hq _ _ h.1⟩
  | err x s => exact ⟨he _ _ h.1⟩
theorem ev_imp1 {m : R S (α × S)} {Q Q' : α → S → Prop} {E : Exn → S → Prop} (h : Ev m Q E) (hq : ∀ a s, Q a s → Q' a s) : Ev m Q' E := ev_imp h hq fun _ _ h => h
theorem ev_bind {m : R S (α × S)} {f : α × S → R S (β × S)} {Q : β → S → Prop} {E : Exn → S → Prop} (h : Ev m (fun a s => Ev (f (a, s)) Q E) E) : Ev (m.bind f) Q E := by
  cases m with
  | stuck => exact ⟨h.1⟩
  | ok a => exact h.1
  | err x s => exact ⟨h.1⟩
theorem ev_ob {o : Option α} {f : α → R S (β × S)} {Q : β → S → Prop} {E : Exn → S → Prop} (h : EvO o fun a => Ev (f a) Q E) : Ev ((ofO o).bind f) Q E := by
  obtain ⟨r, e, q⟩ := h
  subst e
  exact q
theorem ev_obk {o : Option α} {e : S} {Q : α → S → Prop} {E : Exn → S → Prop} (h : EvO o fun a => Q a e) : Ev ((ofO o).bind fun r => .ok (r, e)) Q E := by
  obtain ⟨r, h, q⟩ := h
  subst h
  exact ⟨q⟩
theorem ev_eq {m : R S (α × S)} {Q : α → S → Prop} (h : Ev m Q fun _ _ => False) : ∃ a s, m = .ok (a, s) ∧ Q a s := by
  cases m with
  | stuck => exact h.1.elim
  | ok a => exact ⟨a.1, a.2, rfl, h.1⟩
  | err x s => exact h.1.elim
theorem ev_eqs {m : R S (α × S)} {a : α} {s : S} (h : Ev m (fun x t => x = a ∧ t = s) fun _ _ => False) : m = .ok (a, s) := by
  obtain ⟨x, t, e, rfl, rfl⟩ := ev_eq h; exact e
theorem ev_ok {a : α} {s : S} {Q : α → S → Prop} {E : Exn → S → Prop} (q : Q a s) : Ev (.ok (a, s)) Q E := ⟨q⟩
theorem ev_of {m : R S (α × S)} {Q : α → S → Prop} {E : Exn → S → Prop} {a : α} {s : S} (h : m = .ok (a, s)) (q : Q a s) : Ev m Q E := by subst h; exact ⟨q⟩
end
section
variable {N N' : En → Prop} {P P' : D → En → Prop} {B B' C C' : En → Prop} {E : Exn → En → Prop}
theorem es_imp {m : R En Out} (h : Es m N P B C E) (hn : ∀ e, N e → N' e) (hp : ∀ d e, P d e → P' d e) (hb : ∀ e, B e → B' e) (hc : ∀ e, C e → C' e) : Es m N' P' B' C' E := by
  cases m with
  | stuck => exact ⟨h.1⟩
  | ok o => cases o with
    | nx e => exact ⟨hn _ h.1⟩
    | rt d e => exact ⟨hp _ _ h.1⟩
    | bk e => exact ⟨hb _ h.1⟩
    | ct e => exact ⟨hc _ h.1⟩
  | err x s => exact ⟨h.1⟩
theorem es_imp1 {m : R En Out} (h : Es m N P B C E) (hn : ∀ e, N e → N' e) : Es m N' P B C E := es_imp h hn (fun _ _ h => h) (fun _ h => h) fun _ h => h
theorem es_bind {α : Type} {m : R En (α × En)} {f : α × En → R En Out} (h : Ev m (fun a s => Es (f (a, s)) N P B C E) E) : Es (m.bind f) N P B C E := by
  cases m with
  | stuck => exact ⟨h.1⟩
  | ok a => exact h.1
  | err x s => exact ⟨h.1⟩
theorem es_ob {α : Type} {o : Option α} {f : α → R En Out} (h : EvO o fun a => Es (f a) N P B C E) : Es ((ofO o).bind f) N P B C E := by
  obtain ⟨r, e, q⟩ := h
  subst e
  exact q
variable {Q : D → En → Prop} {QT : Bool → En → Prop} {QL : List D → En → Prop} {env : En} {f g k : EF} {h h' : D → D → Option D} {t u : En → R En (Bool × En)} {l : En → R En (List D × En)} {i j : Nat} {d : D} {ds : List D}
theorem ev_var (he : env[i]? = some (some (.im d))) (q : Q d env) : Ev (fVar i env) Q E := by rw [fVar_ap, he]; exact ⟨q⟩
theorem ev_c (q : Q d env) : Ev (fC d env) Q E := ⟨q⟩
theorem ev_op (q : Ev (f env) (fun a e => Ev (g e) (fun b e => EvO (h a b) fun r => Q r e) E) E) : Ev (fOp h f g env) Q E :=
  ev_bind (ev_imp1 q fun _ _ q => ev_bind (ev_imp1 q fun _ _ q => ev_obk q))
theorem ev_un {U : D → Option D} (q : Ev (f env) (fun a e => EvO (U a) fun r => Q r e) E) : Ev (fUn U f env) Q E := ev_bind (ev_imp1 q fun _ _ q => ev_obk q)
theorem ev_bool (q : Ev (f env) (fun a e => ∃ b, a = .bool b ∧ QT b e) E) : Ev (fBool f env) QT E := by
  refine ev_bind (ev_imp1 q fun a e q => ?_)
  obtain ⟨b, rfl, q⟩ := q
  exact ⟨q⟩
theorem ev_notT (q : Ev (t env) (fun b e => QT (!b) e) E) : Ev (fNotT t env) QT E := ev_bind (ev_imp1 q fun _ _ q => ⟨q⟩)
theorem ev_andT (q : Ev (t env) (fun b e => (b = true → Ev (u e) QT E) ∧ (b = false → QT false e)) E) : Ev (fAndT t u env) QT E := by
  refine ev_bind (ev_imp1 q fun b e q => ?_)
  cases b with
  | true => exact q.1 rfl
  | false => exact ⟨q.2 rfl⟩
theorem ev_orT (q : Ev (t env) (fun b e => (b = true → QT true e) ∧ (b = false → Ev (u e) QT E)) E) : Ev (fOrT t u env) QT E := by
  refine ev_bind (ev_imp1 q fun b e q => ?_)
  cases b with
  | true => exact ⟨q.1 rfl⟩
  | false => exact q.2 rfl
theorem ev_if (q : Ev (t env) (fun b e => (b = true → Ev (f e) Q E) ∧ (b = false → Ev (g e) Q E)) E) : Ev (fIf t f g env) Q E := by
  refine ev_bind (ev_imp1 q fun b e q => ?_)
  cases b with
  | true => exact q.1 rfl
  | false => exact q.2 rfl
theorem ev_andV (q : Ev (f env) (fun a e => ∃ b, a = .bool b ∧ (b = true → Ev (g e) Q E) ∧ (b = false → Q (.bool false) e)) E) : Ev (fAndV f g env) Q E := by
  refine ev_bind (ev_imp1 q fun a e q => ?_)
  obtain ⟨b, rfl, q⟩ := q
  cases b with
  | true => exact q.1 rfl
  | false => exact ⟨q.2 rfl⟩
theorem ev_orV (q : Ev (f env) (fun a e => ∃ b, a = .bool b ∧ (b = true → Q (.bool true) e) ∧ (b = false → Ev (g e) Q E)) E) : Ev (fOrV f g env) Q E := by
  refine ev_bind (ev_imp1 q fun a e q => ?_)
  obtain ⟨b, rfl, q⟩ := q
  cases b with
  | true => exact ⟨q.1 rfl⟩
  | false => exact q.2 rfl
theorem ev_chain (q : Ev (f env) (fun a e => Ev (g e) (fun b e => EvO (h a b) fun r => ∃ w, r = .bool w ∧ (w = true → Ev (k e) (fun c e => EvO (h' b c) fun r => Q r e) E) ∧ (w = false → Q (.bool false) e)) E) E) : Ev (fChain h h' f g k env) Q E := by
  refine ev_bind (ev_imp1 q fun a e q => ev_bind (ev_imp1 q fun b e q => ev_ob ?_))
  obtain ⟨r, hr, w, rfl, q⟩ := q
  refine ⟨_, hr, ?_⟩
  cases w with
  | true => exact ev_bind (ev_imp1 (q.1 rfl) fun _ _ q => ev_obk q)
  | false => exact ⟨q.2 rfl⟩
theorem ev_nil (q : QL [] env) : Ev ((fun env => .ok ([], env) : En → R En (List D × En)) env) QL E := ⟨q⟩
theorem ev_cons (q : Ev (f env) (fun a e => Ev (l e) (fun as e => QL (a :: as) e) E) E) : Ev (fCons f l env) QL E := ev_bind (ev_imp1 q fun _ _ q => ev_bind (ev_imp1 q fun _ _ q => ⟨q⟩))
theorem ev_star (q : Ev (f env) (fun a e => EvO (itemsD a) fun ds => Ev (l e) (fun as e => QL (ds ++ as) e) E) E) : Ev (fStar f l env) QL E :=
  ev_bind (ev_imp1 q fun _ _ q => ev_ob (by obtain ⟨r, h, q⟩ := q; exact ⟨r, h, ev_bind (ev_imp1 q fun _ _ q => ⟨q⟩)⟩))
theorem ev_tup (q : Ev (l env) (fun as e => as.length ≤ sizeLine ∧ Q (.tuple as) e) E) : Ev (fTup l env) Q E := by
  refine ev_bind (ev_imp1 q fun a e q => ?_)
  simp only [q.1, if_true]; exact ⟨q.2⟩
theorem ev_lst (q : Ev (l env) (fun as e => as.length ≤ sizeLine ∧ Q (.list as) e) E) : Ev (fLst l env) Q E := by
  refine ev_bind (ev_imp1 q fun a e q => ?_)
  simp only [q.1, if_true]; exact ⟨q.2⟩
theorem ev_ca {c : List D → Option D} (q : Ev (l env) (fun as e => EvO (c as) fun r => Q r e) E) : Ev (fCall c l env) Q E := ev_bind (ev_imp1 q fun _ _ q => ev_obk q)
theorem ev_isi {T : String} (q : Ev (f env) (fun a e => EvO (isTy T a) fun r => Q r e) E) : Ev (fIsi T f env) Q E := ev_bind (ev_imp1 q fun _ _ q => ev_obk q)
theorem ev_isE {T : Str} (q : Ev (f env) (fun a e => EvO (isEx T a) fun r => Q r e) E) : Ev (fIsE T f env) Q E := ev_un q
theorem ev_mt (q : Ev (f env) (fun a e => ∃ ds, a = .list ds ∧ Ev (g e) (fun b e => EvO (h (.list ds) b) fun r => Q r e) E) E) : Ev (fMt h f g env) Q E := by
  refine ev_bind (ev_imp1 q fun a e q => ?_)
  obtain ⟨ds, rfl, q⟩ := q
  exact ev_bind (ev_imp1 q fun _ _ q => ev_obk q)
theorem ev_ixO (hi : env[i]? = some (some (.ow ds))) (q : Ev (g env) (fun a e => ∃ es, e[i]? = some (some (.ow es)) ∧ EvO (ixD (.list es) a) fun r => Q r e) E) : Ev (fIxO i g env) Q E := by
  rw [fIxO_ap, hi]
  refine ev_bind (ev_imp1 q fun a e q => ?_)
  obtain ⟨es, he, q⟩ := q
  simp only [he]
  exact ev_obk q
theorem ev_lenO (hi : env[i]? = some (some (.ow ds))) (q : Q (.int ds.length) env) : Ev (fLenO i env) Q E := by rw [fLenO_ap, hi]; exact ⟨q⟩
theorem ev_reprO (hi : env[i]? = some (some (.ow ds))) (q : EvO (reprD [.list ds]) fun r => Q r env) : Ev (fReprO i env) Q E := by rw [fReprO_ap, hi]; exact ev_obk q
theorem ev_isiO {T : String} (hi : env[i]? = some (some (.ow ds))) (q : EvO (isTy T (.list [])) fun r => Q r env) : Ev (fIsiO T i env) Q E := by rw [fIsiO_ap, hi]; exact ev_obk q
theorem ev_opL (hi : env[i]? = some (some (.ow ds))) (q : Ev (g env) (fun a e => ∃ es, e[i]? = some (some (.ow es)) ∧ EvO (h (.list es) a) fun r => Q r e) E) : Ev (fOpL i h g env) Q E := by
  rw [fOpL_ap, hi]
  refine ev_bind (ev_imp1 q fun a e q => ?_)
  obtain ⟨es, he, q⟩ := q
  simp only [he]
  exact ev_obk q
theorem ev_opR (q : Ev (f env) (fun a e => ∃ es, e[i]? = some (some (.ow es)) ∧ EvO (h a (.list es)) fun r => Q r e) E) : Ev (fOpR i h f env) Q E := by
  rw [fOpR_ap]
  refine ev_bind (ev_imp1 q fun a e q => ?_)
  obtain ⟨es, he, q⟩ := q
  simp only [he]
  exact ev_obk q
theorem ev_items (q : Ev (f env) (fun a e => EvO (itemsD a) fun r => QL r e) E) : Ev (fItems f env) QL E := ev_bind (ev_imp1 q fun _ _ q => ev_obk q)
theorem ev_walk {w : List D → Option (List D)} (q : Ev (l env) (fun a e => EvO (w a) fun r => QL r e) E) : Ev (fWalk w l env) QL E := ev_bind (ev_imp1 q fun _ _ q => ev_obk q)
theorem ev_part {QP : Option Int → En → Prop} (q : Ev (f env) (fun a e => ∃ n, a = .int n ∧ QP (some n) e) E) : Ev (fPart f env) QP E := by
  refine ev_bind (ev_imp1 q fun a e q => ?_)
  obtain ⟨b, rfl, q⟩ := q
  exact ⟨q⟩
theorem ev_sl {s : D → Option Int → Option Int → Option D} {fl fh : En → R En (Option Int × En)} (q : Ev (f env) (fun a e => Ev (fl e) (fun x e => Ev (fh e) (fun y e => EvO (s a x y) fun r => Q r e) E) E) E) : Ev (fSl s f fl fh env) Q E :=
  ev_bind (ev_imp1 q fun _ _ q => ev_bind (ev_imp1 q fun _ _ q => ev_bind (ev_imp1 q fun _ _ q => ev_obk q)))
theorem ev_lend (hd : noDk env = true) (q : Ev (t (lentE env)) (fun b _ => QT b env) fun _ _ => False) : Ev (tLend t env) QT E := by
  unfold tLend
  rw [if_pos hd]
  revert q
  cases t (lentE env) with
  | stuck => exact fun q => ⟨q.1⟩
  | ok p => exact fun q => ⟨q.1⟩
  | err x s => exact fun q => q.1.elim
theorem ev_lendF (hd : noDk env = true) (q : Ev (f (lentE env)) (fun d _ => flatD d = true ∧ Q d env) fun _ _ => False) : Ev (fLend f env) Q E := by
  unfold fLend
  rw [if_pos hd]
  revert q
  cases f (lentE env) with
  | stuck => exact fun q => ⟨q.1⟩
  | ok p =>
    intro q
    show Ev (if flatD p.1 = true then _ else _) Q E
    rw [if_pos q.1.1]
    exact ⟨q.1.2⟩
  | err x s => exact fun q => q.1.elim
variable {QC : List PArg → En → Prop} {c : En → R En (List PArg × En)}
theorem ev_cNil (q : QC [] env) : Ev (cNil env) QC E := ⟨q⟩
theorem ev_cIm (q : Ev (f env) (fun a e => Ev (c e) (fun as e => QC (.im a :: as) e) E) E) : Ev (cIm f c env) QC E := ev_bind (ev_imp1 q fun _ _ q => ev_bind (ev_imp1 q fun _ _ q => ⟨q⟩))
theorem ev_cSl {s : Sl} (hj : env[j]? = some (some s)) (ho : s.own = true) (q : Ev (c env) (fun as e => QC (.sl j :: as) e) E) : Ev (cSl j c env) QC E := by
  rw [cSl_ap, hj]
  simp only [ho, if_true]
  exact ev_bind (ev_imp1 q fun _ _ q => ⟨q⟩)
inductive CallAs (e : En) (as : List PArg) (n : Nat) (np : List Nat) (G : List Sl → Prop) : Prop
  | mk (es : List Sl) (h1 : resolve e as = some es) (h2 : as.length = n) (h3 : (slotsOf as).Nodup) (h4 : okNp np 0 es = true) (q : G es) : CallAs e as n np G
theorem callAs_mk {e : En} {as : List PArg} {n : Nat} {np : List Nat} {G : List Sl → Prop} (es : List Sl) (h1 : resolve e as = some es) (h2 : as.length = n) (h3 : (slotsOf as).Nodup) (h4 : okNp np 0 es = true) (q : G es) : CallAs e as n np G := ⟨es, h1, h2, h3, h4, q⟩
theorem res_nil {e : En} : resolve e [] = some [] := rfl
theorem res_im {e : En} {d : D} {as : List PArg} {es : List Sl} (h : resolve e as = some es) : resolve e (.im d :: as) = some (.im d :: es) := by rw [resolve_im, h]; rfl
theorem res_sl {e : En} {j : Nat} {s : Sl} {as : List PArg} {es : List Sl} (hj : e[j]? = some (some s)) (ho : s.own = true) (h : resolve e as = some es) : resolve e (.sl j :: as) = some (s :: es) := by
  rw [resolve_sl, hj]; simp only [ho, if_true, h, Option.map_some]
theorem ev_call {n : Nat} {np : List Nat} {F : FD} (q : Ev (c env) (fun as e => CallAs e as n np fun es => Ev (F es) (fun d es' => Q d (back as es' e)) (fun x es' => E x (back as es' e))) E) : Ev (fCallF n np F c env) Q E := by
  refine ev_bind (ev_imp1 q fun as e q => ?_)
  obtain ⟨es, h1, h2, h3, h4, q⟩ := q
  simp only [h1]
  rw [if_pos ⟨h2, h3, h4⟩]
  cases hf : F es with
  | stuck => rw [hf] at q; exact q.1.elim
  | ok a => rw [hf] at q; exact ⟨q.1⟩
  | err x s => rw [hf] at q; exact ⟨q.1⟩
theorem back_ims : ∀ {as : List PArg} {s : List Sl} {e : En}, slotsOf as = [] → back as s e = e
  | [], s, e, _ => back_nil
  | .im d :: as, [], e, _ => rfl
  | .im d :: as, x :: s, e, h => back_ims (as := as) (s := s) h
  | .sl j :: as, _, e, h => nomatch h
theorem ev_fun {n : Nat} {a : SF} {es : List Sl} {QF : D → List Sl → Prop} {EF' : Exn → List Sl → Prop} (q : Es (a (es.map some ++ List.replicate (n - es.length) none)) (fun e => QF .none (backP es.length e)) (fun d e => QF d (backP es.length e)) (fun _ => False) (fun _ => False) (fun x e => EF' x (backP es.length e))) : Ev (runD n a es) QF EF' := by
  rw [runD_ap]
  revert q
  cases a (es.map some ++ List.replicate (n - es.length) none) with
  | stuck => exact fun q => ⟨q.1⟩
  | ok o => cases o <;> first | exact fun q => q.1 | exact fun q => ⟨q.1⟩
  | err x s => exact fun q => ⟨q.1⟩
theorem ev_lc {T : TF} {vs : List Nat} {b : D → Bool} {v : D → D} {P0 : D → En → Prop} (q : Ev (l env) (fun ds e => okVs e vs = true ∧ ds.length ≤ sizeLine ∧
      (∀ d ∈ ds, EvO (T d (wipeE e vs)) fun e1 => Ev (t e1) (fun w e2 => w = b d ∧ (w = true → Ev (f e2) (fun r e3 => r = v d ∧ okVs e3 vs = true ∧ wipeE e3 vs = wipeE e vs) fun _ _ => False) ∧ (w = false → okVs e2 vs = true ∧ wipeE e2 vs = wipeE e vs)) fun _ _ => False) ∧
      Q (.list ((ds.filter b).map v)) (restE e (wipeE e vs) vs)) E) : Ev (fLc l T t f vs env) Q E := by
  refine ev_bind (ev_imp1 q fun ds e q => ?_)
  obtain ⟨h1, h2, h3, q⟩ := q
  simp only [h1, if_true]
  rw [compF_all (b := b) (v := v) (by simpa using h2) fun d hd => ?_]
  · rw [List.nil_append, bind_ok]; exact ⟨q⟩
  · obtain ⟨e1, a1, a2⟩ := h3 d hd
    obtain ⟨w, e2, b1, rfl, b2, b3⟩ := ev_eq a2
    refine ⟨e1, e2, a1, b1, fun hw => ?_, fun hw => b3 hw⟩
    obtain ⟨r, e3, c1, rfl, c2, c3⟩ := ev_eq (b2 hw)
    exact ⟨e3, c1, c2, c3⟩
theorem ev_lcm {T : TF} {vs : List Nat} {v : D → D} (q : Ev (l env) (fun ds e => okVs e vs = true ∧ ds.length ≤ sizeLine ∧
      (∀ d ∈ ds, EvO (T d (wipeE e vs)) fun e1 => Ev (f e1) (fun r e3 => r = v d ∧ okVs e3 vs = true ∧ wipeE e3 vs = wipeE e vs) fun _ _ => False) ∧
      Q (.list (ds.map v)) (restE e (wipeE e vs) vs)) E) : Ev (fLc l T (fun env => .ok (true, env)) f vs env) Q E := by
  refine ev_lc (b := fun _ => true) (v := v) (P0 := fun _ _ => True) (ev_imp1 q fun ds e q => ?_)
  obtain ⟨h1, h2, h3, q⟩ := q
  refine ⟨h1, h2, fun d hd => ?_, ?_⟩
  · obtain ⟨e1, a1, a2⟩ := h3 d hd
    exact ⟨e1, a1, rfl, fun _ => a2, fun w => nomatch w⟩
  · rw [List.filter_eq_self.mpr (by simp)]; exact q
variable {a b : SF}
theorem es_nil (q : N env) : Es (sNil env) N P B C E := ⟨q⟩
theorem es_seq (q : Es (a env) (fun e => Es (b e) N P B C E) P B C E) : Es (sSeq a b env) N P B C E := by
  rw [sSeq_ap]
  revert q
  cases a env with
  | stuck => exact fun q => ⟨q.1⟩
  | ok o => cases o <;> first | exact fun q => q.1 | exact fun q => ⟨q.1⟩
  | err x s => exact fun q => ⟨q.1⟩
theorem es_expr (q : Ev (f env) (fun _ e => N e) E) : Es (sExpr f env) N P B C E := es_bind (ev_imp1 q fun _ _ q => ⟨q⟩)
theorem es_ret (q : Ev (f env) (fun d e => P d e) E) : Es (sRet f env) N P B C E := es_bind (ev_imp1 q fun _ _ q => ⟨q⟩)
theorem es_retN (q : P .none env) : Es (sRetN env) N P B C E := ⟨q⟩
theorem es_retO (hi : env[i]? = some (some (.ow ds))) (q : P (.list ds) env) : Es (sRetO i env) N P B C E := by rw [sRetO_ap, hi]; exact ⟨q⟩
theorem es_if (q : Ev (t env) (fun w e => (w = true → Es (a e) N P B C E) ∧ (w = false → Es (b e) N P B C E)) E) : Es (sIf t a b env) N P B C E := by
  refine es_bind (ev_imp1 q fun w e q => ?_)
  cases w with
  | true => exact q.1 rfl
  | false => exact q.2 rfl
theorem es_asg {T : TF} (q : Ev (f env) (fun d e => EvO (T d e) fun e => N e) E) : Es (sAsg f T env) N P B C E := es_bind (ev_imp1 q fun _ _ q => by obtain ⟨r, h, q⟩ := q; exact es_ob ⟨r, h, ⟨q⟩⟩)
theorem es_set (q : Ev (f env) (fun d e => N (e.set i (some (.im d)))) E) : Es (sSet i f env) N P B C E := es_bind (ev_imp1 q fun _ _ q => ⟨q⟩)
theorem es_setO (q : Ev (f env) (fun d e => ∃ ds, d = .list ds ∧ N (e.set i (some (.ow ds)))) E) : Es (sSetO i f env) N P B C E := by
  refine es_bind (ev_imp1 q fun d e q => ?_)
  obtain ⟨ds, rfl, q⟩ := q
  exact ⟨q⟩
theorem es_frz (hi : env[i]? = some (some (.ow ds))) (q : Es (a (env.set i (some (.im (.list ds))))) N P B C E) : Es (sFrz i a env) N P B C E := by rw [sFrz_ap, hi]; exact q
theorem es_app (hi : env[i]? = some (some (.ow ds))) (q : Ev (f env) (fun d e => ∃ es, e[i]? = some (some (.ow es)) ∧ es.length < sizeLine ∧ N (e.set i (some (.ow (es ++ [d]))))) E) : Es (sApp i f env) N P B C E := by
  rw [sApp_ap, hi]
  refine es_bind (ev_imp1 q fun d e q => ?_)
  obtain ⟨es, he, h2, q⟩ := q
  simp only [he]
  rw [if_pos h2]
  exact ⟨q⟩
theorem es_sto (q : Ev (f env) (fun d e => ∃ es, e[i]? = some (some (.ow es)) ∧ Ev (g e) (fun k e => ∃ es, e[i]? = some (some (.ow es)) ∧ ∃ n, k = .int n ∧ ∃ j, ixN es.length n = some j ∧ N (e.set i (some (.ow (es.set j d))))) E) E) : Es (sSto i g f env) N P B C E := by
  refine es_bind (ev_imp1 q fun d e q => ?_)
  obtain ⟨es, he, q⟩ := q
  simp only [he]
  refine es_bind (ev_imp1 q fun k e q => ?_)
  obtain ⟨es, he, n, rfl, j, h3, q⟩ := q
  simp only [he, h3]
  exact ⟨q⟩
theorem es_augS {op : Int → Int → Int} (hi : env[i]? = some (some (.ow ds))) (q : Ev (g env) (fun k e => ∃ es, e[i]? = some (some (.ow es)) ∧ ∃ n, k = .int n ∧ 0 ≤ n ∧ ∃ x, es[n.toNat]? = some (.int x) ∧
      Ev (f e) (fun p e => ∃ es, e[i]? = some (some (.ow es)) ∧ ∃ y, p = .int y ∧ n.toNat < es.length ∧ N (e.set i (some (.ow (es.set n.toNat (.int (op x y))))))) E) E) : Es (sAugS i op g f env) N P B C E := by
  rw [sAugS_ap, hi]
  refine es_bind (ev_imp1 q fun d e q => ?_)
  obtain ⟨es, he, n, rfl, h0, x, hx, q⟩ := q
  simp only [he, h0, hx, if_true]
  refine es_bind (ev_imp1 q fun k e q => ?_)
  obtain ⟨es, he, y, rfl, h3, q⟩ := q
  simp only [he, h3, if_true]
  exact ⟨q⟩
theorem es_aug {op : Int → Int → Int} {x : Int} (hi : env[i]? = some (some (.im (.int x)))) (q : Ev (f env) (fun p e => ∃ y, p = .int y ∧ N (e.set i (some (.im (.int (op x y)))))) E) : Es (sAug i op f env) N P B C E := by
  rw [sAug_ap, hi]
  refine es_bind (ev_imp1 q fun d e q => ?_)
  obtain ⟨y, rfl, q⟩ := q
  exact ⟨q⟩
theorem es_par (q : Ev (l env) (fun ds e => Par2 ds fun d d' => N ((e.set i (some (.im d))).set j (some (.im d')))) E) : Es (sPar i j l env) N P B C E := by
  refine es_bind (ev_imp1 q fun d e q => ?_)
  obtain ⟨q⟩ := q
  exact ⟨q⟩
theorem es_par3 {k : Nat} (q : Ev (l env) (fun ds e => Par3 ds fun d d' d'' => N (((e.set i (some (.im d))).set j (some (.im d'))).set k (some (.im d'')))) E) : Es (sPar3 i j k l env) N P B C E := by
  refine es_bind (ev_imp1 q fun d e q => ?_)
  obtain ⟨q⟩ := q
  exact ⟨q⟩
theorem es_raise {c : Str} (q : E ⟨c, []⟩ env) : Es (sRaise c env) N P B C E := ⟨q⟩
theorem es_tryK (q : Es (a env) N P B C (fun x e => decide (x.dat.length ≤ 1) = true ∧ x.cls ∈ exNames ∧ N ((e.set j (some (.im (excDP x)))).set i none))) : Es (sTryK i j a env) N P B C E := by
  unfold sTryK
  revert q
  cases a env with
  | stuck => exact fun q => ⟨q.1⟩
  | ok o => cases o <;> exact fun q => ⟨q.1⟩
  | err x e =>
    intro q
    show Es (if _ then _ else _) N P B C E
    rw [if_pos ⟨q.1.1, q.1.2.1⟩]
    exact ⟨q.1.2.2⟩
theorem es_for {T : TF} (q : Ev (l env) (fun ds e => Es (forF T a ds e) N P B C E) E) : Es (sFor l T a env) N P B C E := es_bind q
theorem es_while {n : En → Nat} (q : Es (whileF t a (n env) env) N P B C E) : Es (sWhile n t a env) N P B C E := q
theorem es_forF_nil {T : TF} (q : N env) : Es (forF T a [] env) N P B C E := ⟨q⟩
theorem es_forF_cons {T : TF} (q : EvO (T d env) fun e => Es (a e) (fun e => Es (forF T a ds e) N P B C E) P N (fun e => Es (forF T a ds e) N P B C E) E) : Es (forF T a (d :: ds) env) N P B C E := by
  rw [forF_cons]
  refine es_ob ?_
  obtain ⟨r, h1, q⟩ := q
  refine ⟨r, h1, ?_⟩
  show Es ((a r).bind _) N P B C E
  revert q
  cases a r with
  | stuck => exact fun q => ⟨q.1⟩
  | ok o => cases o <;> first | exact fun q => q.1 | exact fun q => ⟨q.1⟩
  | err x s => exact fun q => ⟨q.1⟩
/-- what holds before each turn -/
theorem es_forI {T : TF} (I : Nat → En → Prop) : ∀ {ds : List D} {env : En} {k0 : Nat}, I k0 env →
    (∀ k d e, ds[k]? = some d → I (k0 + k) e → EvO (T d e) fun e => Es (a e) (I (k0 + k + 1)) P N (I (k0 + k + 1)) E) → (∀ e, I (k0 + ds.length) e → N e) → Es (forF T a ds env) N P B C E
  | [], env, k0, h0, _, h2 => es_forF_nil (h2 _ h0)
  | d :: ds, env, k0, h0, h1, h2 => by
    refine es_forF_cons ?_
    obtain ⟨r, q1, q2⟩ := h1 0 d env rfl h0
    have ih : ∀ e, I (k0 + 1) e → Es (forF T a ds e) N P B C E := fun e he => es_forI I (ds := ds) (k0 := k0 + 1) he (fun k d' e' hk hI => by
      have z := h1 (k + 1) d' e' (by simpa using hk) (by rw [show k0 + (k + 1) = k0 + 1 + k by omega]; exact hI)
      rw [show k0 + (k + 1) + 1 = k0 + 1 + k + 1 by omega] at z
      exact z) fun e he => h2 e (by rw [List.length_cons, show k0 + (ds.length + 1) = k0 + 1 + ds.length by omega]; exact he)
    exact ⟨r, q1, es_imp q2 ih (fun _ _ h => h) (fun _ h => h) ih⟩
theorem es_forK {T : TF} (I : Nat → En → Prop) (h0 : I 0 env)
    (h1 : ∀ k d e, ds[k]? = some d → I k e → EvO (T d e) fun e => Es (a e) (I (k + 1)) P N (I (k + 1)) E) (h2 : ∀ e, I ds.length e → N e) : Es (forF T a ds env) N P B C E :=
  es_forI I (k0 := 0) h0 (fun k d e hk hI => by rw [Nat.zero_add] at hI ⊢; exact h1 k d e hk hI) fun e he => h2 e (by rw [Nat.zero_add] at he; exact he)
/-- with a measure -/
theorem es_whileI {I : En → Prop} {m : En → Nat} (h1 : ∀ e, I e → Ev (t e) (fun w e' => (w = true → Es (a e') (fun e2 => I e2 ∧ m e2 < m e) P N (fun e2 => I e2 ∧ m e2 < m e) E) ∧ (w = false → N e')) E) : ∀ {n : Nat} {env : En}, I env → m env < n → Es (whileF t a n env) N P B C E
  | 0, _, _, hn => absurd hn (Nat.not_lt_zero _)
  | n + 1, env, hI, hn => by
    unfold whileF
    refine es_bind (ev_imp1 (h1 env hI) fun w e q => ?_)
    cases w with
    | false => exact ⟨q.2 rfl⟩
    | true =>
      have z := q.1 rfl
      have ih : ∀ e2, I e2 ∧ m e2 < m env → Es (whileF t a n e2) N P B C E := fun e2 h => es_whileI h1 h.1 (by omega)
      simp only [if_true]
      revert z
      cases a e with
      | stuck => exact fun q => ⟨q.1⟩
      | ok o => cases o with
        | nx e2 => exact fun q => ih e2 q.1
        | ct e2 => exact fun q => ih e2 q.1
        | bk e2 => exact fun q => ⟨q.1⟩
        | rt d e2 => exact fun q => ⟨q.1⟩
      | err x s => exact fun q => ⟨q.1⟩
end
end DL
namespace DL
open PySem PySem.Spec PyProof.Rows L2
theorem strOk_append (x y : Str) : PyData.strOk (x ++ y) = (PyData.strOk x && PyData.strOk y) := by
  show (x.cps ++ y.cps).all _ = _
  rw [Array.all_append]; rfl
theorem strOk_ofString (s : String) : PyData.strOk (Str.ofString s) = true := by
  unfold PyData.strOk
  rw [Str.ofString_eq_toList]
  simp only [List.all_toArray, List.all_map, List.all_eq_true, Function.comp, decide_eq_true_eq]
  intro c _
  have h : c.toNat < 55296 ∨ 57343 < c.toNat ∧ c.toNat < 1114112 := c.valid
  omega
theorem strOk_textFrom : ∀ (ts : List Str) (k : Nat) (acc : Str), PyData.strOk acc = true → (∀ t ∈ ts, PyData.strOk t = true) → PyData.strOk (textFrom k acc ts) = true
  | [], _, _, h, _ => h
  | t :: ts, k, acc, h, ht => by
    unfold textFrom
    refine strOk_textFrom ts (k + 1) _ ?_ fun x hx => ht x (by simp [hx])
    rw [strOk_append, strOk_append, h, ht t (by simp)]
    split <;> simp only [strOk_ofString, Bool.and_self]
theorem strOk_join (sep : Str) (hs : PyData.strOk sep = true) : ∀ (ts : List Str), (∀ t ∈ ts, PyData.strOk t = true) → PyData.strOk (Str.join sep ts) = true
  | [], _ => by simp [Str.join, Str.empty, PyData.strOk]
  | [x], h => h x (by simp)
  | x :: y :: r, h => by
    show PyData.strOk (x ++ sep ++ Str.join sep (y :: r)) = true
    rw [strOk_append, strOk_append, h x (by simp), hs, strOk_join sep hs (y :: r) fun t ht => h t (by simp [ht])]; rfl
def TxOk (d : D) : Prop := PyData.strOk d.shown = true
theorem sok_int (i : Int) : TxOk (.int i) := strOk_ofString _
theorem sok_none : TxOk .none := strOk_ofString _
theorem sok_bool (b : Bool) : TxOk (.bool b) := by
  unfold TxOk PyData.shown; cases b <;> exact strOk_ofString _
theorem sok_all : ∀ {ds : List D}, (∀ d ∈ ds, TxOk d) → ∀ t ∈ PyData.shownAll ds, PyData.strOk t = true
  | [], _, _, ht => by simp [PyData.shownAll] at ht
  | d :: ds, h, t, ht => by
    simp only [PyData.shownAll, List.mem_cons] at ht
    rcases ht with rfl | ht
    · exact h d (by simp)
    · exact sok_all (ds := ds) (fun x hx => h x (by simp [hx])) t ht
theorem sok_list {ds : List D} (h : ∀ d ∈ ds, TxOk d) : TxOk (.list ds) := by
  unfold TxOk PyData.shown listText
  rw [strOk_append, strOk_textFrom _ _ _ (strOk_ofString _) (sok_all h)]
  exact strOk_ofString _
theorem sok_tuple {ds : List D} (h : ∀ d ∈ ds, TxOk d) : TxOk (.tuple ds) := by
  unfold TxOk PyData.shown tupleText
  rw [strOk_append, strOk_append, strOk_join _ (strOk_ofString _) _ (sok_all h), strOk_ofString]
  simp only [Bool.true_and]
  exact strOk_ofString _
/-- the same twice -/
theorem neD_same {n w : Nat} {d : D} (h : Nice n w d) (hn : n ≤ 64 := by decide) : neD d d = some (.bool false) := by
  rw [neD_nice h h hn hn, SeqAt.eqv_refl d h.lay]; rfl
theorem eqD_same {n w : Nat} {d : D} (h : Nice n w d) (hn : n ≤ 64 := by decide) : eqD d d = some (.bool true) := by
  rw [eqD_nice h h hn hn, SeqAt.eqv_refl d h.lay]
theorem nice_ints {xs : List Int} {k : Nat} (h : ∀ x ∈ xs, -1000000000000000000000000000000 ≤ x ∧ x ≤ 1000000000000000000000000000000) (hk : xs.length ≤ k) : Nice 1 ((100 + 1) * k) (.list (xs.map .int)) ∧ Nice 1 ((100 + 1) * k) (.tuple (xs.map .int)) := by
  have a : NiceAll 0 100 (xs.map .int) := by
    intro d hd
    obtain ⟨x, hx, rfl⟩ := List.mem_map.mp hd
    exact nice_small (h x hx).1 (h x hx).2
  exact ⟨nice_list a (by rw [List.length_map]; exact hk), nice_tuple a (by rw [List.length_map]; exact hk)⟩
theorem sok_ints (xs : List Int) : ∀ d ∈ xs.map PyData.int, TxOk d := by
  intro d hd
  obtain ⟨x, _, rfl⟩ := List.mem_map.mp hd
  exact sok_int x
end DL
namespace DL
open PySem PySem.Spec PyProof.Rows L2
theorem args_im {K : PySem.W.Frag} {O : Addr → Prop} {H : Hp} {vs : List V} {ds : List D} (od : Od O H) (a : AtAll K O H vs ds) : ArgsOk K [] O H vs (ds.map Sl.im) where
  len := by rw [a.length, List.length_map]
  od := od
  arg := fun i s h => by
    rw [List.getElem?_map, Option.map_eq_some_iff] at h
    obtain ⟨d, h, rfl⟩ := h
    exact a.get h
  dist := fun i j b s t h hs => by
    rw [List.getElem?_map, Option.map_eq_some_iff] at h
    obtain ⟨d, h, rfl⟩ := h
    cases hs
  np := fun i s h hs => by
    rw [List.getElem?_map, Option.map_eq_some_iff] at h
    obtain ⟨d, h, rfl⟩ := h
    cases hs
theorem ex_im {K : PySem.W.Frag} {O O' : Addr → Prop} {H H' : Hp} {vs : List V} {ds : List D} {es' : List Sl} (h : HeapOk K O O' H H' vs (ds.map Sl.im) es') : Ex H H' := fun a o e => h.keep a o e fun ⟨i, s, h1, h2, _⟩ => by
  rw [List.getElem?_map, Option.map_eq_some_iff] at h1
  obtain ⟨d, _, rfl⟩ := h1
  cases h2
theorem vals_app {a b : List V} {c d : List Value} (h : Vals a c) (h' : Vals b d) : Vals (a ++ b) (c ++ d) := by
  induction h with
  | nil => exact h'
  | cons x r ih => exact .cons x ih
section
variable {X : Cx} {k n : Nat} {C f : Addr} {fd : FuncData} {ps ks : List Str} {sp : Sp} {E : Sg → XK} {m : Str} {pos apos : Pos} {e o : Expr} {es : List Expr} {kws : List Keyword} {ta : TE} {t tk : TA} {g : List Value → List Value → List Value} {gV : List V → List V → List V}
theorem run_fnGN {pins : List (Addr × Obj)} {σ : Sg} {H : Hp} {s : Shared} {Q : VK} {us ws : List Value} {vs zs : List V} (F : FnG X.prog X.w X.K X.mg X.base k f fd ps sp) (hr : Room k X.A) (hg : X.A.guards = some []) (hb : KBn X.K fd ps n ks g gV) (hx : PassesAt (L2N.CX X.prog X.w) X σ (E σ))
    (I : Inv X pins σ H s) (r : Vals vs us) (rz : Vals zs ws) (l1 : vs.length = n) (l2 : zs.length = ks.length) (hl : (gV vs zs).length = ps.length) (h : sp (gV vs zs) H Q (E σ)) : wpAny (model X.prog X.w) X.A (call (.ref f) us (ks.zip ws)) (EP X pins σ Q) X.xe s := by
  have r2 := hb.rel r rz
  refine wpAny_call (codeAny_mono (F.run X.A X.stack s H ⟨us, ks.zip ws⟩ (g us ws) (gV vs zs) Q (E σ) hr hg I.env0 (hb.to s us ws I.kIn (r.length.symm.trans l1) (rz.length.symm.trans l2)) r2 hl h) fun r s' hq => ?_)
  cases r with
  | error e => exact hx pins H s e s' I hq
  | ok fl =>
    cases fl with
    | ret u => exact I.after hq
    | next => exact False.elim hq
    | brk => exact False.elim hq
    | cont => exact False.elim hq
end
theorem len_nil : ∀ (env : En) (p : List D × En), (fun env => (R.ok ([], env) : R En (List D × En))) env = .ok p → p.1.length = 0 := fun env p h => by cases h; rfl
theorem len_cons {f : EF} {g : En → R En (List D × En)} {n : Nat} (h : ∀ env p, g env = .ok p → p.1.length = n) : ∀ env p, fCons f g env = .ok p → p.1.length = n + 1 := fun env p e => by
  unfold fCons at e
  cases hf : f env with
  | stuck => rw [hf] at e; cases e
  | err x s => rw [hf] at e; cases e
  | ok a =>
    rw [hf] at e
    have e : ((g a.2).bind fun q => R.ok (a.1 :: q.1, q.2)) = .ok p := e
    cases hg : g a.2 with
    | stuck => rw [hg] at e; cases e
    | err x s => rw [hg] at e; cases e
    | ok q =>
      rw [hg] at e
      cases e
      show q.1.length + 1 = n + 1
      rw [h _ _ hg]
section
variable {X : Cx} {z : Z} {fr : Bool} {e : Expr} {f : EF} {g : En → R En (List D × En)} {kws : List Keyword} {nm : Option Str} {kpos : Pos}
theorem pk_weak {t t' : TA} (h : PK X kws t) (i : ∀ σ H Q, t' σ H Q → t σ H Q) : PK X kws t' := ⟨fun pos pins s σ H Q I q => h.run pos pins s σ H Q I (i σ H Q q)⟩
theorem dk_cons (ha : DE z X fr e f) (hr : PK X kws (tA X.K z g)) : PK X (⟨nm, e, kpos⟩ :: kws) (tA X.K z (fCons f g)) :=
  pk_weak (pk_cons ha hr) fun σ H Q ⟨B, env, I, hp⟩ => ⟨B, env, I, (R.post_bind hp).imp (fun p hp v H1 I1 m1 a1 _ =>
    ⟨B, p.2, I1, (R.post_bind hp).imp (fun q hq vs H2 I2 m2 a2 => hq (v :: vs) H2 I2 (m1.trans m2) (.cons (At.mv m2 a1) a2)) fun _ _ q => q.step m1⟩) fun _ _ q => q⟩
theorem dk_nil : PK X [] (tA X.K z (fun env => .ok ([], env))) := pk_weak pk_nil fun σ H Q ⟨B, env, I, hp⟩ => hp [] H I .refl .nil
theorem dk_one (ha : DE z X fr e f) : PK X [⟨nm, e, kpos⟩] (tA X.K z (fCons f (fun env => .ok ([], env)))) := dk_cons ha dk_nil
end
end DL
namespace DL
open PySem PySem.Spec PyProof.Rows L2
/-- what stands at is, in this order -/
def pick {α : Type} (is : List Nat) (l : List α) : List α := is.filterMap fun i => l[i]?
theorem pick_vals {vs : List V} {us : List Value} (h : Vals vs us) : ∀ is : List Nat, Vals (pick is vs) (pick is us)
  | [] => .nil
  | i :: is => by
    have ih := pick_vals h is
    unfold pick at ih ⊢
    cases e : vs[i]? with
    | none =>
      have e2 : us[i]? = none := by rw [List.getElem?_eq_none_iff] at e ⊢; rw [← h.length]; exact e
      rw [List.filterMap_cons_none e, List.filterMap_cons_none e2]; exact ih
    | some v =>
      obtain ⟨u, e2, r⟩ := h.get e
      rw [List.filterMap_cons_some e, List.filterMap_cons_some e2]; exact .cons r ih
theorem pick_at {K : PySem.W.Frag} {O : Addr → Prop} {H : Hp} {vs : List V} {ds : List D} (h : AtAll K O H vs ds) : ∀ is : List Nat, AtAll K O H (pick is vs) (pick is ds)
  | [] => .nil
  | i :: is => by
    have ih := pick_at h is
    unfold pick at ih ⊢
    cases e : ds[i]? with
    | none =>
      have e2 : vs[i]? = none := by rw [List.getElem?_eq_none_iff] at e ⊢; rw [h.length]; exact e
      rw [List.filterMap_cons_none e, List.filterMap_cons_none e2]; exact ih
    | some d =>
      obtain ⟨u, e2, r⟩ := h.get e
      rw [List.filterMap_cons_some e, List.filterMap_cons_some e2]; exact .cons r ih
section
variable {K : PySem.W.Frag} {x qual : Str} {st : Stmt} {f : Addr} {fd : FuncData} {ps ks : List Str}
/-- how a call by names alone binds -/
def KwB (x qual : Str) (st : Stmt) (n : Nat) (ks ps : List Str) (is : List Nat) : Prop := ∀ (kV doc pm : Value) (an : Option Addr) (cdv ct : Value) (us ws : List Value), us.length = n → ws.length = ks.length →
  bindArgs (PySem.W.fnOf x qual (defArgs st) (defBody st) (defScope st) .none kV doc pm an cdv ct) ⟨us, ks.zip ws⟩ = pure (ps.zip (us ++ pick is ws))
theorem kb_fun {n : Nat} {is : List Nat} (F : Fun K x qual st f fd) (hb : KwB x qual st n ks ps is) : KBn K fd ps n ks (fun us ws => us ++ pick is ws) (fun vs zs => vs ++ pick is zs) := by
  obtain ⟨oc, od, kV, doc, pm, an, cdv, ct, osl, rfl, lk, hcd⟩ := F.ex
  exact ⟨fun s us ws X l1 l2 => BindsTo.of_looks fun M => PySem.W.Looks.of_pure (hb kV doc pm an cdv ct us ws l1 l2), fun r1 r2 => vals_app r1 (pick_vals r2 is)⟩
end
def tCallKG (n l : Nat) (sp : Sp) (gV : List V → List V → List V) (E : Sg → XK) (tk : TA) : TE := fun σ H Q => tk σ H fun zs H2 => zs.length = l ∧ sp (gV [] zs) H2 Q (E σ)
section
variable {X : Cx} {k : Nat} {C f : Addr} {fd : FuncData} {ps ks : List Str} {sp : Sp} {E : Sg → XK} {x m : Str} {p pos apos : Pos} {o : Expr} {kws : List Keyword} {ta : TE} {tk : TA} {g : List Value → List Value → List Value} {gV : List V → List V → List V}
/-- f(k = v, ..) -/
theorem pe_callK0 (F : FnG X.prog X.w X.K X.mg X.base k f fd ps sp) (hr : Room k X.A) (hgd : X.A.guards = some []) (hg : Gl X x) (hm : X.mg x = some (.ref f)) (hk : PySem.W.keepIn X.K (.ref f) = true) (hb : KBn X.K fd ps 0 ks g gV) (hx : ∀ σ, PassesAt (L2N.CX X.prog X.w) X σ (E σ)) (hkw : PK X kws tk)
    (hgl : ∀ zs : List V, zs.length = ks.length → (gV [] zs).length = ps.length)
    (hall : (backToKw pos (keywordEach kws X.env)).all (·.1.isSome) = true := by rfl) (hks : (backToKw pos (keywordEach kws X.env)).filterMap (·.1) = ks := by rfl) (hdb : (x == ("__debug__" : Str)) = false := by decide)
    (hpl : ((backTo pos (starEach [] X.env)).any (·.1) || (backToKw pos (keywordEach kws X.env)).any (·.1.isNone)) = false := by rfl) :
    PE X (.Call (.Name x p) [] kws pos) (tCallKG 0 ks.length sp gV E tk) := by
  refine ⟨fun pins s σ H Q I h => ?_⟩
  refine wpAny_Call_Name_kw (ld_glob I hg hm ?_ hdb)
  refine PySem.W.callWith_KW0 (h₀ := X.base) I.ok.mod.kin hk hall ?_ hpl
  refine thn (hkw.run pos pins s σ H _ I h) fun ws s2 ⟨zs, H2, I2, rz, l2, q2⟩ => ⟨I2.kIn, ?_⟩
  rw [hks]
  exact run_fnGN (us := []) (vs := []) F hr hgd hb (hx σ) I2 .nil rz rfl l2 (hgl _ l2) q2
end
/-- f(k = v, ..): the values from the left, then in the parameters' order -/
def fCallKw (is : List Nat) (F : FD) (g : En → R En (List D × En)) : EF := fun env => (g env).bind fun p => match F ((pick is p.1).map Sl.im) with
  | .ok r => .ok (r.1, p.2)
  | .err x _ => .err x p.2
  | .stuck => .stuck
section
variable {X : Cx} {z : Z} {k j n : Nat} {x m q : Str} {st : Stmt} {ps ks : List Str} {is : List Nat} {F : FD} {gk : En → R En (List D × En)} {f : EF} {fr fo : Bool} {p pos apos : Pos} {o : Expr} {kws : List Keyword}
theorem Stands.kb (S : Stands X.K X.mg x st ps) (h : Has X.prog X.w X.K X.mg X.base z.ca x j ps [] fr F) (hb : KwB x x st 0 ks ps is) : ∃ fa fd, X.mg x = some (.ref fa) ∧ PySem.W.keepIn X.K (.ref fa) = true ∧ FnG X.prog X.w X.K X.mg X.base j fa fd ps (spD X.K z.ca [] fr F) ∧ KBn X.K fd ps 0 ks (fun us ws => us ++ pick is ws) (fun vs zs => vs ++ pick is zs) := by
  obtain ⟨fa, fd, h1, h2, _, h4, h5⟩ := h
  obtain ⟨f2, fd2, e1, e2, _⟩ := S
  rw [h1] at e1
  cases e1
  obtain rfl := h5.same (lk_of e2)
  exact ⟨fa, fd, h1, h2, h4, kb_fun e2 hb⟩
theorem de_callKw (S : Stands X.K X.mg x st ps) (h : Has X.prog X.w X.K X.mg X.base z.ca x j ps [] fr F) (hb : KwB x x st 0 ks ps is) (hr : Room k X.A) (hj : j ≤ k) (hgd : X.A.guards = some []) (hg : Gl X x) (tk : L2N.Takes X z.W) (hkw : PK X kws (tA X.K z gk))
    (hlk : ∀ env p, gk env = .ok p → p.1.length = ks.length) (hgl : ∀ zs : List V, zs.length = ks.length → (pick is zs).length = ps.length)
    (hall : (backToKw pos (keywordEach kws X.env)).all (·.1.isSome) = true := by rfl) (hks : (backToKw pos (keywordEach kws X.env)).filterMap (·.1) = ks := by rfl) (hdb : (x == ("__debug__" : Str)) = false := by decide)
    (hpl : ((backTo pos (starEach [] X.env)).any (·.1) || (backToKw pos (keywordEach kws X.env)).any (·.1.isNone)) = false := by rfl) :
    DE z X false (.Call (.Name x p) [] kws pos) (fCallKw is F gk) := by
  obtain ⟨fa, fd, h1, h2, G, KB⟩ := S.kb h hb
  refine de_imp (pe_callK0 (G.mono hj) hr hgd hg h1 h2 KB (fun σ => L2N.passAt tk σ) hkw (fun zs h => by show (([] : List V) ++ pick is zs).length = _; rw [List.nil_append]; exact hgl zs h) hall hks hdb hpl) fun B env σ H Q I hp => ?_
  unfold fCallKw at hp
  refine ⟨B, env, I, ?_⟩
  cases hg2 : gk env with
  | stuck => rw [hg2] at hp; exact hp.elim
  | err y e' => rw [hg2] at hp; exact hp
  | ok r =>
    rw [hg2] at hp
    intro zs H3 I3 m0 a3
    have hp : R.post (EP1 X.K z false B σ H env Q) (XP X.K z B σ H env) (match F ((pick is r.1).map Sl.im) with
      | .ok q => .ok (q.1, r.2)
      | .err x _ => .err x r.2
      | .stuck => .stuck) := hp
    refine ⟨by rw [a3.length]; exact hlk _ _ hg2, (pick is r.1).map Sl.im, B.O σ r.2, args_im I3.od (pick_at a3 is), ?_⟩
    cases hF : F ((pick is r.1).map Sl.im) with
    | stuck => rw [hF] at hp; exact hp
    | ok w =>
      rw [hF] at hp
      intro v H' hc
      have ex := ex_im hc.1
      exact hp v H' (I3.ex ex) (m0.trans (Mv.ex ex)) hc.2.1 fun q => nomatch q
    | err x es' =>
      rw [hF] at hp
      intro cls dp H' hc hx
      have ex := ex_im hc
      exact hp cls dp H' (I3.ex ex) (m0.trans (Mv.ex ex)) hx
end
end DL
namespace HX
open PySem PySem.Spec PyProof.Rows HotX
section
variable {prog : Program} {w : World} {A : Around} {E : Value → Shared → Prop} {s : Shared} {x1 : Addr}
/-- the handled exception is kept -/
theorem stays {A' : Around} {h h' : Heap} (hot : HotAt A x1 h) (hA : A'.handled = A.handled) (k : ∀ o, h.get? x1 = some o → h'.get? x1 = some o) : HotAt A' x1 h' :=
  ⟨hA.trans hot.1, let ⟨o, vs, p, q⟩ := hot.2; ⟨o, vs, k o p, q⟩⟩
theorem apart_small {h : Heap} {b : Addr} {o : Obj} {vs : Array Value} (hot : HotAt A x1 h) (hb : h.get? b = some o) (hd : o.data = .fields vs) (small : vs.size ≤ 2) : x1 ≠ b := by
  rintro rfl
  obtain ⟨_, o', vs', p, q, r⟩ := hot
  obtain rfl : o' = o := Option.some.inj (p.symm.trans hb)
  obtain rfl : vs' = vs := Data.fields.inj (q.symm.trans hd)
  exact absurd (r.symm.trans (Array.getElem?_eq_none small)) (fun z => nomatch z)
theorem apart_seq {h : Heap} {b : Addr} {o : Obj} {its : Array Value} {n : Nat} (hot : HotAt A x1 h) (hb : h.get? b = some o) (hd : o.data = .seq its n) : x1 ≠ b := by
  rintro rfl
  obtain ⟨_, o', vs', p, q, _⟩ := hot
  obtain rfl : o' = o := Option.some.inj (p.symm.trans hb)
  exact absurd (q.symm.trans hd) (fun z => nomatch z)
/-- what is told of a StopIteration that was raised: what stood stands, but at the addresses of l -/
def Gone (l : List Addr) (s : Shared) (e : Value) (s' : Shared) : Prop :=
  ∃ (h' : Heap) (a : Addr) (o : Obj), e = .ref a ∧ s' = { s with heap := h' } ∧ (∀ b u, b ∉ l → s.heap.get? b = some u → h'.get? b = some u) ∧ h'.get? a = some o ∧ o.cls = .type "StopIteration"
theorem Gone.before {l : List Addr} {h1 : Heap} {e : Value} {s' : Shared} (g : Gone l { s with heap := h1 } e s') (k : ∀ b u, b ∉ l → s.heap.get? b = some u → h1.get? b = some u) : Gone l s e s' := by
  obtain ⟨h', a, o, p, q, r, t⟩ := g
  exact ⟨h', a, o, p, q, fun b u hb hu => r b u hb (k b u hb hu), t⟩
theorem Gone.more {l l' : List Addr} {e : Value} {s' : Shared} (g : Gone l s e s') (k : ∀ b, b ∈ l → b ∈ l') : Gone l' s e s' := by
  obtain ⟨h', a, o, p, q, r, t⟩ := g
  exact ⟨h', a, o, p, q, fun b u hb hu => r b u (fun z => hb (k b z)) hu, t⟩
theorem stop_raised {α : Type} {Q : α → Shared → Prop} (hot : HotAt A x1 s.heap) (hE : ∀ e s', Gone [] s e s' → E e s') : wpAny (model prog w) A (Builtin.SmallTypes.stopIteration : Sem α) Q E s := by
  unfold Builtin.SmallTypes.stopIteration newExc newTuple
  refine wpAny_bind (wpAny_bind (wpAny_newObj_type (wpAny_bind (m := firstArgMember _ _) (wpAny_of_eq (a := Value.none) (by simp only [firstArgMember]; rfl) (wpAny_newObj_type ?_ (by size_fits)))) (by size_fits)))
  have up : ∀ b u, s.heap.get? b = some u → ∀ o1 o2 : Obj, ((s.heap.push o1).push o2).get? b = some u := fun b u e o1 o2 => Heap.get?_push_of_some _ (Heap.get?_push_of_some _ e)
  obtain ⟨ox, vx, hx, dx, cx⟩ := hot.2
  have lx := Heap.lt_size (Heap.get?_push_of_some ({ cls := .type "tuple", data := .seq ([] : List Value).toArray } : Obj) hx)
  refine raiseNew_hot (x1 := x1) (stays hot rfl fun o e => up _ _ e _ _) (Nat.ne_of_lt lx) (Heap.get?_push_size _ rfl) rfl (by first | (simp; done) | (simp only [Array.size_append]; simp; omega)) ?_
  refine hE _ _ ⟨_, _, _, rfl, rfl, fun b u _ hu => ?_, Heap.get?_update_self _ (Heap.get?_push_size _ rfl) rfl, rfl⟩
  have lb := Heap.lt_size (Heap.get?_push_of_some ({ cls := .type "tuple", data := .seq ([] : List Value).toArray } : Obj) hu)
  exact (Heap.get?_update_other _ _ (Nat.ne_of_gt lb)).trans (up b u hu _ _)
/-- a walker whose __next__ ends so has nothing left -/
theorem next_gone {it : Addr} {T id : String} {b : Builtin} {l : List Addr} {Q : Option Value → Shared → Prop} (hT : s.TypeIs (.ref it) T) (sl : Slot T (Str.ofString "__next__") id) (en : entryFor table id = some b) (ar : argsOk id ⟨[.ref it], []⟩)
    (hb : wpAny (model prog w) A.in1 (b ⟨[.ref it], []⟩) (fun _ _ => False) (Gone l s) s) (hQ : ∀ h', (∀ c u, c ∉ l → s.heap.get? c = some u → h'.get? c = some u) → Q none { s with heap := h' }) :
    wpAny (model prog w) A (pyNext (.ref it)) Q E s := by
  unfold pyNext
  refine wpAny_bind (wpAny_attempt (wpAny_callSpecial?_slot hT sl (wpAny_call_entry sl hT en (wpAny_mono hb (fun _ _ z => z.elim) fun e s' g => ?_) ar)))
  obtain ⟨h', a, o, rfl, rfl, k, ha, hc⟩ := g
  exact wpAny_bind (wpAny_isInstance (T := "StopIteration") (b := true) ⟨o, ha, hc⟩ isSubtype_stop (wpAny_pure (hQ h' k)))
/-- .. also where another builtin asks it -/
theorem nextOf_gone {it : Addr} {T id : String} {b : Builtin} {l : List Addr} {Q : Value → Shared → Prop} (hT : s.TypeIs (.ref it) T) (sl : Slot T (Str.ofString "__next__") id) (en : entryFor table id = some b) (ar : argsOk id ⟨[.ref it], []⟩)
    (hb : wpAny (model prog w) A.in1 (b ⟨[.ref it], []⟩) (fun _ _ => False) (Gone l s) s) (hE : ∀ e s', Gone l s e s' → E e s') : wpAny (model prog w) A (Builtin.SmallTypes.nextOf (.ref it)) Q E s := by
  unfold Builtin.SmallTypes.nextOf
  exact wpAny_bind (wpAny_callSpecial?_slot hT sl (wpAny_call_entry sl hT en (wpAny_mono hb (fun _ _ z => z.elim) hE) ar))
/-- the walkers of lists and of tuples are one function -/
theorem rising_gone {it a : Addr} {T : String} {i n : Nat} {items : Array Value} {oa : Obj} {b : Builtin} (hb : b = Builtin.«list_iterator.__next__» ∨ b = Builtin.«tuple_iterator.__next__») (hot : HotAt A x1 s.heap)
    (hit : s.heap.get? it = some { cls := .type T, dict := none, data := .fields #[.ref a, .int i 0], slots := #[] } ∨ ∃ o, s.heap.get? it = some o ∧ o.data = .fields #[.ref a, .int i 0]) (ha : s.heap.get? a = some oa) (da : oa.data = .seq items n) (hx : items[i]? = none) :
    wpAny (model prog w) A (b ⟨[.ref it], []⟩) (fun _ _ => False) (Gone [it] s) s := by
  obtain ⟨o, ho, d⟩ : ∃ o, s.heap.get? it = some o ∧ o.data = .fields #[.ref a, .int i 0] := hit.elim (fun z => ⟨_, z, rfl⟩) id
  have ne := apart_small hot ho d (Nat.le_refl 2)
  have tail : wpAny (model prog w) A (do setField (.ref it) 0 .none; (Builtin.SmallTypes.stopIteration : Sem Fin)) (fun _ _ => False) (Gone [it] s) s := by
    refine wpAny_bind (wpAny_setField ho d (by simp) ?_)
    have other : ∀ c u, c ≠ it → s.heap.get? c = some u → (s.heap.update it (Obj.mapFields (·.setIfInBounds 0 .none))).get? c = some u := fun c u hc e => (Heap.get?_update_other _ _ (Ne.symm hc)).trans e
    exact stop_raised (stays hot rfl fun u e => other _ _ ne e) fun e s' g => (g.more (l' := [it]) fun _ z => nomatch z).before fun c u hc hu => other c u (fun z => hc (by rw [z]; exact List.mem_cons_self)) hu
  rcases hb with rfl | rfl
  all_goals
    show wpAny _ _ (field (.ref it) 0 >>= _) _ _ s
    refine wpAny_bind (wpAny_field ho d (x := .ref a) rfl ?_)
    show wpAny _ _ (if (Value.ref a == Value.none) = true then _ else _) _ _ s
    rw [if_neg (fun z : (Value.ref a == Value.none) = true => nomatch z)]
    show wpAny _ _ (field (.ref it) 1 >>= _) _ _ s
    refine wpAny_bind (wpAny_field ho d (x := .int i 0) rfl ?_)
    show wpAny _ _ (seqItems? (.ref a) >>= _) _ _ s
    refine wpAny_bind (wpAny_seqItems ha da ?_)
    simp only [Int.toNat_natCast, hx]
    exact wpAny_bind (wpAny_rule tail)
end
end HX
namespace HX
open PySem PySem.Spec PyProof.Rows HotX
/-- but at l, all stands -/
def Keep (l : List Addr) (h h' : Heap) : Prop := ∀ b u, b ∉ l → h.get? b = some u → h'.get? b = some u
theorem Keep.same {a : Addr} {h h' : Heap} (sb : Heap.SameBut a h h') {l : List Addr} (m : a ∈ l) : Keep l h h' := fun b u hb hu => (sb.2 b fun z => hb (z ▸ m)).trans hu
theorem Keep.trans {l : List Addr} {h h' h'' : Heap} (p : Keep l h h') (q : Keep l h' h'') : Keep l h h'' := fun b u hb hu => q b u hb (p b u hb hu)
section
variable {prog : Program} {w : World} {A : Around} {E : Value → Shared → Prop} {s : Shared} {x1 : Addr}
/-- a list's walker asked once more at its end -/
theorem list_asked {it a : Addr} {i : Nat} {items : Array Value} (hot : HotAt A x1 s.heap) (hit : s.heap.IsListIter it a i) (hl : s.heap.IsList a items) (hx : items[i]? = none) :
    wpAny (model prog w) A (Builtin.«list_iterator.__next__» ⟨[.ref it], []⟩) (fun _ _ => False) (Gone [it] s) s :=
  let ⟨o, p, _, q⟩ := hit
  let ⟨_, r, _, _, t⟩ := hl
  rising_gone (T := "") (.inl rfl) hot (.inr ⟨o, p, q⟩) r t hx
theorem list_gone {it a : Addr} {i : Nat} {items : Array Value} {Q : Option Value → Shared → Prop} (hot : HotAt A x1 s.heap) (hit : s.heap.IsListIter it a i) (hl : s.heap.IsList a items) (hx : items[i]? = none)
    (hQ : ∀ h', Keep [it] s.heap h' → Q none { s with heap := h' }) : wpAny (model prog w) A (pyNext (.ref it)) Q E s :=
  next_gone hit.typeIs slot_listiter_next entry_listiter_next (args_listiter_next _) (list_asked (stays hot rfl fun _ e => e) hit hl hx) hQ
theorem tuple_gone {it a : Addr} {i : Nat} {items : Array Value} {Q : Option Value → Shared → Prop} (hot : HotAt A x1 s.heap) (hit : s.heap.IsTupleIter it a i) (hl : s.heap.IsTuple a items) (hx : items[i]? = none)
    (hQ : ∀ h', Keep [it] s.heap h' → Q none { s with heap := h' }) : wpAny (model prog w) A (pyNext (.ref it)) Q E s :=
  let ⟨o, p, _, q⟩ := id hit
  let ⟨_, r, _, _, t⟩ := hl
  next_gone hit.typeIs F.slot_tuple_iterator_next F.entry_tuple_iterator_next (F.args_tuple_iterator_next_1 _) (rising_gone (T := "") (.inr rfl) (stays (A' := A.in1) hot rfl fun _ e => e) (.inr ⟨o, p, q⟩) r t hx) hQ
/-- the zip asks its walker at the end, and lets its pair go -/
theorem draw_gone {z TI TO it a : Addr} {i : Nat} {items : Array Value} {Q : Value → Shared → Prop} (hot : HotAt A x1 s.heap) (hz : IsZip s.heap z TI TO .ellipsis) (hit : s.heap.IsListIter it a i) (hl : s.heap.IsList a items) (hx : items[i]? = none) (ne : it ≠ z) :
    wpAny (model prog w) A (Builtin.SmallTypes.nextOf (.ref it)) Q (fun e s2 => wpAny (model prog w) A (setField (.ref z) 0 .none) (fun _ s3 => Gone [z, it] s e s3) E s2) s := by
  refine nextOf_gone hit.typeIs slot_listiter_next entry_listiter_next (args_listiter_next _) (list_asked (stays hot rfl fun _ e => e) hit hl hx) fun e s2 g => ?_
  obtain ⟨h', b, o, rfl, rfl, k, hb, hc⟩ := g
  have hz2 : IsZip h' z TI TO .ellipsis := k z _ (fun m => ne (List.mem_singleton.mp m).symm) hz
  have bz : b ≠ z := fun e => by
    rw [e] at hb
    obtain rfl := Option.some.inj (hb.symm.trans hz2)
    simp at hc
  refine wpAny_setField_rec hz2 (by simp) fun h3 _ sb => ⟨h3, b, o, rfl, rfl, fun c u hc hu => ?_, (sb.2 b bz).trans hb, hc⟩
  simp only [List.mem_cons, List.not_mem_nil, or_false, not_or] at hc
  exact (sb.2 c hc.1).trans (k c u (fun m => hc.2 (List.mem_singleton.mp m)) hu)
theorem zip_asked {z TI TO i1 i2 l1 l2 : Addr} {k1 k2 : Nat} {xs ys : Array Value} {a b : Value} (hot : HotAt A x1 s.heap) (D : ZipApart z TI TO i1 i2 l1 l2) (hz : IsZip s.heap z TI TO .none) (hTI : IsPair s.heap TI (.ref i1) (.ref i2)) (hTO : IsPair s.heap TO a b)
    (h1 : s.heap.IsListIter i1 l1 k1) (h2 : s.heap.IsListIter i2 l2 k2) (hl1 : s.heap.IsList l1 xs) (hl2 : s.heap.IsList l2 ys) (hend : xs[k1]? = none ∨ ys[k2]? = none) :
    wpAny (model prog w) A (Builtin.«zip.__next__» ⟨[.ref z], []⟩) (fun _ _ => False) (Gone [z, TO, i1, i2] s) s := by
  have nz : x1 ≠ z := fun e => by
    obtain ⟨o, vs, p, q, r⟩ := hot.2
    rw [e] at p
    obtain rfl := Option.some.inj (p.symm.trans hz)
    obtain rfl := Data.fields.inj q
    cases r
  have nTO : x1 ≠ TO := apart_seq hot (show s.heap.get? TO = some _ from hTO) rfl
  have n1 : x1 ≠ i1 := let ⟨_, p, _, q⟩ := id h1; apart_small hot p q (Nat.le_refl 2)
  show wpAny _ _ (field (.ref z) 2 >>= _) _ _ _
  refine wpAny_bind (wpAny_field hz rfl (x := .bool false) rfl ?_)
  show wpAny _ _ (field (.ref z) 3 >>= _) _ _ _
  refine wpAny_bind (wpAny_field hz rfl (x := .ref TI) rfl (wpAny_bind (wpAny_seqItems hTI rfl ?_)))
  show wpAny _ _ (Builtin.SmallTypes.ownedTupleIsFree (.ref z) >>= _) _ _ _
  refine wpAny_bind ?_
  unfold Builtin.SmallTypes.ownedTupleIsFree
  refine wpAny_bind (wpAny_field hz rfl (x := .none) rfl (wpAny_pure ?_))
  simp only [if_true]
  refine wpAny_bind (wpAny_rule (wpAny_bind (wpAny_field hz rfl (x := .ref TO) rfl (wpAny_bind (wpAny_setField_rec hz (by simp) fun g1 hz1 sb1 => ?_)))))
  replace hz1 : IsZip g1 z TI TO .ellipsis := hz1
  have in1 : z ∈ [z, TO, i1, i2] := List.mem_cons_self
  have hot1 : HotAt A x1 g1 := stays hot rfl fun o e => (sb1.2 x1 nz).trans e
  have last : ∀ {it : Addr} {g : Heap} {e : Value} {s3 : Shared}, it ∈ [z, TO, i1, i2] → Keep [z, TO, i1, i2] s.heap g → Gone [z, it] { s with heap := g } e s3 → Gone [z, TO, i1, i2] s e s3 := fun {it g e s3} m k q =>
    (q.more fun c hc => by
      rcases List.mem_cons.mp hc with rfl | hc
      · exact in1
      · exact (List.mem_singleton.mp hc) ▸ m).before k
  refine wpAny_bind ?_
  simp only [List.zipIdx_cons, List.zipIdx_nil, List.forIn_cons, List.forIn_nil]
  refine wpAny_bind (wpAny_bind (wpAny_onRaise ?_))
  show wpAny _ _ (Builtin.SmallTypes.nextOf (.ref i1) >>= _) _ _ _
  cases hx : xs[k1]? with
  | none => exact wpAny_bind (wpAny_mono (draw_gone (Q := fun _ _ => False) hot1 hz1 (h1.extBut sb1.extBut D.i1z) (hl1.extBut sb1.extBut D.l1z) hx D.i1z) (fun _ _ q => q.elim) fun e s2 q => wpAny_mono q (fun _ s3 q => last (by simp) (Keep.same sb1 in1) q) fun _ _ q => q)
  | some x =>
    have hy : ys[k2]? = none := hend.elim (fun q => absurd (hx.symm.trans q) (fun q => nomatch q)) id
    refine wpAny_bind (wpAny_nextOf_list_item (h1.extBut sb1.extBut D.i1z) (hl1.extBut sb1.extBut D.l1z) hx fun g2 it1 sb2 => wpAny_pure ?_)
    have hTO2 : IsPair g2 TO a b := sb2.extBut _ _ D.TOi1 (sb1.extBut _ _ D.TOz hTO)
    refine wpAny_bind (wpAny_seqItems hTO2 rfl (wpAny_bind (wpAny_updateSeq_pair hTO2 fun g3 hTO3 sb3 => wpAny_bind (wpAny_letGo (wpAny_pure ?_)))))
    refine wpAny_bind (wpAny_bind (wpAny_onRaise ?_))
    show wpAny _ _ (Builtin.SmallTypes.nextOf (.ref i2) >>= _) _ _ _
    have hz3 : IsZip g3 z TI TO .ellipsis := sb3.extBut _ _ D.TOz.symm (sb2.extBut _ _ D.i1z.symm hz1)
    have hot3 : HotAt A x1 g3 := stays hot1 rfl fun o e => sb3.extBut _ _ nTO (sb2.extBut _ _ n1 e)
    have k3 : Keep [z, TO, i1, i2] s.heap g3 := ((Keep.same sb1 in1).trans (Keep.same sb2 (by simp))).trans (Keep.same sb3 (by simp))
    exact wpAny_bind (wpAny_mono (draw_gone (Q := fun _ _ => False) hot3 hz3 (((h2.extBut sb1.extBut D.i2z).extBut sb2.extBut D.i12.symm).extBut sb3.extBut D.TOi2.symm) (((hl2.extBut sb1.extBut D.l2z).extBut sb2.extBut D.l2i1).extBut sb3.extBut D.l2TO) hy D.i2z)
      (fun _ _ q => q.elim) fun e s2 q => wpAny_mono q (fun _ s3 q => last (by simp) k3 q) fun _ _ q => q)
theorem zip_gone {z TI TO i1 i2 l1 l2 : Addr} {k1 k2 : Nat} {xs ys : Array Value} {a b : Value} {Q : Option Value → Shared → Prop} (hot : HotAt A x1 s.heap) (D : ZipApart z TI TO i1 i2 l1 l2) (hz : IsZip s.heap z TI TO .none) (hTI : IsPair s.heap TI (.ref i1) (.ref i2)) (hTO : IsPair s.heap TO a b)
    (h1 : s.heap.IsListIter i1 l1 k1) (h2 : s.heap.IsListIter i2 l2 k2) (hl1 : s.heap.IsList l1 xs) (hl2 : s.heap.IsList l2 ys) (hend : xs[k1]? = none ∨ ys[k2]? = none) (hQ : ∀ h', Keep [z, TO, i1, i2] s.heap h' → Q none { s with heap := h' }) :
    wpAny (model prog w) A (pyNext (.ref z)) Q E s :=
  next_gone ⟨_, hz, rfl⟩ F.slot_zip_next F.entry_zip_next (F.args_zip_next_1 _) (zip_asked (stays (A' := A.in1) hot rfl fun _ e => e) D hz hTI hTO h1 h2 hl1 hl2 hend) hQ
end
end HX
namespace HX
open PySem PySem.Spec PyProof.Rows L2 L2H HotX
section
variable {P : Program} {w : World} {K : PySem.W.Frag} {tg : Expr}
/-- one walker has turned -/
theorem one_turned {X : Cx} {pins : List (Addr × Obj)} {σ : L2.St} {H : Hp} {s : Shared} {it : Addr} {h' : Heap} (I : Inv X pins σ H s) (f : ∀ b ∈ [it], FpOk X pins H b) (k : Keep [it] s.heap h') : Inv X pins σ H { s with heap := h' } :=
  I.turnedL (t' := s.toks) (ch := [it]) (fun b u hb hu => k b u hb hu) f
theorem turnH_list (a it : Addr) : TurnH P w K tg (Itl K a) [it] it (fun i h => h.IsListIter it a i) :=
  let T : Turn P w K tg (Itl K a) [it] it (fun i h => h.IsListIter it a i) := turn_list a it
  { mem := T.mem, obj := T.obj, keep := T.keep, self := T.self,
    item := fun X eP ew eK hc i pins s σ H E I f st ⟨xs, x, hq, hx⟩ => by
      subst eP ew eK
      obtain ⟨its, rv, p, _⟩ := I.list hq
      obtain ⟨u, hu, ru⟩ := rv.get hx
      refine wpAny_pyNext_list_item st p.isList (x := u) (by simpa using hu) fun h' st' sb => ?_
      obtain ⟨o, e, c, d⟩ := id st'
      have J := one_turned I f (Keep.same sb List.mem_cons_self)
      exact ⟨u, rfl, go_of (s := { s with heap := h' }) e c d (by decide) ⟨x, H, J, ru, ⟨rfl, fun ys hy => I.list_inj hy hq ▸ hx⟩, st', fun b hb => (f b hb).1⟩⟩
    done := fun X eP ew eK hc i pins s σ H E I f st ⟨xs, hq, hx⟩ => by
      subst eP ew eK
      obtain ⟨its, rv, p, _⟩ := I.list hq
      obtain ⟨x1, hot⟩ := hc.at I
      have l := rv.length
      exact list_gone hot st p.isList (by simp; omega) fun h' k => ⟨rfl, one_turned I f k⟩ }
theorem turnH_tuple (a it : Addr) : TurnH P w K tg (Itt K a) [it] it (fun i h => h.IsTupleIter it a i) :=
  let T : Turn P w K tg (Itt K a) [it] it (fun i h => h.IsTupleIter it a i) := turn_tuple a it
  { mem := T.mem, obj := T.obj, keep := T.keep, self := T.self,
    item := fun X eP ew eK hc i pins s σ H E I f st ⟨xs, x, hq, hx⟩ => by
      subst eP ew eK
      obtain ⟨its, rv, p, _⟩ := I.tuple hq
      obtain ⟨u, hu, ru⟩ := rv.get hx
      refine wpAny_pyNext_tuple_item st (show s.heap.IsTuple a its.toArray from p) (x := u) (by simpa using hu) fun h' st' sb => ?_
      obtain ⟨o, e, c, d⟩ := id st'
      have J := one_turned I f (Keep.same sb List.mem_cons_self)
      exact ⟨u, rfl, go_of (s := { s with heap := h' }) e c d (by decide) ⟨x, H, J, ru, ⟨rfl, fun ys hy => I.tuple_inj hy hq ▸ hx⟩, st', fun b hb => (f b hb).1⟩⟩
    done := fun X eP ew eK hc i pins s σ H E I f st ⟨xs, hq, hx⟩ => by
      subst eP ew eK
      obtain ⟨its, rv, p, _⟩ := I.tuple hq
      obtain ⟨x1, hot⟩ := hc.at I
      have l := rv.length
      exact tuple_gone hot st (show s.heap.IsTuple a its.toArray from p) (by simp; omega) fun h' k => ⟨rfl, one_turned I f k⟩ }
theorem turnH_zip {elts : List Expr} {kk : Nat} {tpos : Pos} {a b z TI TO i1 i2 : Addr} (D : ZipApart z TI TO i1 i2 a b) :
    TurnH P w K (.Tuple elts kk tpos) (Itz K a b) [z, TI, TO, i1, i2] z (fun i h => IsZip h z TI TO .none ∧ IsPair h TI (.ref i1) (.ref i2) ∧ (∃ x y, IsPair h TO x y) ∧ h.IsListIter i1 a i ∧ h.IsListIter i2 b i) :=
  let T : Turn P w K (.Tuple elts kk tpos) (Itz K a b) [z, TI, TO, i1, i2] z (fun i h => IsZip h z TI TO .none ∧ IsPair h TI (.ref i1) (.ref i2) ∧ (∃ x y, IsPair h TO x y) ∧ h.IsListIter i1 a i ∧ h.IsListIter i2 b i) := turn_zip D
  { mem := T.mem, obj := T.obj, keep := T.keep, self := T.self,
    item := fun X eP ew eK hc i pins s σ H E I f ⟨hz, hTI, ⟨_, _, hTO⟩, h1, h2⟩ ⟨xs, ys, x, y, hqx, hqy, hx, hy⟩ => by
      subst eP ew eK
      obtain ⟨its, rv, p, _⟩ := I.list hqx
      obtain ⟨jts, rw, q, _⟩ := I.list hqy
      obtain ⟨u, hu, ru⟩ := rv.get hx
      obtain ⟨v, hv, rv'⟩ := rw.get hy
      have old : ∀ c ∈ [z, TI, TO, i1, i2], c < s.heap.objs.size := fun c hc => let ⟨_, e, _⟩ := T.obj i _ ⟨hz, hTI, ⟨_, _, hTO⟩, h1, h2⟩ c hc; Heap.lt_size e
      refine wpAny_pyNext_zip_item D hz hTI hTO h1 h2 p.isList q.isList (x := u) (y := v) (by simpa using hu) (by simpa using hv) fun g gz gTO g1 g2 gT _ gk => ⟨_, rfl, wpAny_letOwnedTupleGo_zip (s := { s with heap := g }) gz fun g' gz' sb => ?_⟩
      have fresh : s.heap.objs.size ≠ z := Nat.ne_of_gt (old z T.mem)
      have kept : ∀ c o, c ∉ [z, TI, TO, i1, i2] → s.heap.get? c = some o → g'.get? c = some o := fun c o hc e => by
        simp only [List.mem_cons, List.not_mem_nil, or_false, not_or] at hc
        exact (sb.2 c hc.1).trans (gk c o hc.1 hc.2.2.1 hc.2.2.2.1 hc.2.2.2.2 e)
      have J := I.turnedNew (t' := s.toks) (T := s.heap.objs.size) (ob := .tup [x, y]) kept f (Nat.le_refl _) ⟨show (2 : Nat) ≤ sizeLine by decide, [u, v], .cons ru (.cons rv' .nil), ⟨_, (sb.2 _ fresh).trans gT, rfl, _, rfl⟩⟩
      refine ⟨.ref s.heap.objs.size, _, J, rfl, ⟨_, x, y, rfl, I.hok.fresh (Nat.le_refl _), rfl, fun l hl => I.list_inj hl hqx ▸ hx, fun l hl => I.list_inj hl hqy ▸ hy⟩,
        ⟨gz', (sb.2 _ D.TIz).trans (gk _ _ D.TIz D.TITO D.TIi1 D.TIi2 hTI), ⟨u, v, (sb.2 _ D.TOz).trans gTO⟩, g1.at fun o e => (sb.2 _ D.i1z).trans e, g2.at fun o e => (sb.2 _ D.i2z).trans e⟩, fun c hc => ?_⟩
      exact (upd_ne (Nat.ne_of_lt (old c hc))).trans (f c hc).1
    done := fun X eP ew eK hc i pins s σ H E I f ⟨hz, hTI, ⟨_, _, hTO⟩, h1, h2⟩ ⟨xs, ys, hqx, hqy, hend⟩ => by
      subst eP ew eK
      obtain ⟨its, rv, p, _⟩ := I.list hqx
      obtain ⟨jts, rw, q, _⟩ := I.list hqy
      obtain ⟨x1, hot⟩ := hc.at I
      have l1 := rv.length
      have l2 := rw.length
      have over : its.toArray[i]? = none ∨ jts.toArray[i]? = none := by
        rcases hend with n | n
        · exact .inl (by simp; omega)
        · exact .inr (by simp; omega)
      exact zip_gone hot D hz hTI hTO h1 h2 p.isList q.isList over fun h' k =>
        ⟨rfl, I.turnedL (t' := s.toks) (ch := [z, TI, TO, i1, i2]) (fun c o hc e => k c o (fun m => hc (by simp only [List.mem_cons, List.not_mem_nil, or_false] at m ⊢; rcases m with m | m | m | m <;> simp [m])) e) f⟩ }
end
section
variable {X : Cx} {tg : Expr}
/-- a list or a tuple -/
theorem piH_seq {l : Expr} {tl : TE} (hl : PE X l tl) : PIH X tg l (DL.iSeq X.K tl) := ⟨fun pins s σ H R I h => thn (hl.run pins s σ H _ I h) fun v s1 ⟨x, H1, I1, rx, q⟩ => by
  have J : ∀ ob : Obj, Inv X pins σ H1 { s1 with heap := s1.heap.push ob } := fun ob => I1.kept (t' := s1.toks) fun b o e => Heap.get?_push_of_some _ e
  have fp : ∀ b ∈ [s1.heap.objs.size], FpOk X pins H1 b := fun b hb => I1.fpOk (Nat.le_of_eq (List.mem_singleton.mp hb).symm) (I1.hok.fresh (Nat.le_of_eq (List.mem_singleton.mp hb).symm))
  rcases q with ⟨a, rfl, ⟨xs, hq⟩, q⟩ | ⟨a, rfl, ⟨xs, hq⟩, q⟩
  all_goals obtain rfl : v = Value.ref a := rx
  · obtain ⟨its, rv, p, _⟩ := I1.list hq
    refine wpAny_pyIter_list p.isList ?_
    exact ⟨s1.heap.objs.size, [s1.heap.objs.size], _, _, H1, rfl, J _, turnH_list a s1.heap.objs.size, ⟨_, Heap.get?_push_size _ rfl, rfl, rfl⟩, fp, q⟩
  · obtain ⟨its, rv, p, _⟩ := I1.tuple hq
    refine wpAny_pyIter_tuple (show s1.heap.IsTuple a its.toArray from p) ?_
    exact ⟨s1.heap.objs.size, [s1.heap.objs.size], _, _, H1, rfl, J _, turnH_tuple a s1.heap.objs.size, ⟨_, Heap.get?_push_size _ rfl, rfl, rfl⟩, fp, q⟩⟩
/-- zip(x, y) -/
theorem piH_zip {e e2 : Expr} {ta : TA} {p pos tpos : Pos} {elts : List Expr} {kk : Nat} (hg : Gl X "zip") (hm : X.mg "zip" = none) (ha : PA X [e, e2] ta)
    (hs : starEach [e, e2] X.env = (false, eval e X.env) :: starEach [e2] X.env := by rfl) (hpl : (backTo pos (starEach [e2] X.env)).any (·.1) = false := by rfl) :
    PIH X (.Tuple elts kk tpos) (.Call (.Name "zip" p) [e, e2] [] pos) (iZip X.K ta) := ⟨fun pins s σ H R I h => by
  refine Call_ (ld_blt I hg hm PyProof.Rows.boot_zip (PyProof.Rows.callWith_type1 (thn (ha.run pos pins s σ H _ I h) fun us s1 ⟨vs, H1, I1, r, w⟩ => ?_) hs hpl))
  obtain ⟨a, b, xs, ys, ev, hqx, hqy, q⟩ := w
  subst ev
  cases r with
  | cons ra rest =>
    cases rest with
    | cons rb none =>
      cases none
      cases ra
      cases rb
      obtain ⟨its, _, pa, _⟩ := I1.list hqx
      obtain ⟨jts, _, pb, _⟩ := I1.list hqy
      have ap := PySem.W.ktu_apart s1.heap.objs.size a b pa.lt pb.lt
      refine call_zip_2 pa.isList pb.isList fun g gz gTI gTO g1 g2 _ gk => wpAny_pyIter_zip gz ?_
      have J : Inv X pins σ H1 { s1 with heap := g } := I1.kept (t' := s1.toks) gk
      refine ⟨s1.heap.objs.size + 4, _, _, _, H1, rfl, J, turnH_zip ap, ⟨gz, gTI, ⟨_, _, gTO⟩, g1, g2⟩, fun c hc => ?_, q⟩
      have ge : s1.heap.objs.size ≤ c := by
        simp only [List.mem_cons, List.not_mem_nil, or_false] at hc
        rcases hc with m | m | m | m | m <;> rw [m] <;> first | exact Nat.le_refl _ | exact Nat.le_add_right _ _
      exact I1.fpOk ge (I1.hok.fresh ge)⟩
end
end HX
namespace HX
open PySem PySem.Spec PyProof.Rows L2 L2H HotX
theorem okPn {X : Cx} (o : X.Ok) (pn : List (Addr × Obj)) : Cx.Ok { X with pn := pn } :=
  ⟨o.mod, o.kind, o.glob, o.blt, o.above, o.inj, o.has, o.cab, o.hd, o.frames, o.stk, o.exf, o.bs, o.bsz, o.noex, o.exfs, o.funs, o.frf⟩
theorem invPn {X : Cx} {pn pins : List (Addr × Obj)} {σ : L2.St} {H : Hp} {s : Shared} (I : Inv X pins σ H s) (h : ∀ p ∈ pn, s.heap.get? p.1 = some p.2 ∧ H p.1 = none ∧ p.1 ≠ X.env.locals ∧ p.1 ∉ X.fs ∧ ∀ v, p.2.data ≠ .cell v) :
    Inv { X with pn := pn } pins σ H s :=
  ⟨okPn I.ok pn, I.os, I.bare, I.base, I.loc, I.cell, I.free, I.freeC, fun p hp => (List.mem_append.mp hp).elim (h p) fun z => I.pin p (List.mem_append_right _ z), I.hok, I.len⟩
/-- the block of a comprehension in X -/
abbrev blkH (X : Cx) (s : Shared) (H : Hp) (scope : Scope) (cenv : Env) (fp : List Addr) : Cx := { X.blk s H scope cenv fp with pn := X.pn }
theorem hot_blk {X : Cx} {s : Shared} {H : Hp} {scope : Scope} {cenv : Env} {fp : List Addr} (hc : HotC X) : HotC (blkH X s H scope cenv fp) := let ⟨p, q, r⟩ := hc; ⟨p, q, r⟩
section
variable {Y : Cx} {elt tg iter : Expr} {ifs : List Expr} {scope : Scope} {pos : Pos} {g : TG} {tt : TT} {te : TE} {J : It} {it D : Addr} {fp : List Addr} {tn : Nat → Heap → Prop} {σ : L2.St} {vs : List Nat} {R : Result → Shared → Prop}
/-- what a turn brings -/
abbrev StepTo (J : It) (g : TG) (tt : TT) (te : TE) (σ : L2.St) (vs : List Nat) (D : Addr) (i : Nat) (H : Hp) (Nx : Hp → Prop) : Prop :=
  ∀ x H', J.yld i H x H' → g x (wipe σ vs) H' fun σ2 H2 => wipe σ2 vs = wipe σ vs ∧ tt σ2 H2 fun b H3 => if b = true then te σ2 H3 fun y H4 => ∃ acc, H4 D = some (.lst acc) ∧ acc.length < sizeLine ∧ Nx (upd H4 D (.lst (acc ++ [y]))) else Nx H3
theorem loopH (T : TurnH Y.prog Y.w Y.K tg J fp it tn) (hc : HotC Y) (hxe : Y.xe = fun _ _ => False) (stat : ∀ {H' : Hp}, (∀ b ∈ fp, H' b = none) → ∀ {σ' : L2.St} {s' : Shared}, Inv Y [] σ' H' s' → ∀ b ∈ fp, FpOk Y [] H' b)
    (pg : PG Y tg g) (pt : PTs Y ifs tt) (pe : PE Y elt te) (W : Nat → Nat → Hp → Prop) (Fin : Hp → Prop) (turn : ∀ i m H, W i m H → (J.stop i H ∧ Fin H) ∨ (J.go i H ∧ ∃ Nx : Hp → Prop, (∀ H', Nx H' → ∃ m', m' < m ∧ W (i + 1) m' H') ∧ StepTo J g tt te σ vs D i H Nx))
    (fin : ∀ s H, Inv Y [] (wipe σ vs) H s → Fin H → R (.ok .next) s) {m0 : Nat} {H0 : Hp} {s0 : Shared} (I0 : Inv Y [] (wipe σ vs) H0 s0) (t0 : tn 0 s0.heap) (n0 : ∀ b ∈ fp, H0 b = none) (w0 : W 0 m0 H0) :
    codeAny (model Y.prog Y.w) Y.A (.compLoop (.ListComp elt [⟨tg, iter, ifs, 0⟩] scope pos) 0 (.ref it) (.ref D) Y.env) R s0 := by
  have low : ∀ {α : Type} {m : Sem α} {Q : α → Shared → Prop} {E' : Value → Shared → Prop} {s : Shared}, wpAny (model Y.prog Y.w) Y.A m Q Y.xe s → wpAny (model Y.prog Y.w) Y.A m Q E' s := fun {α m Q E' s} h => wpAny_mono h (fun _ _ q => q) fun _ _ z => by rw [hxe] at z; exact z.elim
  refine compLoop_any (fun n s => ∃ i H, Inv Y [] (wipe σ vs) H s ∧ tn i s.heap ∧ (∀ b ∈ fp, H b = none) ∧ W i n H) (fun n s ⟨i, H, I, st, fr, wi⟩ => ?_) m0 ⟨0, H0, I0, t0, n0, w0⟩
  rcases turn i n H wi with ⟨stop, e⟩ | ⟨go, Nx, less, step⟩
  · refine low (thn (T.done Y rfl rfl rfl hc i [] s _ H Y.xe I (stat fr I) st stop) fun r s1 ⟨er, I1⟩ => ?_)
    subst er
    exact fin s1 H I1 e
  · refine low (thn (T.item Y rfl rfl rfl hc i [] s _ H Y.xe I (stat fr I) st go) fun r s1 ⟨u, er, h1⟩ => ?_)
    subst er
    refine low (thn h1 fun _ s2 ⟨x, H2, I2, rx, y2, st2, fr2⟩ => ?_)
    -- the walker's objects stand through the turn
    have P2 := I2.pinned (stat fr2 I2) (T.obj _ _ st2)
    have back : ∀ {s' : Shared} {H' : Hp} {σ' : L2.St}, wipe σ' vs = wipe σ vs → Inv Y ([] ++ pinsAt fp s2.heap) σ' H' s' → Nx H' → ∃ m, m < n ∧ ∃ i H, Inv Y [] (wipe σ vs) H s' ∧ tn i s'.heap ∧ (∀ b ∈ fp, H b = none) ∧ W i m H := fun {s' H' σ'} ew I' nx => by
      obtain ⟨m', lt, w'⟩ := less H' nx
      have held : ∀ b ∈ fp, ∀ o, s2.heap.get? b = some o → s'.heap.get? b = some o ∧ H' b = none := fun b hb o e =>
        let q := I'.pin (b, o) (by simp only [List.nil_append]; exact List.mem_append_right _ (mem_pinsAt hb e))
        ⟨q.1, q.2.1⟩
      refine ⟨m', lt, i + 1, H', ?_, T.keep _ _ _ st2 fun b hb o e => (held b hb o e).1, fun b hb => let ⟨o, e, _⟩ := T.obj _ _ st2 b hb; (held b hb o e).2, w'⟩
      rw [← ew]
      exact (I'.unpinned (pins := [])).weak (wipe_length _ _) fun j v e => (wipe_some e).1
    refine low (thn (pg.run _ s2 _ H2 x u _ P2 rx (step x H2 y2)) fun _ s3 ⟨σ3, H3, I3, ew, q3⟩ => ?_)
    refine low (thn (pt.run _ s3 σ3 H3 _ I3 q3) fun b s4 ⟨H4, I4, q4⟩ => ?_)
    cases b with
    | false => exact back ew I4 q4
    | true => exact low (thn (pe.run _ s4 σ3 H4 _ I4 q4) fun z s5 ⟨y, H5, I5, ry, acc, hD, hl, nx⟩ => low (app_ok I5 hD hl ry fun s6 I6 => back ew I6 nx))
end
section
variable {X : Cx} {elt tg iter : Expr} {ifs : List Expr} {scope : Scope} {own : List (Str × Nat)} {pos : Pos} {wi : TI} {g : TG} {tt : TT} {te : TE}
theorem pe_lcH (hc : HotC X) (hN : X.N.Nodup) (hi : PIH X tg iter wi) (ok : BlkOk X.N X.env.scope scope own)
    (hg : ∀ (s : Shared) (H : Hp) (C : Addr) (cl : List (Str × Addr)) (fp : List Addr), PG (blkH X s H scope (compEnvC scope cl C X.env) fp) tg g) (ht : ∀ (s : Shared) (H : Hp) (C : Addr) (cl : List (Str × Addr)) (fp : List Addr), PTs (blkH X s H scope (compEnvC scope cl C X.env) fp) ifs tt)
    (he : ∀ (s : Shared) (H : Hp) (C : Addr) (cl : List (Str × Addr)) (fp : List Addr), PE (blkH X s H scope (compEnvC scope cl C X.env) fp) elt te) (hs : ∀ x, foldedSetIterable iter X.env x = pure x := by intro _; rfl) :
    PE X (.ListComp elt [⟨tg, iter, ifs, 0⟩] scope pos) (tLc wi g tt te (own.map (·.2))) := ⟨fun pins s σ H Q I h => by
  have caught : ∀ y ∈ scope.names, y.2 = .free → ∃ c, X.env.cells.lookup y.1 = some c := fun y hy e => I.ok.has _ (ok.free y hy e)
  rw [eval_ListComp]
  refine wpAny_comprehension_free (use := none) rfl hs (closure_ok caught) ok.kind (fun y hy e => (ok.uniq y hy).trans (congrArg some e)) (thn (hi.run pins s σ H _ I h) fun v s1 h1 => thn h1 fun itv s2 h2 => ?_)
  obtain ⟨it, fp, tn, J, H2, rfl, I2, T, st2, f2, q⟩ := h2
  obtain ⟨W, ⟨m0, w0⟩, turn⟩ := q s2.heap.objs.size (I2.hok.fresh (Nat.le_refl _))
  refine wpAny_newObj_type (newEnv_comp ?_) (Nat.zero_le _)
  -- the list that is made
  generalize e3 : ({ s2 with heap := s2.heap.push { cls := .type "list", data := .seq ([] : List Value).toArray } } : Shared) = s3
  have grow : ∀ b o, s2.heap.get? b = some o → s3.heap.get? b = some o := fun b o e => by rw [← e3]; exact Heap.get?_push_of_some _ e
  have size3 : s3.heap.objs.size = s2.heap.objs.size + 1 := by rw [← e3]; exact Heap.size_push ..
  have I3 : Inv X pins σ (upd H2 s2.heap.objs.size (.lst [])) s3 := by
    rw [← e3]
    exact I2.laid (t' := s2.toks) (fun b o e => Heap.get?_push_of_some _ e) (Nat.le_refl _) ⟨Nat.zero_le _, [], 0, .nil, Heap.get?_push_size _ rfl⟩
  have young : ∀ b ∈ fp, b < s2.heap.objs.size := fun b hb => let ⟨_, e, _⟩ := T.obj _ _ st2 b hb; Heap.lt_size e
  have none3 : ∀ b ∈ fp, upd H2 s2.heap.objs.size (.lst []) b = none := fun b hb => (upd_ne (Nat.ne_of_lt (young b hb))).trans (f2 b hb).1
  have f3 : ∀ b ∈ fp, FpOk X pins (upd H2 s2.heap.objs.size (.lst [])) b ∧ b < s3.heap.objs.size := fun b hb => ⟨⟨none3 b hb, (f2 b hb).2⟩, by rw [size3]; exact Nat.lt_succ_of_lt (young b hb)⟩
  -- its block
  have B0 := block_start I3 ok hN f3
  generalize eC : compEnvC scope (cellsFrom (s3.heap.objs.size + 1) scope.names (cloFrom X.env.cells scope.names [])) s3.heap.objs.size X.env = cenv at B0
  have hl : cenv.locals = s3.heap.objs.size := by rw [← eC]; rfl
  have grow4 : ∀ b o, s3.heap.get? b = some o → (pushCells (s3.heap.push { cls := .type "dict", data := .dict #[] }) scope.names).get? b = some o := fun b o e => pushCells_keeps _ _ _ _ (Heap.get?_push_of_some _ e)
  have B1 : Inv (blkH X s3 (upd H2 s2.heap.objs.size (.lst [])) scope cenv fp) [] (wipe σ (own.map (·.2))) (upd H2 s2.heap.objs.size (.lst [])) { s3 with heap := pushCells (s3.heap.push { cls := .type "dict", data := .dict #[] }) scope.names } :=
    invPn B0 fun p hp => by
      obtain ⟨a1, a2, a3, a4, a5⟩ := I3.pin p (List.mem_append_left _ hp)
      refine ⟨grow4 _ _ a1, a2, fun z => ?_, fun z => ?_, a5⟩
      · have z : p.1 = cenv.locals := z
        rw [hl] at z
        exact absurd (Heap.lt_size a1) (by rw [z]; exact Nat.lt_irrefl _)
      · exact (List.mem_cons.mp (I3.stkSub p.1 z)).elim a3 a4
  have pg := hg s3 (upd H2 s2.heap.objs.size (.lst [])) s3.heap.objs.size (cellsFrom (s3.heap.objs.size + 1) scope.names (cloFrom X.env.cells scope.names [])) fp
  have pt := ht s3 (upd H2 s2.heap.objs.size (.lst [])) s3.heap.objs.size (cellsFrom (s3.heap.objs.size + 1) scope.names (cloFrom X.env.cells scope.names [])) fp
  have pe := he s3 (upd H2 s2.heap.objs.size (.lst [])) s3.heap.objs.size (cellsFrom (s3.heap.objs.size + 1) scope.names (cloFrom X.env.cells scope.names [])) fp
  show codeAny _ _ (.compStart (.ListComp elt [⟨tg, iter, ifs, 0⟩] scope pos) 0 (.ref it) (.ref s2.heap.objs.size) (compEnvC scope (cellsFrom (s3.heap.objs.size + 1) scope.names (cloFrom X.env.cells scope.names [])) s3.heap.objs.size X.env)) _ { s3 with heap := pushCells (s3.heap.push { cls := .type "dict", data := .dict #[] }) scope.names }
  rw [eC] at pg pt pe ⊢
  have tn4 : tn 0 (pushCells (s3.heap.push { cls := .type "dict", data := .dict #[] }) scope.names) := T.keep _ _ _ st2 fun b _ o e => grow4 b o (grow b o e)
  have loop := loopH (iter := iter) (scope := scope) (pos := pos) (σ := σ) (vs := own.map (·.2)) (D := s2.heap.objs.size) (Y := blkH X s3 (upd H2 s2.heap.objs.size (.lst [])) scope cenv fp) T (hot_blk hc) rfl
    (fun {H'} nn {σ' s'} I' b hb => ⟨nn b hb, (I'.ok.exf b hb).1, I'.ok.exfs b hb, .inl hb, (I'.ok.exf b hb).2, fun p hp => (f3 b hb).1.2.2.2.2.2 p (List.mem_append_left _ (by simpa using hp))⟩) pg pt pe W (fun H' => Q (.ref s2.heap.objs.size) H') turn
    (R := compPost (model X.prog X.w) X.A X.xe none (fun v s' => ∃ x H', Inv X pins σ H' s' ∧ RelV x v ∧ Q x H') (.ref s2.heap.objs.size) s3.heap.objs.size) (fun s' H' I' qe => ?_) B1 tn4 none3 w0
  · refine codeAny_compStart_list loop (T.self X.A 0 _ _ _ tn4 loop)
  · -- behind the last turn
    have J' : Inv X pins σ H' s' := I3.call' (ch := fp) I'.os I'.base I'.hok I'.bare fun b hb => ⟨(f3 b hb).1.2.2.2.1, (f3 b hb).1.2.1, (f3 b hb).1.2.2.2.2.1, (f3 b hb).1.2.2.2.2.2⟩
    obtain ⟨m, hn, _⟩ := I'.loc
    have hn : s'.heap.Ns cenv.locals m := hn
    have hf : H' cenv.locals = none := I'.free
    rw [hl] at hn hf
    refine ⟨m, hn, fun h'' sb => ?_⟩
    obtain ⟨a0, a1, a2, a3, a4, a5⟩ := I3.fpOk (Nat.le_refl _) hf
    exact ⟨.ref s2.heap.objs.size, H', J'.turned (t' := s'.toks) (fun b o hb e => (sb.2 b hb).trans e) a0 a1 a3 a4 a5, rfl, qe⟩⟩
end
end HX
namespace HX
open PySem PySem.Spec PyProof.Rows HotX
section
variable {prog : Program} {w : World} {A : Around} {E : Value → Shared → Prop} {s : Shared} {x1 : Addr}
/-- a tuple is unpacked into as many names -/
theorem unpackH {t : Addr} {items : Array Value} {Q : List Value → Shared → Prop} (hot : HotAt A x1 s.heap) (ht : IsTup s.heap t items) (hQ : ∀ h', Keep [s.heap.objs.size] s.heap h' → Q items.toList { s with heap := h' }) :
    wpAny (model prog w) A (unpackItems (.ref t) items.size none) Q E s := by
  have old : ∀ {b : Addr} {o : Obj}, s.heap.get? b = some o → b ≠ s.heap.objs.size := fun e => Nat.ne_of_lt (Heap.lt_size e)
  have tne : t ≠ s.heap.objs.size := Nat.ne_of_lt ht.lt
  have xne : x1 ≠ s.heap.objs.size := let ⟨_, _, e, _⟩ := hot.2; old e
  unfold unpackItems notIterableAtAll
  refine wpAny_bind (wpAny_bind (wpAny_specialOf ht.typeIs slot_tuple_iter.lookup (wpAny_pure ?_)))
  rw [if_neg (by simp)]
  refine wpAny_bind (wpAny_holding (iter_tuple ht (wpAny_bind (wpAny_holding (draw_tuple tne items.size 0 _ _ ⟨_, Heap.get?_push_size _ rfl, rfl, rfl⟩ (ht.push _) (Nat.le_of_eq (Nat.zero_add _)) fun g it1 sb => ?_)))))
  have all : (items.toList.drop 0).take items.size = items.toList := (congrArg (List.take items.size) List.drop_zero).trans (List.take_of_length_le (Nat.le_of_eq (by simp)))
  rw [all, if_neg (by simp)]
  have up : ∀ b u, b ≠ s.heap.objs.size → s.heap.get? b = some u → g.get? b = some u := fun b u hb e => sb.extBut _ _ hb (Heap.get?_push_of_some _ e)
  have hot1 : HotAt A x1 g := stays hot rfl fun o e => up _ _ xne e
  have ht1 : IsTup g t items := (ht.push _).extBut sb.extBut tne
  obtain ⟨oi, p, pc, q⟩ := id it1
  obtain ⟨ot, r, _, n, d⟩ := id ht1
  refine wpAny_bind (wpAny_holding (next_gone (T := "tuple_iterator") ⟨oi, p, pc⟩ slot_tupleiter_next entry_tupleiter_next (args_tupleiter_next _) (rising_gone (T := "") (.inr rfl) (stays (A' := A.in1) hot1 rfl fun _ e => e) (.inr ⟨oi, p, q⟩) r d (by simp)) fun h2 k2 => ?_))
  rw [if_neg (by simp)]
  exact wpAny_pure (hQ h2 fun b u hb e => k2 b u hb (up b u (fun z => hb (by rw [z]; exact List.mem_cons_self)) e))
/-- a list is walked -/
theorem walk_list {I ax : Addr} (ne : ax ≠ I) (items : Array Value) : Walks prog w A I [I, ax, x1] [I] items.size (fun i v => items[i]? = some v) (fun i h => h.IsListIter I ax i ∧ h.IsList ax items ∧ HotAt A x1 h) where
  sub := fun b hb => List.mem_cons.mpr (.inl (List.mem_singleton.mp hb))
  frame := fun i h h' ⟨p, q, r⟩ k => ⟨p.at fun o e => k I (by simp) o e, q.at fun o e => k ax (by simp) o e, stays r rfl fun o e => k x1 (by simp) o e⟩
  item := fun i s Q E hi ⟨p, q, r⟩ hQ => by
    have n1 : x1 ≠ I := let ⟨_, a, _, b⟩ := id p; apart_small r a b (Nat.le_refl 2)
    exact wpAny_pyNext_list_item p q (x := items[i]) (by simp [hi]) fun h' p' sb => hQ _ h' s.toks (by simp [hi]) ⟨p', q.extBut sb.extBut ne, stays r rfl fun o e => sb.extBut _ _ n1 e⟩ fun b u hb e => sb.extBut b u (fun z => hb (by rw [z]; exact List.mem_cons_self)) e
  done := fun s Q E ⟨p, q, r⟩ hQ => list_gone r p q (by simp) fun h' k => hQ h' s.toks k
  self := fun i s Q E ⟨p, _, _⟩ h => wpAny_pyIter_listiter p h
end
end HX
namespace DL
open PySem PySem.Spec PyProof.Rows L2 L2H HotX HX
section
variable {X : Cx}
theorem old_outside {s : Shared} {ob : Obj} {h' : Heap} (k : ∀ b o, b ∉ [s.heap.objs.size] → (s.heap.push ob).get? b = some o → h'.get? b = some o) : ∀ b o, s.heap.get? b = some o → h'.get? b = some o := fun b o e =>
  k b o (fun z => absurd (Heap.lt_size e) (by rw [List.mem_singleton.mp z]; exact Nat.lt_irrefl _)) (Heap.get?_push_of_some _ e)
theorem cr_allH (hc : HotC X) : CallR X (.builtin "all") (rAll X.K) := fun pins s σ H vs us Q I r ⟨a, bs, ev, hs, q⟩ => by
  subst ev
  obtain ⟨its, rv, hl, _⟩ := I.list hs
  obtain ⟨x1, hot⟩ := hc.at I
  have eb := rv.bls
  have ne : a ≠ s.heap.objs.size := Nat.ne_of_lt hl.lt
  rw [Vals.ref1 r]
  refine call_all_walk (wpAny_pyIter_list hl.isList ⟨s.heap.objs.size, _, _, _, _, _, _, rfl, walk_list (x1 := x1) ne its.toArray, ⟨⟨_, Heap.get?_push_size _ rfl, rfl, rfl⟩, hl.isList.push _, stays (A' := X.A.in1) hot rfl fun o e => Heap.get?_push_of_some _ e⟩, truth_bools eb, fun h' tk k => ?_⟩)
  refine ⟨.bl _, H, I.kept (old_outside k), ?_, q⟩
  show Value.bool _ = Value.bool _
  rw [← L2.all_range, eb, List.size_toArray, List.length_map]
theorem cr_sumH (hc : HotC X) : CallR X (.builtin "sum") (rSum X.K) := fun pins s σ H vs us Q I r ⟨a, ns, ev, hs, q⟩ => by
  subst ev
  obtain ⟨its, rv, hl, _⟩ := I.list hs
  obtain ⟨x1, hot⟩ := hc.at I
  have ai := rv.ints
  obtain ⟨xs, ex⟩ := ai.allInts.items
  have en : numsOf (intItems xs).toList = ns := by rw [← ex]; exact ai.numsOf
  rw [nums_intItems] at en
  have hT : s.heap.IsList a (intItems xs) := by rw [← ex]; exact hl.isList
  have ne : a ≠ s.heap.objs.size := Nat.ne_of_lt hl.lt
  rw [Vals.ref1 r]
  obtain ⟨ox, vx, hx, _⟩ := id hot.2
  refine call_sum_walkG (wpAny_pyIter_list hT ⟨s.heap.objs.size, _, _, _, _, _, numAt xs, rfl, walk_list (x1 := x1) ne (intItems xs), ⟨⟨_, Heap.get?_push_size _ rfl, rfl, rfl⟩, hT.push _, stays (A' := X.A.in1) hot rfl fun o e => Heap.get?_push_of_some _ e⟩, fun b hb => ?_, fun _ _ => intItems_at, fun h' tk t' k => ?_⟩)
  · show b < (s.heap.push _).objs.size
    rw [Heap.size_push]
    simp only [List.mem_cons, List.not_mem_nil, or_false] at hb
    rcases hb with rfl | rfl | rfl
    · exact Nat.lt_succ_self _
    · exact Nat.lt_succ_of_lt hl.lt
    · exact Nat.lt_succ_of_lt (Heap.lt_size hx)
  · refine ⟨.int _, H, I.kept (t' := tk) (old_outside k), ⟨t', ?_⟩, q⟩
    have size : (intItems xs).size = xs.size := by simp [intItems]
    rw [← en, size, preSum_eq, List.take_of_length_le (by simp)]
theorem cd_allH (hc : HotC X) : CallD X (.builtin "all") true allD := by
  refine ⟨_, cr_allH hc, fun O H vs ds w Q od ha hw q => ?_⟩
  unfold allD at hw
  split at hw
  · rw [Option.map_eq_some_iff] at hw
    obtain ⟨bs, h1, rfl⟩ := hw
    obtain ⟨v, rfl, a⟩ := ha.one
    obtain ⟨p, ys, rfl, l, r⟩ := a.list_inv
    have := boolsD_at r h1
    subst this
    exact ⟨p, bs, rfl, l.1, q _ _ (.flat (.bl _) fun _ z => nomatch z)⟩
  · cases hw
end
section
variable {X : Cx} {z : Z} {tg iter elt e : Expr} {ifs es : List Expr}
theorem pg_tupH {k : Nat} {t : TGs} {n : Nat} {pos : Pos} (hc : HotC X) (h : PGs X es t) (hn : (assignEach es X.env).length = n := by rfl) (hst : (assignEach es X.env).findIdx? (·.1) = none := by rfl) : PG X (.Tuple es k pos) (gTup X.K n t) :=
  ⟨fun pins s σ H v u Q I r ⟨a, xs, ev, hq, hl, q⟩ => by
    subst ev
    obtain rfl : u = Value.ref a := r
    obtain ⟨its, rv, ht, _⟩ := I.tuple hq
    obtain ⟨x1, hot⟩ := hc.at I
    have sz : (assignEach es X.env).length = its.toArray.size := by rw [hn, ← hl, rv.length, List.size_toArray]
    rw [assign_Tuple]
    refine wpAny_bind (wpAny_standAt ?_)
    unfold unpack
    rw [sz, hst]
    refine wpAny_bind (wpAny_holding (unpackH hot ht fun h' k => ?_))
    have J : Inv X pins σ H { s with heap := h' } := I.kept (t' := s.toks) fun b o e => k b o (fun z => absurd (Heap.lt_size e) (by rw [List.mem_singleton.mp z]; exact Nat.lt_irrefl _)) e
    exact h.run pins _ σ H xs _ Q J (by simpa using rv) q⟩
theorem dg_tupH {k n : Nat} {ws : List Nat} {u : TFs} {pos : Pos} (hc : HotC X) (h : DGs z X es ws u) (hn : (assignEach es X.env).length = n := by rfl) (hst : (assignEach es X.env).findIdx? (·.1) = none := by rfl) : DG z X (.Tuple es k pos) ws (tTuple n u) :=
  pg_weak (pg_tupH hc h hn hst) fun v σ H Q ⟨B, env, d, env', I, a, ht, q⟩ => by
    cases a with
    | tup l r =>
      simp only [tTuple] at ht
      split at ht
      · rename_i hl
        exact ⟨_, _, rfl, l.1, by rw [r.length]; exact hl, B, env, _, env', I, r, ht, q⟩
      · cases ht
    | _ => cases ht
abbrev DIH (z : Z) (X : Cx) (tg iter : Expr) (f : En → R En (List D × En)) : Prop := PIH X tg iter (tI X.K z f)
theorem piH_weak {t t' : TI} (h : PIH X tg e t) (i : ∀ σ H R, t' σ H R → t σ H R) : PIH X tg e t' := ⟨fun pins s σ H R I q => h.run pins s σ H R I (i σ H R q)⟩
theorem diH_seq {fr : Bool} {f : EF} (h : DE z X fr e f) : DIH z X tg e (fItems f) := piH_weak (piH_seq h) fun σ H Rr ⟨B, env, I, hp⟩ =>
  ⟨B, env, I, (R.post_bind hp).imp (fun p hp v H1 I1 m1 a1 _ => by
    obtain ⟨ds, ed, hd⟩ := ofO_post (R.post_bind hp)
    obtain ⟨d, e'⟩ := p
    replace a1 : At X.K (B.O σ e') H1 v d := a1
    cases a1 with
    | lst l r => cases ed; exact .inl ⟨_, rfl, ⟨_, l.1⟩, hd _ H1 I1 m1 (itr_list l r)⟩
    | tup l r => cases ed; exact .inr ⟨_, rfl, ⟨_, l.1⟩, hd _ H1 I1 m1 (itr_tup l r)⟩
    | _ => cases ed) fun _ _ q => q⟩
theorem diH_range1 {a : Expr} {g : En → R En (List D × En)} {p pos : Pos} (hg : Gl X "range") (hm : X.mg "range" = none) (ha : DA z X [a] g) (hs : starEach [a] X.env = [(false, eval a X.env)] := by rfl) : DIH z X tg (.Call (.Name "range" p) [a] [] pos) (fWalk rangeD1 g) :=
  piH_weak (pi_range1H hg hm ha hs) fun σ H Rr ⟨B, env, I, hp⟩ => ⟨B, env, I, (R.post_bind hp).imp (fun p hp vs H1 I1 m1 a1 => by
    obtain ⟨ds, ed, hd⟩ := ofO_post (R.post_bind hp)
    obtain ⟨l, e'⟩ := p
    replace a1 : AtAll X.K (B.O σ e') H1 vs l := a1
    dsimp only at ed
    unfold rangeD1 at ed
    split at ed
    · split at ed
      · rename_i hc
        cases ed
        obtain ⟨v, rfl, a⟩ := a1.one
        cases a
        exact ⟨_, rfl, hc.1, hc.2, hd _ H1 I1 m1 (itr_range 0 _)⟩
      · cases ed
    · cases ed) fun _ _ q => q⟩
theorem diH_zip {a b : Expr} {g : En → R En (List D × En)} {p pos tpos : Pos} {elts : List Expr} {kk : Nat} (hg : Gl X "zip") (hm : X.mg "zip" = none) (ha : DA z X [a, b] g)
    (hs : starEach [a, b] X.env = (false, eval a X.env) :: starEach [b] X.env := by rfl) (hpl : (backTo pos (starEach [b] X.env)).any (·.1) = false := by rfl) :
    DIH z X (.Tuple elts kk tpos) (.Call (.Name "zip" p) [a, b] [] pos) (fWalk zipD g) :=
  piH_weak (piH_zip hg hm ha hs hpl) fun σ H Rr ⟨B, env, I, hp⟩ => ⟨B, env, I, (R.post_bind hp).imp (fun p hp vs H1 I1 m1 a1 => by
    obtain ⟨ds, ed, hd⟩ := ofO_post (R.post_bind hp)
    obtain ⟨l, e'⟩ := p
    replace a1 : AtAll X.K (B.O σ e') H1 vs l := a1
    dsimp only at ed
    unfold zipD at ed
    split at ed
    · cases ed
      obtain ⟨v, u, rfl, a, b⟩ := a1.two
      obtain ⟨p, ys, rfl, l, r⟩ := a.list_inv
      obtain ⟨p', ys', rfl, l', r'⟩ := b.list_inv
      exact ⟨p, p', ys, ys', rfl, l.1, l'.1, hd _ H1 I1 m1 (itr_zip l r l' r')⟩
    · cases ed) fun _ _ q => q⟩
theorem de_lcH {scope : Scope} {own : List (Str × Nat)} {pos : Pos} {gw : En → R En (List D × En)} {T : TF} {t : En → R En (Bool × En)} {f : EF} {ws : List Nat} {fr : Bool} (hc : HotC X) (hN : X.N.Nodup) (hi : DIH z X tg iter gw) (ok : BlkOk X.N X.env.scope scope own)
    (hg : ∀ (s : Shared) (H : Hp) (C : Addr) (cl : List (Str × Addr)) (fp : List Addr), PG (blkH X s H scope (compEnvC scope cl C X.env) fp) tg (tG X.K z.quiet ws T)) (ht : ∀ (s : Shared) (H : Hp) (C : Addr) (cl : List (Str × Addr)) (fp : List Addr), PTs (blkH X s H scope (compEnvC scope cl C X.env) fp) ifs (tT X.K z.quiet t))
    (he : ∀ (s : Shared) (H : Hp) (C : Addr) (cl : List (Str × Addr)) (fp : List Addr), PE (blkH X s H scope (compEnvC scope cl C X.env) fp) elt (tE X.K z.quiet fr f)) (hw : ∀ w ∈ ws, w ∈ own.map (·.2)) (hs : ∀ x, foldedSetIterable iter X.env x = pure x := by intro _; rfl) (hvn : npFree z.np (own.map (·.2)) = true := by rfl) :
    DE z X true (.ListComp elt [⟨tg, iter, ifs, 0⟩] scope pos) (fLc gw T t f (own.map (·.2))) := by
  refine de_imp (pe_lcH hc hN hi ok hg ht he hs) fun B env σ H Q I hp => ?_
  refine ⟨B, env, I, (R.post_bind hp).imp (fun p hp J H1 I1 m1 hJ D hD => ?_) fun _ _ q => q⟩
  split at hp
  · rename_i hv
    exact lc_core' I I1 m1 hJ hv (npFree_not hvn) hD hw (R.post_bind hp)
  · exact hp.elim
end
end DL
namespace HX
open PySem PySem.Spec PyProof.Rows HotX
section
variable {prog : Program} {w : World} {A : Around} {x1 : Addr}
theorem walk_tup {I ax : Addr} (ne : ax ≠ I) (items : Array Value) : Walks prog w A I [I, ax, x1] [I] items.size (fun i v => items[i]? = some v) (fun i h => h.IsTupleIter I ax i ∧ h.IsTuple ax items ∧ HotAt A x1 h) where
  sub := fun b hb => List.mem_cons.mpr (.inl (List.mem_singleton.mp hb))
  frame := fun i h h' ⟨p, ⟨oa, q1, q2⟩, r⟩ k => ⟨p.at fun o e => k I (by simp) o e, ⟨oa, k ax (by simp) _ q1, q2⟩, stays r rfl fun o e => k x1 (by simp) o e⟩
  item := fun i s Q E hi ⟨p, q, r⟩ hQ => by
    have n1 : x1 ≠ I := let ⟨_, a, _, b⟩ := id p; apart_small r a b (Nat.le_refl 2)
    obtain ⟨oa, q1, q2⟩ := id q
    exact wpAny_pyNext_tuple_item p q (x := items[i]) (by simp [hi]) fun h' p' sb => hQ _ h' s.toks (by simp [hi]) ⟨p', ⟨oa, (sb.2 _ ne).trans q1, q2⟩, stays r rfl fun o e => sb.extBut _ _ n1 e⟩ fun b u hb e => sb.extBut b u (fun z => hb (by rw [z]; exact List.mem_cons_self)) e
  done := fun s Q E ⟨p, q, r⟩ hQ => tuple_gone r p q (by simp) fun h' k => hQ h' s.toks k
  self := fun i s Q E ⟨p, _, _⟩ h => wpAny_pyIter_tupleiter p h
end
end HX
namespace DL
open PySem PySem.Spec PyProof.Rows L2 L2H HotX HX
section
variable {X : Cx}
theorem cr_sumTH (hc : HotC X) : CallR X (.builtin "sum") (fun vs H Q => ∃ (a : Addr) (ns : List Int), vs = [V.ref a] ∧ SqT X.K H a (ns.map V.int) ∧ Q (.int ns.sum) H) := fun pins s σ H vs us Q I r ⟨a, ns, ev, hs, q⟩ => by
  subst ev
  obtain ⟨its, rv, hl, _⟩ := I.tuple hs
  obtain ⟨x1, hot⟩ := hc.at I
  have ai := rv.ints
  obtain ⟨xs, ex⟩ := ai.allInts.items
  have en : numsOf (intItems xs).toList = ns := by rw [← ex]; exact ai.numsOf
  rw [nums_intItems] at en
  have hT : s.heap.IsTuple a (intItems xs) := by rw [← ex]; exact hl
  have la : a < s.heap.objs.size := hl.lt
  rw [Vals.ref1 r]
  obtain ⟨ox, vx, hx, _⟩ := id hot.2
  refine call_sum_walkG (wpAny_pyIter_tuple hT ⟨s.heap.objs.size, _, _, _, _, _, numAt xs, rfl, walk_tup (x1 := x1) (Nat.ne_of_lt la) (intItems xs), ⟨⟨_, Heap.get?_push_size _ rfl, rfl, rfl⟩, hT.push _, stays (A' := X.A.in1) hot rfl fun o e => Heap.get?_push_of_some _ e⟩, fun b hb => ?_, fun _ _ => intItems_at, fun h' tk t' k => ?_⟩)
  · show b < (s.heap.push _).objs.size
    rw [Heap.size_push]
    simp only [List.mem_cons, List.not_mem_nil, or_false] at hb
    rcases hb with rfl | rfl | rfl
    · exact Nat.lt_succ_self _
    · exact Nat.lt_succ_of_lt la
    · exact Nat.lt_succ_of_lt (Heap.lt_size hx)
  · refine ⟨.int _, H, I.kept (t' := tk) (old_outside k), ⟨t', ?_⟩, q⟩
    have size : (intItems xs).size = xs.size := by simp [intItems]
    rw [← en, size, preSum_eq, List.take_of_length_le (by simp)]
theorem cd_sumAH (hc : HotC X) : CallD X (.builtin "sum") true sumD := by
  refine ⟨_, (cr_sumH hc).or (cr_sumTH hc), fun O H vs ds w Q od ha hw q => ?_⟩
  obtain ⟨xs, ns, e, hn, rfl⟩ := sumD_inv hw
  have fin : Q (.int ns.sum) H := q _ _ (.flat (.int _) fun _ z => nomatch z)
  rcases e with rfl | rfl
  · obtain ⟨v, rfl, a⟩ := ha.one
    obtain ⟨p, ys, rfl, l, r⟩ := a.list_inv
    have := intsD_at r hn
    subst this
    exact .inl ⟨p, ns, rfl, l.1, fin⟩
  · obtain ⟨v, rfl, a⟩ := ha.one
    obtain ⟨p, ys, rfl, l, r⟩ := a.tuple_inv
    have := intsD_at r hn
    subst this
    exact .inr ⟨p, ns, rfl, l.1, fin⟩
end
section
variable {X : Cx} {z : Z} {fr : Bool} {tg iter : Expr} {body : List Stmt} {pos : Pos}
theorem ds_forH {gw : En → R En (List D × En)} {T : TF} {ws : List Nat} {g : SF} (hp : PassesOwn (model X.prog X.w) X.A X.env X.xe) (hc : HotC X) (hi : DIH z X tg iter gw) (hg : DG z X tg ws T) (hb : DSs z X fr body g)
    (hs : ∀ x, foldedSetIterable iter X.env x = pure x := by intro _; rfl) : DS z X fr (.For tg iter body [] pos) (sFor gw T g) := by
  refine ds_imp (ps_forH hp hc hi hg hb hs) fun B env σ H Dd I p => ⟨B, env, I, (R.post_bind p).imp (fun p hp J H1 I1 m1 hJ => ?_) fun _ _ q => q.xp⟩
  obtain ⟨ds, e1⟩ := p
  dsimp only at hp hJ I1 m1
  refine ⟨fun i m σ' Hh => ∃ ei, m = ds.length - i ∧ i ≤ ds.length ∧ SR X.K z.np B σ' Hh ei ∧ Mv (B.O σ e1) (B.O σ' ei) H1 Hh ∧ (forF T g (ds.drop i) ei).post (SOk X.K z fr B σ H env Dd) (XS X.K z B σ H env), ⟨ds.length, e1, by simp, Nat.zero_le _, I1, .refl, hp⟩, ?_⟩
  rintro i m σ' Hh ⟨ei, rfl, hi, J1, mm, hc⟩
  obtain ⟨g1, g2, g3⟩ := hJ _ Hh mm J1.od
  by_cases hlt : i < ds.length
  · refine .inr ⟨g1 i hlt, fun σ'' H' => ∃ ei, SR X.K z.np B σ'' H' ei ∧ Mv (B.O σ e1) (B.O σ'' ei) H1 H' ∧ (forF T g (ds.drop (i + 1)) ei).post (SOk X.K z fr B σ H env Dd) (XS X.K z B σ H env), fun σ'' H' ⟨ei, q⟩ => ⟨ds.length - (i + 1), by omega, ei, rfl, hlt, q⟩, fun x H' y => ?_⟩
    obtain ⟨ex, ax⟩ := g3 i x H' _ (List.getElem?_eq_getElem hlt) y
    rw [List.drop_eq_getElem_cons hlt] at hc
    unfold forF at hc
    obtain ⟨e2, hT, hc⟩ := ofO_post (R.post_bind hc)
    refine ⟨B, ei, ds[i], e2, J1.ex ex, ax, hT, fun σ2 J2 mt _ => ?_⟩
    have m2 : Mv (B.O σ e1) (B.O σ2 e2) H1 H' := (mm.trans (Mv.ex ex)).trans mt
    have m0 : Mv (B.O σ env) (B.O σ2 e2) H H' := m1.trans m2
    refine ⟨B, e2, J2, (R.post_bind hc).imp (fun o ho => ?_) fun x e q => q.step m0⟩
    cases o with
    | nx e => exact fun σ3 H3 I3 m3 => ⟨e, I3, m2.trans m3, ho⟩
    | ct e => exact fun σ3 H3 I3 m3 => ⟨e, I3, m2.trans m3, ho⟩
    | bk e => exact fun σ3 H3 I3 m3 => ho σ3 H3 I3 (m0.trans m3)
    | rt d e => exact fun v σ3 H3 I3 m3 => ho v σ3 H3 I3 (m0.trans m3)
  · have e : i = ds.length := by omega
    subst e
    rw [List.drop_length] at hc
    exact .inl ⟨g2, hc σ' Hh J1 (m1.trans mm)⟩
theorem pair_vals {v w : V} {us : List Value} (r : Vals [v, w] us) : ∃ a b, us = [a, b] ∧ RelV v a ∧ RelV w b := by
  cases r with
  | cons p q => cases q with
    | cons p' q' => cases q'; exact ⟨_, _, rfl, p, p'⟩
/-- a, b = x, y -/
theorem ps_parH {i j : Nat} {x y : Str} {a b : Expr} {ta : TA} {px py pt : Pos} {kt k2 pt2} (hc : HotC X) (hN : X.N.Nodup) (hi : X.N[i]? = some x) (hj : X.N[j]? = some y) (hij : i ≠ j) (hx : X.env.scope.names.lookup x = some .local) (hy : X.env.scope.names.lookup y = some .local) (ha : PA X [a, b] ta)
    (hw : swappedStores [.Tuple [.Name x px, .Name y py] kt pt] (.Tuple [a, b] k2 pt2) X.env = pure (some [x, y])) (hs : swapsWithSole [.Tuple [.Name x px, .Name y py] kt pt] (.Tuple [a, b] k2 pt2) pos.line X.env = pure false := by rfl) :
    PS X (.Assign [.Tuple [.Name x px, .Name y py] kt pt] (.Tuple [a, b] k2 pt2) pos) (tPar i j ta) := ⟨fun pins s σ H D I h => by
  rw [exec_Assign_arm]
  refine wpAny_bind (wpAny_standAt ?_)
  rw [hs]
  refine wpAny_bind (wpAny_pure ?_)
  rw [if_neg Bool.false_ne_true]
  refine wpAny_bind (Tuple_ (thn (ha.run _ pins s σ H _ I h) fun us s1 ⟨vs, H1, I1, r1, q1⟩ => wpAny_newObj_type ?_ ?_))
  · obtain ⟨v, w, e1, q1⟩ := q1
    subst e1
    obtain ⟨u1, u2, eu, rv, rw0⟩ := pair_vals r1
    subst eu
    rw [hw]
    refine wpAny_bind (wpAny_pure ?_)
    have J : Inv X pins σ H1 { s1 with heap := s1.heap.push { cls := .type "tuple", data := .seq [u1, u2].toArray } } := I1.kept (t' := s1.toks) fun b o e => Heap.get?_push_of_some _ e
    obtain ⟨x1, hot⟩ := hc.at J
    show wpAny (model X.prog X.w) X.A (do rule "assign.swapped-stores"; let items ← unpackItems (.ref s1.heap.objs.size) 2 none; assignInOrder [fun v => bindName X.env y v, fun v => bindName X.env x v] items.reverse; pure Flow.next) _ _ _
    refine wpAny_bind (wpAny_rule (wpAny_bind (unpackH (items := #[u1, u2]) hot (IsTup.new s1.heap _) fun h' k => ?_)))
    have J' := J.kept (h' := h') (t' := s1.toks) fun b o e => k b o (fun m => absurd (Heap.lt_size e) (by rw [List.mem_singleton.mp m]; exact Nat.lt_irrefl _)) e
    show wpAny _ _ (assignInOrder [fun v => bindName X.env y v, fun v => bindName X.env x v] [u2, u1] >>= fun _ => pure Flow.next) _ _ _
    refine wpAny_bind (assignInOrder_cons (wpAny_bindName (store_ok J' hN hj (.inl hy) rw0 (fun s2 K2 => assignInOrder_cons (wpAny_bindName (store_ok K2 hN hi (.inl hx) rv (fun s3 K3 => assignInOrder_nil (wpAny_pure ?_)) (.inr hx)))) (.inr hy))))
    rw [List.set_comm _ _ (Ne.symm hij)] at K3
    exact ⟨_, H1, K3, q1⟩
  · obtain ⟨v, w, e1, _⟩ := q1
    subst e1
    have l := r1.length
    show us.toArray.size ≤ sizeLine
    rw [List.size_toArray, ← l]
    show 2 ≤ sizeLine
    decide⟩
theorem ds_parH {i j : Nat} {x y : Str} {a b : Expr} {g : En → R En (List D × En)} {px py pt pos : Pos} {kt k2 pt2} (hc : HotC X) (hN : X.N.Nodup) (hi : X.N[i]? = some x) (hj : X.N[j]? = some y) (hij : i ≠ j)
    (hx : X.env.scope.names.lookup x = some .local) (hy : X.env.scope.names.lookup y = some .local) (ha : DA z X [a, b] g) (hin : i ∉ z.np) (hjn : j ∉ z.np)
    (hw : swappedStores [.Tuple [.Name x px, .Name y py] kt pt] (.Tuple [a, b] k2 pt2) X.env = pure (some [x, y]) := by rfl)
    (hs : swapsWithSole [.Tuple [.Name x px, .Name y py] kt pt] (.Tuple [a, b] k2 pt2) pos.line X.env = pure false := by rfl) :
    DS z X fr (.Assign [.Tuple [.Name x px, .Name y py] kt pt] (.Tuple [a, b] k2 pt2) pos) (sPar i j g) :=
  ds_imp (ps_parH hc hN hi hj hij hx hy ha hw hs) fun B env σ H Dd I p => sem_par hin hjn I p
theorem ds_raiseFH {x m : Str} {C : Addr} {j : Nat} {p p2 pos pos' : Pos} {fr : Bool} (hc : HotC X) (tk : L2.Takes X z.W) (F : ExF X.K X.mg x C) (hg : Gl X x) (hC : z.ca = caOf X.mg) (hdb : (x == ("__debug__" : Str)) = false := by decide) :
    DS z X fr (.Raise (some (.Call (.Name x p) [.Constant (.str m) j p2] [] pos)) none pos') (sRaise x) :=
  ds_imp (ps_raiseH hc tk (L2N.pmk_own PySem.F.excBase_ValueError F.x F.g F.k (raises_own F.b F.t) hg hdb)) fun B env σ H Dd I p => p (.ref C) none σ H I .refl ⟨by rw [hC]; rw [caOf_eq F.g], rfl⟩
theorem takes_noH : L2.Takes X (fun _ _ _ _ => False) := fun u s' ⟨_, _, _, _, _, _, _, _, _, _, _, _, _, _, _, _, w⟩ => w.elim
end
theorem unH {k : Nat} {A : Around} (r : RoomH k A) : A.units + 64 < cLine := by have := r.un; omega
theorem u65H {k : Nat} {A : Around} (r : RoomH k A) : A.units + 65 < cLine := by have := r.un; omega
/-- a def that keeps its promise there -/
def HasH (P : Program) (w : World) (K : PySem.W.Frag) (mg : Str → Option Value) (base : Heap) (ca : Str → Addr) (x : Str) (k : Nat) (ps : List Str) (np : List Nat) (fr : Bool) (F : FD) : Prop :=
  ∃ (f : Addr) (fd : FuncData), mg x = some (.ref f) ∧ PySem.W.keepIn K (.ref f) = true ∧ L2.Binds K fd ps [] ∧ FnH P w K mg base (L2.CX P w) k f fd ps (fun vs H Q E => vs.length = ps.length ∧ spD K ca np fr F vs H Q E)
theorem Stands.hasH {P : Program} {w : World} {K : PySem.W.Frag} {mg : Str → Option Value} {base : Heap} {ca : Str → Addr} {x : Str} {st : Stmt} {N ps : List Str} {k : Nat} {np : List Nat} {fr : Bool} {g : SF} {n : Nat} (S : Stands K mg x st ps) (sc : FnScope N ps (defScope st)) (hps : ps.length ≤ N.length) (hn : N.length = n)
    (hbody : ∀ (f : Addr) (cdv : Value) (A : Around) (outer : List Env) (s : Shared) (H : Hp) (E : XK) (p : Addr × Obj), Hot1 A p → RoomH k (A.deeper (envOfC x (defScope st) s.heap.objs.size f cdv)) →
      DSs ⟨ca, np, fun c d _ H => E c d H, fun _ _ _ _ _ => True⟩ (cxH (L2.CX P w) P w K mg base N x (defScope st) f cdv A outer s H E p) fr (defBody st) g) :
    HasH P w K mg base ca x (k + 1) ps np fr (runD n g) := by
  obtain ⟨f, fd, h1, h2, h3⟩ := S
  refine ⟨f, fd, h1, h2.kp, h3, ?_⟩
  obtain ⟨oc, od, kV, doc, pm, an, cdv, ct, osl, rfl, lk, hcd⟩ := h2.ex
  refine fn_ofH lk hcd sc (fun vs H Q E h => h.1) fun A outer s H vs Q E p hot hr h => ⟨_, hbody f cdv A outer s H E p hot hr, ?_⟩
  exact sem_def (T := fun _ _ _ _ _ => True) hn (by rw [h.1, ← hn]; exact hps) (fun _ _ => trivial) (spDT_of h.2)
section
variable {X : Cx} {z : Z} {k j n : Nat} {ps : List Str} {x : Str} {p pos : Pos} {e : Expr} {es : List Expr} {np' : List Nat} {fr : Bool} {F : FD} {g : En → R En (List PArg × En)}
theorem de_callHH (h : HasH X.prog X.w X.K X.mg X.base z.ca x j ps np' fr F) (hr : RoomH k X.A) (hj : j ≤ k) (hc : HotC X) (hg : Gl X x) (hn : ps.length = n)
    (tk : L2.Takes X z.W) (ha : DC z X (e :: es) g) (hdb : (x == ("__debug__" : Str)) = false := by decide) (he : starEach (e :: es) X.env = (false, eval e X.env) :: starEach es X.env := by rfl) (hpl : (backTo pos (starEach es X.env)).any (·.1) = false := by rfl) :
    DE z X fr (.Call (.Name x p) (e :: es) [] pos) (fCallF n np' F g) := by
  obtain ⟨f, fd, h1, h2, h3, h4⟩ := h
  subst hn
  refine de_imp (pe_callH h4 (hr.mono hj) hc hg h1 h2 h3 (fun σ => L2.passAt tk σ) ha hdb he hpl) fun B env σ H Q I hp => ?_
  refine ⟨B, env, I, (R.post_bind hp).imp (fun p hp vs H1 I1 m1 pa => ?_) fun _ _ q => q⟩
  obtain ⟨as, e1⟩ := p
  dsimp only at hp I1 m1 pa
  split at hp
  · rename_i es hres
    split at hp
    · rename_i hc
      obtain ⟨hlen, hnd, hnp⟩ := hc
      refine ⟨by rw [pa.length]; exact hlen, es, B.O σ e1, args_ok I1 hres hnd pa hnp, ?_⟩
      cases hF : F es with
      | stuck => rw [hF] at hp; exact hp
      | ok q =>
        obtain ⟨d, es'⟩ := q
        rw [hF] at hp
        intro v H' hcall
        obtain ⟨hk1, hk2, hk3⟩ := hcall
        obtain ⟨I2, m2, eO⟩ := I1.called hres hnd pa hk1
        refine hp v H' I2 (m1.trans m2) (At.mv (Mv.less fun a => (eO a).1) hk2) fun hf ds ed => ?_
        obtain ⟨a, xs, e2, na, nO, ha, hx, hh⟩ := hk3 hf ds ed
        obtain ⟨_, cl, _⟩ := called_slots I1 hres hnd pa (fun b w => w.elim .inl fun w => .inr (w ▸ na)) (fun b w => .inl w) hh
        have less : ∀ b, plus (B.O σ (back as es' e1)) a b → plus (B.O σ e1) a b := fun b w => w.elim (fun w => .inl ((eO b).1 w)) .inr
        refine ⟨a, xs, e2, m1.dom a na, fun w => nO ((eO a).1 w), ha, AtAll.mv (Mv.less less) hx, fun j t ht => ?_⟩
        obtain ⟨u, e3, q⟩ := cl j t ht
        exact ⟨u, e3, q.mv (Mv.less less) (fun b eb ho => .inl (.inr ⟨j, t, ht, ho, eb ▸ e3⟩)) fun _ _ _ _ z => z⟩
      | err x es' =>
        rw [hF] at hp
        intro cls dp H' hk1 hx
        obtain ⟨I2, m2, eO⟩ := I1.called hres hnd pa hk1
        exact hp cls dp H' I2 (m1.trans m2) (hx.mv fun a => (eO a).1)
    · exact hp.elim
  · exact hp.elim
end
end DL
namespace DL
open PySem PySem.Spec PyProof.Rows L2 L2H HotX HX
section
variable {X : Cx} {z : Z} {fr : Bool}
/-- the answer of the suite: f of two names and of the error's field -/
def barAns (i0 i1 : Nat) (F : FD) (x : Exn) (e : En) : Option D := match x.dat, e[i0]?, e[i1]? with
  | [(_, b)], some (some (.im r)), some (some (.im t)) => match F [.im r, .im t, .im b] with
    | .ok (.bool v, _) => some (.bool v)
    | _ => none
  | _, _, _ => none
def sTryBar (c f : Str) (i i0 i1 : Nat) (F : FD) (g : SF) : SF := fun env => match g env with
  | .err x e => if x.cls = c ∧ x.dat.map Prod.fst = [f] then match e[i]?, barAns i0 i1 F x e with
    | some none, some d => .ok (.rt d e)
    | _, _ => .stuck
    else .stuck
  | r => r
/-- what the suite asks: its two names, the error in a third, and that f keeps its promise of them -/
def tSuite (K : PySem.W.Frag) (ca : Str → Addr) (c f : Str) (i i0 i1 : Nat) (F : FD) (a : Addr) (cls : Value) (d : Option Addr) : TS := fun D σ H =>
  ∃ (dd : Addr) (fs : List (Str × V)) (vr vt vb : V), cls = .ref (caK K c) ∧ d = some dd ∧ H dd = some (.xd fs) ∧ fs.lookup f = some vb ∧ σ[i0]? = some (some vr) ∧ σ[i1]? = some (some vt) ∧ σ[i]? = some (some (.ref a)) ∧ spD K ca [] true F [vr, vt, vb] H D.rt fun _ _ _ => False
theorem xf_of {K : PySem.W.Frag} {C : Addr} (h : ExcC K C) : XfC K C := ⟨h.hg, h.hk, h.hs, h.hd⟩
theorem pss_suite {c f fn : Str} {i i0 i1 k j : Nat} {n0 n1 n2 : Str} {F : FD} {ca : Str → Addr} {ps : List Str} {a : Addr} {oe : Obj} {cls : Value} {d : Option Addr} {pn : List (Addr × Obj)} {p0 p1 p2 p3 pc pr pa : Pos} (A0 : ExA X.K X.mg) (hc : c ∈ exNames) (hf : f = "bar" ∨ f = "line")
    (zn : L2N.Zn cls d oe) (fld : ∃ vs, oe.data = .fields vs) (h : HasH X.prog X.w X.K X.mg X.base ca fn j ps [] true F) (hr : RoomH k X.A) (hj : j ≤ k) (hl : ps.length = 3) (hg : Gl X fn)
    (v0 : PE (X.suite a ((a, oe) :: pn)) (.Name n0 p0) (tVar i0)) (v1 : PE (X.suite a ((a, oe) :: pn)) (.Name n1 p1) (tVar i1)) (v2 : PE (X.suite a ((a, oe) :: pn)) (.Name n2 p2) (tVar i))
    (hdb : (fn == ("__debug__" : Str)) = false := by decide)
    (he : starEach [.Name n0 p0, .Name n1 p1, .Attribute (.Name n2 p2) f pa] X.env = (false, eval (.Name n0 p0) X.env) :: starEach [.Name n1 p1, .Attribute (.Name n2 p2) f pa] X.env := by rfl) (hpl : (backTo pc (starEach [.Name n1 p1, .Attribute (.Name n2 p2) f pa] X.env)).any (·.1) = false := by rfl)
    (s1 : starEach [.Name n1 p1, .Attribute (.Name n2 p2) f pa] X.env = (false, eval (.Name n1 p1) X.env) :: starEach [.Attribute (.Name n2 p2) f pa] X.env := by rfl) (s2 : starEach [.Attribute (.Name n2 p2) f pa] X.env = (false, eval (.Attribute (.Name n2 p2) f pa) X.env) :: starEach [] X.env := by rfl)
    (hb : attributeBase (.Name n2 p2) f X.env (eval (.Name n2 p2) X.env) = eval (.Name n2 p2) X.env := by rfl) :
    PSs (X.suite a ((a, oe) :: pn)) [.Return (some (.Call (.Name fn p3) [.Name n0 p0, .Name n1 p1, .Attribute (.Name n2 p2) f pa] [] pc)) pr] (tSuite X.K ca c f i i0 i1 F a cls d) := by
  obtain ⟨g, fd, h1, h2, h3, h4⟩ := h
  have hot : HotC (X.suite a ((a, oe) :: pn)) := by
    obtain ⟨vs, e⟩ := fld
    exact ⟨(a, oe), ⟨rfl, vs, e, zn.2.2 vs e⟩, List.mem_cons_self⟩
  have nof : PySem.W.findIn X.K (.ref (caK X.K c)) f = some none := by
    rcases hf with rfl | rfl
    · exact (A0.f c hc).1
    · exact (A0.f c hc).2
  have xa := pe_xf (pos := pa) (n := f) (xf_of (A0.i c hc).c) nof zn.zc fld v2 hb
  have call := pe_callH (X := X.suite a ((a, oe) :: pn)) (x := fn) (q := p3) (pos := pc) (E := fun _ _ _ _ => False) h4 (show RoomH j (X.A.mark (some (.ref a))) from ⟨(hr.mono hj).dp, (hr.mono hj).un⟩) hot hg h1 h2 h3 (fun σ => L2.passAt (W := fun _ _ _ _ => False) takes_noH σ) (pa_cons v0 (pa_cons v1 (pa_cons xa pa_nil s2) s1) he) hdb he hpl
  refine pss_weak (pss_one (ps_ret (pos := pr) call)) fun D σ H ⟨dd, fs, vr, vt, vb, e1, e2, e3, e4, e5, e6, e7, sp⟩ => ?_
  exact ⟨vr, e5, vt, e6, .ref a, e7, rfl, e1, dd, fs, vb, e2, e3, e4, hl.symm, sp⟩
theorem ims_own {r t b : D} {k : Nat} {s : Sl} (h : ([.im r, .im t, .im b] : List Sl)[k]? = some s) : ¬ s.own = true := by
  match k, h with
  | 0, h => cases h; exact Bool.false_ne_true
  | 1, h => cases h; exact Bool.false_ne_true
  | 2, h => cases h; exact Bool.false_ne_true
  | k + 3, h => cases h
/-- try: .., and where c is raised: f of two names and of the error's field -/
theorem ds_tryBar {c f n : Str} {i i0 i1 : Nat} {F : FD} {body : List Stmt} {b₀ : Stmt} {np pos pos' : Pos} {g : SF} (A0 : ExA X.K X.mg) (hc : c ∈ exNames) (hd : (c == ("__debug__" : Str)) = false) (hC : z.ca = caOf X.mg) (hs : X.stack = X.env :: X.outer) (hfr : X.env.frame = some X.env.locals) (tk : L2N.Takes X z.W) (hg : Gl X c)
    (hN : X.N.Nodup) (hi : X.N[i]? = some n) (hln : X.env.kindOf n = some .local)
    (hsu : ∀ (a : Addr) (oe : Obj) (cls : Value) (d : Option Addr) (pn : List (Addr × Obj)), L2N.Zn cls d oe → (∃ vs, oe.data = .fields vs) → PSs (X.suite a ((a, oe) :: pn)) [b₀] (tSuite X.K z.ca c f i i0 i1 F a cls d))
    (hb : ∀ (W : WX) (pn : List (Addr × Obj)) (xe : Value → Shared → Prop), L2N.Takes (X.tr pn xe) W → PassesOwn (model X.prog X.w) X.A X.env xe → DSs { z with W := W } (X.tr pn xe) fr body g) (hrt : RtAny z := by exact fun _ _ _ _ _ => trivial) (hne : i0 ≠ i ∧ i1 ≠ i := by decide) :
    DS z X fr (.Try body [.ExceptHandler (some (.Name c np)) (some n) [b₀] pos'] [] [] pos) (sTryBar c f i i0 i1 F g) := by
  have hn : Names X c (.ref (caK X.K c)) := ⟨hg, hd, .inl (A0.g _ hc)⟩
  refine ps_weak (L2N.ps_try_as (tb := fun W => tS X.K { z with W := W } fr g) (ts := tSuite X.K z.ca c f i i0 i1 F) (Wout := z.W) hs hfr hN hi hln hn tk hb hsu) fun Dd σ H ⟨B, env, I, p⟩ => ⟨B, env, I, ?_⟩
  unfold sTryBar at p
  revert p
  cases g env with
  | stuck => exact fun p => p
  | ok o =>
    intro p
    cases o with
    | nx e => exact p
    | rt d e => exact p
    | bk e => exact p
    | ct e => exact p
  | err x e =>
    intro p
    simp only at p
    by_cases hq : x.cls = c ∧ x.dat.map Prod.fst = [f]
    · rw [if_pos hq] at p
      obtain ⟨hq, hx⟩ := hq
      intro cls dp σ' H' I' m' ea
      obtain ⟨rfl, ea⟩ := ea
      have ec : ({ z with W := wAs X.K (.ref (caK X.K c)) i (tSuite X.K z.ca c f i i0 i1 F) z.W Dd } : Z).ca x.cls = caK X.K c := by
        show z.ca x.cls = _
        rw [hC, hq]
        exact caOf_eq (A0.g _ hc)
      rw [ec]
      refine ⟨true, A0.m _ hc, fun _ a na => ?_, fun q => nomatch q⟩
      cases hA : barAns i0 i1 F x e with
      | none =>
        rw [hA] at p
        split at p
        · rename_i h; cases h
        · exact p.elim
      | some ans =>
        rw [hA] at p
        split at p
        · rename_i ans' ei ea'
          cases ea'
          unfold barAns at hA
          split at hA
          · rename_i fn b r t edat e0 e1
            rw [edat] at ea hx
            obtain ⟨dd, vs, rfl, ⟨hdd, _⟩, ks, ats⟩ := ea
            have kf : fn = f := by simpa using hx
            subst kf
            obtain ⟨vb, rfl⟩ : ∃ vb, vs = [(fn, vb)] := by
              match vs, ks with
              | [(k, vb)], ks => exact ⟨vb, by simp at ks; rw [ks]⟩
            have ab : At X.K (B.O σ' e) H' vb b := by
              cases ats with
              | cons q _ => exact q
            obtain ⟨vr, er, ar⟩ := I'.im e0
            obtain ⟨vt, et, at_⟩ := I'.im e1
            have il : i < σ'.length := by
              have := (List.getElem?_eq_some_iff.mp ei).1
              rw [I'.len]
              exact this
            refine ⟨dd, [(fn, vb)], vr, vt, vb, rfl, rfl, hdd, by simp, (List.getElem?_set_ne (Ne.symm hne.1)).trans er, (List.getElem?_set_ne (Ne.symm hne.2)).trans et, List.getElem?_set_self il, [.im r, .im t, .im b], B.O σ' e, ?_, ?_⟩
            · refine ⟨rfl, I'.od, fun k s hk => ?_, fun k j a s t hk ho => ?_, fun k s hk ho => ?_⟩
              · match k, hk with
                | 0, hk => cases hk; exact ⟨vr, rfl, ar⟩
                | 1, hk => cases hk; exact ⟨vt, rfl, at_⟩
                | 2, hk => cases hk; exact ⟨vb, rfl, ab⟩
                | k + 3, hk => cases hk
              · exact absurd ho (ims_own hk)
              · exact absurd ho (ims_own hk)
            · revert hA
              cases hF : F [.im r, .im t, .im b] with
              | stuck => intro hA; cases hA
              | err _ _ => intro hA; cases hA
              | ok q =>
                obtain ⟨dv, es'⟩ := q
                intro hA
                cases dv with
                | bool v =>
                  cases hA
                  intro v' H'' hcall
                  obtain ⟨hk, ha, _⟩ := hcall
                  have kept : ∀ a o, H' a = some o → H'' a = some o := fun a o h => hk.keep a o h fun ⟨k, s, q1, q2, _⟩ => absurd q2 (ims_own q1)
                  refine p v' σ' H'' (I'.ex kept) (m'.trans (Mv.ex kept)) ⟨?_, fun _ ds e => nomatch e⟩ (hrt _ _ _ _ _)
                  cases ha
                  exact .bl _
                | _ => cases hA
          · cases hA
        · exact p.elim
    · rw [if_neg hq] at p
      exact p.elim
end
end DL
namespace DL
open PySem PySem.Spec PyProof.Rows L2
def g_is_whole : SF := sRet (fAndV (fIsi "int" (fVar 0)) (fUn notD (fIsi "bool" (fVar 0))))
def F_is_whole : FD := runD 1 g_is_whole
def g_is_from : SF := sRet (fAndV (fCallF 1 [] F_is_whole (cIm (fVar 0) (cNil))) (fOp geD (fVar 0) (fVar 1)))
def F_is_from : FD := runD 2 g_is_from
def g_is_within : SF := sRet (fAndV (fCallF 1 [] F_is_whole (cIm (fVar 0) (cNil))) (fChain leD leD (fVar 1) (fVar 0) (fVar 2)))
def F_is_within : FD := runD 3 g_is_within
def g_is_term : SF := sSeq (sIf (fOrT (fNotT (fBool (fIsi "tuple" (fVar 1)))) (fBool (fOp neD (fCall lenD (fCons (fVar 1) ((fun env => .ok ([], env))))) (fC (.int 4))))) (sRet (fC (.bool false))) (sNil)) (sSeq (sAsg (fVar 1) (tTuple 4 (tsCons (tN 2) (tsCons (tN 3) (tsCons (tN 4) (tsCons (tN 5) (tsNil))))))) (sSeq (sIf (fOrT (fNotT (fBool (fCallF 3 [] F_is_within (cIm (fVar 2) (cIm (fC (.int 0)) (cIm (fOp subD (fVar 0) (fC (.int 1))) (cNil))))))) (fNotT (fBool (fCallF 3 [] F_is_within (cIm (fVar 3) (cIm (fC (.int 1)) (cIm (fVar 0) (cNil)))))))) (sRet (fC (.bool false))) (sNil)) (sRet (fAndV (fCallF 2 [] F_is_from (cIm (fVar 4) (cIm (fC (.int 0)) (cNil)))) (fOrV (fOp isD (fVar 5) (fC .none)) (fCallF 2 [] F_is_from (cIm (fVar 5) (cIm (fC (.int 0)) (cNil)))))))))
def F_is_term : FD := runD 6 g_is_term
def g_is_right_ring : SF := sSeq (sIf (fOrT (fNotT (fBool (fIsi "tuple" (fVar 0)))) (fOrT (fBool (fOp neD (fCall lenD (fCons (fVar 0) ((fun env => .ok ([], env))))) (fC (.int 2)))) (fNotT (fBool (fCallF 3 [] F_is_within (cIm (fOp ixD (fVar 0) (fC (.int 0))) (cIm (fC (.int 1)) (cIm (fC (.int 40)) (cNil))))))))) (sRet (fC (.bool false))) (sNil)) (sRet (fAndV (fIsi "tuple" (fOp ixD (fVar 0) (fC (.int 1)))) (fCall allD (fCons (fLc (fItems (fOp ixD (fVar 0) (fC (.int 1)))) (tN 1) ((fun env => .ok (true, env))) (fCallF 2 [] F_is_term (cIm (fOp ixD (fVar 0) (fC (.int 0))) (cIm (fVar 1) (cNil)))) [1]) ((fun env => .ok ([], env)))))))
def F_is_right_ring : FD := runD 2 g_is_right_ring
def g_is_right_laying : SF := sRet (fAndV (fIsi "tuple" (fVar 1)) (fAndV (fOp eqD (fCall lenD (fCons (fVar 1) ((fun env => .ok ([], env))))) (fOp ixD (fVar 0) (fC (.int 0)))) (fCall allD (fCons (fLc (fItems (fVar 1)) (tN 2) ((fun env => .ok (true, env))) (fCallF 2 [] F_is_from (cIm (fVar 2) (cIm (fC (.int 0)) (cNil)))) [2]) ((fun env => .ok ([], env)))))))
def F_is_right_laying : FD := runD 3 g_is_right_laying
def g_look_at_ring : SF := sIf (fNotT (fBool (fCallF 1 [] F_is_right_ring (cIm (fVar 0) (cNil))))) (sRaise "NoRing") (sNil)
def F_look_at_ring : FD := runD 1 g_look_at_ring
def g_look_at_laying : SF := sIf (fNotT (fBool (fCallF 2 [] F_is_right_laying (cIm (fVar 0) (cIm (fVar 1) (cNil)))))) (sRaise "NoLaying") (sNil)
def F_look_at_laying : FD := runD 2 g_look_at_laying
def g_look_at_total : SF := sIf (fNotT (fBool (fCallF 2 [] F_is_from (cIm (fVar 0) (cIm (fC (.int 0)) (cNil)))))) (sRaise "NoTotal") (sNil)
def F_look_at_total : FD := runD 1 g_look_at_total
def g_look_at_stretch : SF := sIf (fOrT (fNotT (fBool (fCallF 3 [] F_is_within (cIm (fVar 1) (cIm (fC (.int 0)) (cIm (fOp subD (fOp ixD (fVar 0) (fC (.int 0))) (fC (.int 1))) (cNil))))))) (fNotT (fBool (fCallF 3 [] F_is_within (cIm (fVar 2) (cIm (fC (.int 1)) (cIm (fOp ixD (fVar 0) (fC (.int 0))) (cNil)))))))) (sRaise "NoStretch") (sNil)
def F_look_at_stretch : FD := runD 3 g_look_at_stretch
def g_is_ring : SF := sRet (fCallF 1 [] F_is_right_ring (cIm (fVar 0) (cNil)))
def F_is_ring : FD := runD 1 g_is_ring
def g_is_laying : SF := sSeq (sExpr (fCallF 1 [] F_look_at_ring (cIm (fVar 0) (cNil)))) (sRet (fCallF 2 [] F_is_right_laying (cIm (fVar 0) (cIm (fVar 1) (cNil)))))
def F_is_laying : FD := runD 2 g_is_laying
def g_places_of : SF := sRet (fLc (fWalk rangeD1 (fCons (fVar 2) ((fun env => .ok ([], env))))) (tN 3) ((fun env => .ok (true, env))) (fOp modD (fOp addD (fVar 1) (fVar 3)) (fVar 0)) [3])
def F_places_of : FD := runD 4 g_places_of
def g_stretch : SF := sSeq (sExpr (fCallF 1 [] F_look_at_ring (cIm (fVar 0) (cNil)))) (sSeq (sExpr (fCallF 3 [] F_look_at_stretch (cIm (fVar 0) (cIm (fVar 1) (cIm (fVar 2) (cNil)))))) (sRet (fCallF 3 [] F_places_of (cIm (fOp ixD (fVar 0) (fC (.int 0))) (cIm (fVar 1) (cIm (fVar 2) (cNil)))))))
def F_stretch : FD := runD 3 g_stretch
def g_stones_in : SF := sRet (fCall sumD (fCons (fLc (fItems (fCallF 3 [] F_places_of (cIm (fCall lenD (fCons (fVar 0) ((fun env => .ok ([], env))))) (cIm (fVar 1) (cIm (fVar 2) (cNil)))))) (tN 3) ((fun env => .ok (true, env))) (fOp ixD (fVar 0) (fVar 3)) [3]) ((fun env => .ok ([], env)))))
def F_stones_in : FD := runD 4 g_stones_in
def g_broken_by : SF := sSeq (sSetO 2 (fLst ((fun env => .ok ([], env))))) (sSeq (sFor (fWalk enumD (fCons (fOp ixD (fVar 0) (fC (.int 1))) ((fun env => .ok ([], env))))) (tTuple 2 (tsCons (tN 3) (tsCons (tTuple 4 (tsCons (tN 4) (tsCons (tN 5) (tsCons (tN 6) (tsCons (tN 7) (tsNil)))))) (tsNil)))) (sSeq (sSet 8 (fCallF 3 [] F_stones_in (cIm (fVar 1) (cIm (fVar 4) (cIm (fVar 5) (cNil)))))) (sIf (fOrT (fBool (fOp ltD (fVar 8) (fVar 6))) (fAndT (fBool (fOp isntD (fVar 7) (fC .none))) (fBool (fOp gtD (fVar 8) (fVar 7))))) (sApp 2 (fTup (fCons (fVar 3) (fCons (fVar 8) ((fun env => .ok ([], env))))))) (sNil)))) (sRetO 2))
def F_broken_by : FD := runD 9 g_broken_by
def g_broken : SF := sSeq (sExpr (fCallF 1 [] F_look_at_ring (cIm (fVar 0) (cNil)))) (sSeq (sExpr (fCallF 2 [] F_look_at_laying (cIm (fVar 0) (cIm (fVar 1) (cNil))))) (sRet (fCallF 2 [] F_broken_by (cIm (fVar 0) (cIm (fVar 1) (cNil))))))
def F_broken : FD := runD 2 g_broken
def g_demands : SF := sSeq (sSet 2 (fOp ixD (fVar 0) (fC (.int 0)))) (sSeq (sSetO 3 (fLc (fWalk rangeD1 (fCons (fVar 2) ((fun env => .ok ([], env))))) (tN 11) ((fun env => .ok (true, env))) (fTup (fCons (fVar 11) (fCons (fOp modD (fOp addD (fVar 11) (fC (.int 1))) (fVar 2)) (fCons (fC (.int 0)) (fCons (fC .none) (fCons (fC (.int 1)) (fCons (fOp fdivD (fOp addD (fVar 11) (fC (.int 1))) (fVar 2)) ((fun env => .ok ([], env)))))))))) [11])) (sSeq (sFor (fWalk enumD (fCons (fOp ixD (fVar 0) (fC (.int 1))) ((fun env => .ok ([], env))))) (tTuple 2 (tsCons (tN 4) (tsCons (tTuple 4 (tsCons (tN 5) (tsCons (tN 6) (tsCons (tN 7) (tsCons (tN 8) (tsNil)))))) (tsNil)))) (sSeq (sPar 9 10 (fCons (fOp modD (fOp addD (fVar 5) (fVar 6)) (fVar 2)) (fCons (fOp fdivD (fOp addD (fVar 5) (fVar 6)) (fVar 2)) ((fun env => .ok ([], env)))))) (sSeq (sApp 3 (fTup (fCons (fVar 5) (fCons (fVar 9) (fCons (fVar 7) (fCons (fVar 4) (fCons (fC (.int 1)) (fCons (fVar 10) ((fun env => .ok ([], env))))))))))) (sIf (fBool (fOp isntD (fVar 8) (fC .none))) (sApp 3 (fTup (fCons (fVar 9) (fCons (fVar 5) (fCons (fUn negD (fVar 8)) (fCons (fVar 4) (fCons (fUn negD (fC (.int 1))) (fCons (fVar 10) ((fun env => .ok ([], env))))))))))) (sNil))))) (sFrz 3 (sRet (fLc (fItems (fVar 3)) (tTuple 6 (tsCons (tN 12) (tsCons (tN 13) (tsCons (tN 14) (tsCons (tN 15) (tsCons (tN 16) (tsCons (tN 10) (tsNil)))))))) ((fun env => .ok (true, env))) (fTup (fCons (fVar 12) (fCons (fVar 13) (fCons (fOp subD (fVar 14) (fOp mulD (fOp mulD (fVar 16) (fVar 10)) (fVar 1))) (fCons (fVar 15) (fCons (fVar 16) (fCons (fVar 10) ((fun env => .ok ([], env)))))))))) [12, 13, 14, 15, 16, 10])))))
def F_demands : FD := runD 17 g_demands
def n_contradiction_0 : En → Nat := fun _ => 1000000000000
def g_contradiction : SF := sSeq (sSetO 2 (fOp repD (fLst (fCons (fC (.int 0)) ((fun env => .ok ([], env))))) (fVar 0))) (sSeq (sSetO 3 (fOp repD (fLst (fCons (fC .none) ((fun env => .ok ([], env))))) (fVar 0))) (sSeq (sSet 4 (fC .none)) (sSeq (sFor (fWalk rangeD1 (fCons (fOp addD (fVar 0) (fC (.int 1))) ((fun env => .ok ([], env))))) (tN 5) (sSeq (sSet 4 (fC .none)) (sFor (fItems (fVar 1)) (tN 6) (sIf (fBool (fOp gtD (fOp addD (fIxO 2 (fOp ixD (fVar 6) (fC (.int 0)))) (fOp ixD (fVar 6) (fC (.int 2)))) (fIxO 2 (fOp ixD (fVar 6) (fC (.int 1)))))) (sSeq (sSto 2 (fOp ixD (fVar 6) (fC (.int 1))) (fOp addD (fIxO 2 (fOp ixD (fVar 6) (fC (.int 0)))) (fOp ixD (fVar 6) (fC (.int 2))))) (sSeq (sSto 3 (fOp ixD (fVar 6) (fC (.int 1))) (fVar 6)) (sSet 4 (fOp ixD (fVar 6) (fC (.int 1)))))) (sNil))))) (sSeq (sIf (fBool (fOp isD (fVar 4) (fC .none))) (sRet (fC .none)) (sNil)) (sSeq (sFor (fWalk rangeD1 (fCons (fVar 0) ((fun env => .ok ([], env))))) (tN 5) (sSet 4 (fOp ixD (fIxO 3 (fVar 4)) (fC (.int 0))))) (sSeq (sSetO 7 (fLst (fCons (fIxO 3 (fVar 4)) ((fun env => .ok ([], env)))))) (sSeq (sWhile n_contradiction_0 (fBool (fOp neD (fOp ixD (fIxO 7 (fUn negD (fC (.int 1)))) (fC (.int 0))) (fVar 4))) (sApp 7 (fIxO 3 (fOp ixD (fIxO 7 (fUn negD (fC (.int 1)))) (fC (.int 0)))))) (sRetO 7))))))))
def F_contradiction : FD := runD 8 g_contradiction
def g_found_bar : SF := sSeq (sSet 2 (fCallF 2 [] F_contradiction (cIm (fOp ixD (fVar 0) (fC (.int 0))) (cIm (fCallF 2 [] F_demands (cIm (fVar 0) (cIm (fVar 1) (cNil)))) (cNil))))) (sSeq (sIf (fBool (fOp isD (fVar 2) (fC .none))) (sRet (fC .none)) (sNil)) (sSeq (sSet 3 (fCall sortedD (fCons (fLc (fItems (fVar 2)) (tN 5) (fAndT (fBool (fOp isntD (fOp ixD (fVar 5) (fC (.int 3))) (fC .none))) (fBool (fOp eqD (fOp ixD (fVar 5) (fC (.int 4))) (fC (.int 1))))) (fOp ixD (fVar 5) (fC (.int 3))) [5]) ((fun env => .ok ([], env)))))) (sSeq (sSet 4 (fCall sortedD (fCons (fLc (fItems (fVar 2)) (tN 5) (fBool (fOp eqD (fOp ixD (fVar 5) (fC (.int 4))) (fUn negD (fC (.int 1))))) (fOp ixD (fVar 5) (fC (.int 3))) [5]) ((fun env => .ok ([], env)))))) (sRet (fTup (fCons (fVar 3) (fCons (fVar 4) (fCons (fCall sumD (fCons (fLc (fItems (fVar 2)) (tN 5) ((fun env => .ok (true, env))) (fOp mulD (fOp ixD (fVar 5) (fC (.int 4))) (fOp ixD (fVar 5) (fC (.int 5)))) [5]) ((fun env => .ok ([], env))))) ((fun env => .ok ([], env)))))))))))
def F_found_bar : FD := runD 6 g_found_bar
def g_heights_from : SF := sSeq (sSetDk 3 2 (.int 0)) (sSeq (sFor (fWalk rangeD1 (fCons (fVar 0) ((fun env => .ok ([], env))))) (tN 4) (sFor (fItems (fVar 1)) (tN 5) (sIf (fBool (fDIn 3 (fOp ixD (fVar 5) (fC (.int 0))))) (sSeq (sSet 6 (fOp addD (fDIx 3 (fOp ixD (fVar 5) (fC (.int 0)))) (fOp ixD (fVar 5) (fC (.int 2))))) (sDSto 3 (fOp ixD (fVar 5) (fC (.int 1))) (fCall maxD (fCons (fDGet2 3 (fOp ixD (fVar 5) (fC (.int 1))) (fVar 6)) (fCons (fVar 6) ((fun env => .ok ([], env)))))))) (sNil)))) (sRet (fLc (fWalk rangeD1 (fCons (fVar 0) ((fun env => .ok ([], env))))) (tN 6) ((fun env => .ok (true, env))) (fDIx 3 (fVar 6)) [6])))
def F_heights_from : FD := runD 7 g_heights_from
def g_turned : SF := sRet (fLc (fItems (fVar 0)) (tTuple 6 (tsCons (tN 1) (tsCons (tN 2) (tsCons (tN 3) (tsCons (tN 4) (tsCons (tN 5) (tsCons (tN 6) (tsNil)))))))) ((fun env => .ok (true, env))) (fTup (fCons (fVar 2) (fCons (fVar 1) (fCons (fVar 3) (fCons (fVar 4) (fCons (fVar 5) (fCons (fVar 6) ((fun env => .ok ([], env)))))))))) [1, 2, 3, 4, 5, 6])
def F_turned : FD := runD 7 g_turned
def g_laid : SF := sRet (fCall tupleD (fCons (fLc (fWalk zipD (fCons (fVar 0) (fCons (fLst (fStar (fSl slD (fVar 0) (fPart (fC (.int 1))) ((fun env => .ok (none, env)))) (fCons (fVar 1) ((fun env => .ok ([], env)))))) ((fun env => .ok ([], env)))))) (tTuple 2 (tsCons (tN 2) (tsCons (tN 3) (tsNil)))) ((fun env => .ok (true, env))) (fOp subD (fVar 3) (fVar 2)) [2, 3]) ((fun env => .ok ([], env)))))
def F_laid : FD := runD 4 g_laid
def g_found_lay : SF := sSeq (sSet 2 (fCallF 2 [] F_found_bar (cIm (fVar 0) (cIm (fVar 1) (cNil))))) (sSeq (sIf (fBool (fOp isntD (fVar 2) (fC .none))) (sRet (fTup (fCons (fC (.str "barred")) (fCons (fVar 2) ((fun env => .ok ([], env))))))) (sNil)) (sSeq (sSet 3 (fCallF 2 [] F_demands (cIm (fVar 0) (cIm (fVar 1) (cNil))))) (sSeq (sSet 4 (fCallF 2 [] F_laid (cIm (fCallF 3 [] F_heights_from (cIm (fOp ixD (fVar 0) (fC (.int 0))) (cIm (fVar 3) (cIm (fC (.int 0)) (cNil))))) (cIm (fVar 1) (cNil))))) (sSeq (sSet 5 (fCallF 2 [] F_laid (cIm (fLc (fItems (fCallF 3 [] F_heights_from (cIm (fOp ixD (fVar 0) (fC (.int 0))) (cIm (fCallF 1 [] F_turned (cIm (fVar 3) (cNil))) (cIm (fC (.int 0)) (cNil)))))) (tN 6) ((fun env => .ok (true, env))) (fUn negD (fVar 6)) [6]) (cIm (fVar 1) (cNil))))) (sRet (fTup (fCons (fC (.str "laying")) (fCons (fVar 4) (fCons (fVar 5) ((fun env => .ok ([], env))))))))))))
def F_found_lay : FD := runD 7 g_found_lay
def g_lay : SF := sSeq (sExpr (fCallF 1 [] F_look_at_ring (cIm (fVar 0) (cNil)))) (sSeq (sExpr (fCallF 1 [] F_look_at_total (cIm (fVar 1) (cNil)))) (sRet (fCallF 2 [] F_found_lay (cIm (fVar 0) (cIm (fVar 1) (cNil))))))
def F_lay : FD := runD 2 g_lay
def g_is_numbers : SF := sSeq (sIf (fOrT (fNotT (fBool (fIsi "list" (fVar 1)))) (fNotT (fBool (fCall allD (fCons (fLc (fItems (fVar 1)) (tN 2) ((fun env => .ok (true, env))) (fAndV (fCallF 1 [] F_is_whole (cIm (fVar 2) (cNil))) (fChain leD ltD (fC (.int 0)) (fVar 2) (fCall lenD (fCons (fOp ixD (fVar 0) (fC (.int 1))) ((fun env => .ok ([], env))))))) [2]) ((fun env => .ok ([], env)))))))) (sRet (fC (.bool false))) (sNil)) (sRet (fCall allD (fCons (fLc (fWalk zipD (fCons (fVar 1) (fCons (fSl slD (fVar 1) (fPart (fC (.int 1))) ((fun env => .ok (none, env)))) ((fun env => .ok ([], env)))))) (tTuple 2 (tsCons (tN 3) (tsCons (tN 4) (tsNil)))) ((fun env => .ok (true, env))) (fOp leD (fVar 3) (fVar 4)) [3, 4]) ((fun env => .ok ([], env))))))
def F_is_numbers : FD := runD 5 g_is_numbers
def g_counted : SF := sSeq (sSetO 2 (fOp repD (fLst (fCons (fC (.int 0)) ((fun env => .ok ([], env))))) (fOp ixD (fVar 0) (fC (.int 0))))) (sSeq (sFor (fItems (fVar 1)) (tN 3) (sFor (fItems (fCallF 3 [] F_places_of (cIm (fOp ixD (fVar 0) (fC (.int 0))) (cIm (fOp ixD (fOp ixD (fOp ixD (fVar 0) (fC (.int 1))) (fVar 3)) (fC (.int 0))) (cIm (fOp ixD (fOp ixD (fOp ixD (fVar 0) (fC (.int 1))) (fVar 3)) (fC (.int 1))) (cNil)))))) (tN 4) (sAugS 2 (fun i j => i + j) (fVar 4) (fC (.int 1))))) (sRetO 2))
def F_counted : FD := runD 5 g_counted
def g_is_bar : SF := sSeq (sExpr (fCallF 1 [] F_look_at_ring (cIm (fVar 0) (cNil)))) (sSeq (sExpr (fCallF 1 [] F_look_at_total (cIm (fVar 1) (cNil)))) (sSeq (sIf (fOrT (fNotT (fBool (fIsi "tuple" (fVar 2)))) (fOrT (fBool (fOp neD (fCall lenD (fCons (fVar 2) ((fun env => .ok ([], env))))) (fC (.int 3)))) (fNotT (fBool (fCallF 1 [] F_is_whole (cIm (fOp ixD (fVar 2) (fC (.int 2))) (cNil))))))) (sRet (fC (.bool false))) (sNil)) (sSeq (sIf (fOrT (fNotT (fBool (fCallF 2 [] F_is_numbers (cIm (fVar 0) (cIm (fOp ixD (fVar 2) (fC (.int 0))) (cNil)))))) (fNotT (fBool (fCallF 2 [] F_is_numbers (cIm (fVar 0) (cIm (fOp ixD (fVar 2) (fC (.int 1))) (cNil))))))) (sRet (fC (.bool false))) (sNil)) (sSeq (sIf (fBool (fOp inD (fC .none) (fLc (fItems (fOp ixD (fVar 2) (fC (.int 1)))) (tN 5) ((fun env => .ok (true, env))) (fOp ixD (fOp ixD (fOp ixD (fVar 0) (fC (.int 1))) (fVar 5)) (fC (.int 3))) [5]))) (sRet (fC (.bool false))) (sNil)) (sSeq (sIf (fNotT (fBool (fCall allD (fCons (fLc (fWalk zipD (fCons (fCallF 2 [] F_counted (cIm (fVar 0) (cIm (fOp ixD (fVar 2) (fC (.int 0))) (cNil)))) (fCons (fCallF 2 [] F_counted (cIm (fVar 0) (cIm (fOp ixD (fVar 2) (fC (.int 1))) (cNil)))) ((fun env => .ok ([], env)))))) (tTuple 2 (tsCons (tN 6) (tsCons (tN 7) (tsNil)))) ((fun env => .ok (true, env))) (fOp leD (fOp subD (fVar 6) (fVar 7)) (fOp ixD (fVar 2) (fC (.int 2)))) [6, 7]) ((fun env => .ok ([], env))))))) (sRet (fC (.bool false))) (sNil)) (sSeq (sPar 3 4 (fCons (fLc (fItems (fOp ixD (fVar 2) (fC (.int 0)))) (tN 5) ((fun env => .ok (true, env))) (fOp ixD (fOp ixD (fOp ixD (fVar 0) (fC (.int 1))) (fVar 5)) (fC (.int 2))) [5]) (fCons (fLc (fItems (fOp ixD (fVar 2) (fC (.int 1)))) (tN 5) ((fun env => .ok (true, env))) (fOp ixD (fOp ixD (fOp ixD (fVar 0) (fC (.int 1))) (fVar 5)) (fC (.int 3))) [5]) ((fun env => .ok ([], env)))))) (sRet (fOp gtD (fOp subD (fCall sumD (fCons (fVar 3) ((fun env => .ok ([], env))))) (fCall sumD (fCons (fVar 4) ((fun env => .ok ([], env)))))) (fOp mulD (fOp ixD (fVar 2) (fC (.int 2))) (fVar 1))))))))))
def F_is_bar : FD := runD 8 g_is_bar
def g_is_capped : SF := sSeq (sSet 1 (fLc (fWalk enumD (fCons (fOp ixD (fVar 0) (fC (.int 1))) ((fun env => .ok ([], env))))) (tTuple 2 (tsCons (tN 2) (tsCons (tN 3) (tsNil)))) (fBool (fOp isntD (fOp ixD (fVar 3) (fC (.int 3))) (fC .none))) (fVar 2) [2, 3])) (sRet (fCall allD (fCons (fLc (fItems (fCallF 2 [] F_counted (cIm (fVar 0) (cIm (fVar 1) (cNil))))) (tN 4) ((fun env => .ok (true, env))) (fOp gtD (fVar 4) (fC (.int 0))) [4]) ((fun env => .ok ([], env))))))
def F_is_capped : FD := runD 5 g_is_capped
def n_some_total_0 : En → Nat := fun _ => 1000000000000
def g_some_total : SF := sSeq (sSet 2 (fC (.int 0))) (sSeq (sSetDb 3) (sSeq (sWhile n_some_total_0 (fBool (fOp leD (fVar 2) (fVar 1))) (sSeq (sSet 4 (fOp fdivD (fOp addD (fVar 2) (fVar 1)) (fC (.int 2)))) (sSeq (sSet 5 (fCallF 2 [] F_found_bar (cIm (fVar 0) (cIm (fVar 4) (cNil))))) (sSeq (sIf (fBool (fOp isD (fVar 5) (fC .none))) (sRet (fTup (fCons (fVar 4) (fCons (fLst ((fun env => .ok ([], env)))) ((fun env => .ok ([], env))))))) (sNil)) (sSeq (sIf (fBool (fOp eqD (fOp ixD (fVar 5) (fC (.int 2))) (fC (.int 0)))) (sRet (fTup (fCons (fC .none) (fCons (fLst (fCons (fVar 5) ((fun env => .ok ([], env))))) ((fun env => .ok ([], env))))))) (sNil)) (sSeq (sDbSto 3 (fOp gtD (fOp ixD (fVar 5) (fC (.int 2))) (fC (.int 0))) (fVar 5)) (sAsg (fIf (fBool (fOp gtD (fOp ixD (fVar 5) (fC (.int 2))) (fC (.int 0)))) (fTup (fCons (fOp addD (fVar 4) (fC (.int 1))) (fCons (fVar 1) ((fun env => .ok ([], env)))))) (fTup (fCons (fVar 2) (fCons (fOp subD (fVar 4) (fC (.int 1))) ((fun env => .ok ([], env))))))) (tTuple 2 (tsCons (tN 2) (tsCons (tN 1) (tsNil))))))))))) (sRet (fTup (fCons (fC .none) (fCons (fDbVals 3) ((fun env => .ok ([], env)))))))))
def F_some_total : FD := runD 7 g_some_total
def n_end_total_0 : En → Nat := fun _ => 1000000000000
def g_end_total : SF := sSeq (sWhile n_end_total_0 (fBool (fOp gtD (fCall absD (fCons (fOp subD (fVar 1) (fVar 2)) ((fun env => .ok ([], env))))) (fC (.int 1)))) (sSeq (sSet 3 (fOp fdivD (fOp addD (fVar 1) (fVar 2)) (fC (.int 2)))) (sIf (fBool (fOp isD (fCallF 2 [] F_found_bar (cIm (fVar 0) (cIm (fVar 3) (cNil)))) (fC .none))) (sSet 1 (fVar 3)) (sSet 2 (fVar 3))))) (sRet (fVar 1))
def F_end_total : FD := runD 4 g_end_total
def g_totals : SF := sSeq (sExpr (fCallF 1 [] F_look_at_ring (cIm (fVar 0) (cNil)))) (sSeq (sSet 1 (fOp addD (fOp addD (fCall sumD (fCons (fLc (fItems (fOp ixD (fVar 0) (fC (.int 1)))) (tN 8) ((fun env => .ok (true, env))) (fOp ixD (fVar 8) (fC (.int 2))) [8]) ((fun env => .ok ([], env))))) (fCall sumD (fCons (fLc (fItems (fOp ixD (fVar 0) (fC (.int 1)))) (tN 8) (fBool (fOp isntD (fOp ixD (fVar 8) (fC (.int 3))) (fC .none))) (fOp ixD (fVar 8) (fC (.int 3))) [8]) ((fun env => .ok ([], env)))))) (fC (.int 1)))) (sSeq (sAsg (fCallF 2 [] F_some_total (cIm (fVar 0) (cIm (fVar 1) (cNil)))) (tTuple 2 (tsCons (tN 2) (tsCons (tN 3) (tsNil))))) (sSeq (sIf (fBool (fOp isD (fVar 2) (fC .none))) (sRet (fTup (fCons (fC (.str "barred")) (fCons (fVar 3) ((fun env => .ok ([], env))))))) (sNil)) (sSeq (sSet 4 (fCallF 3 [] F_end_total (cIm (fVar 0) (cIm (fVar 2) (cIm (fUn negD (fC (.int 1))) (cNil)))))) (sSeq (sSet 5 (fIf (fBool (fCallF 1 [] F_is_capped (cIm (fVar 0) (cNil)))) (fCallF 3 [] F_end_total (cIm (fVar 0) (cIm (fVar 2) (cIm (fOp addD (fVar 1) (fC (.int 1))) (cNil))))) (fC .none))) (sSeq (sSet 6 (fIf (fBool (fOp gtD (fVar 4) (fC (.int 0)))) (fCallF 2 [] F_found_bar (cIm (fVar 0) (cIm (fOp subD (fVar 4) (fC (.int 1))) (cNil)))) (fC .none))) (sSeq (sSet 7 (fIf (fBool (fOp isntD (fVar 5) (fC .none))) (fCallF 2 [] F_found_bar (cIm (fVar 0) (cIm (fOp addD (fVar 5) (fC (.int 1))) (cNil)))) (fC .none))) (sRet (fTup (fCons (fC (.str "totals")) (fCons (fVar 4) (fCons (fVar 5) (fCons (fVar 6) (fCons (fVar 7) ((fun env => .ok ([], env)))))))))))))))))
def F_totals : FD := runD 9 g_totals
def g_found_span : SF := sSeq (sSet 4 (fOp ixD (fVar 0) (fC (.int 0)))) (sSeq (sPar 5 6 (fCons (fOp modD (fOp addD (fVar 2) (fVar 3)) (fVar 4)) (fCons (fOp fdivD (fOp addD (fVar 2) (fVar 3)) (fVar 4)) ((fun env => .ok ([], env)))))) (sSeq (sSet 7 (fCallF 2 [] F_demands (cIm (fVar 0) (cIm (fVar 1) (cNil))))) (sSeq (sSet 8 (fOp addD (fOp ixD (fCallF 3 [] F_heights_from (cIm (fVar 4) (cIm (fVar 7) (cIm (fVar 2) (cNil))))) (fVar 5)) (fOp mulD (fVar 6) (fVar 1)))) (sRet (fTup (fCons (fVar 8) (fCons (fOp subD (fOp mulD (fVar 6) (fVar 1)) (fOp ixD (fCallF 3 [] F_heights_from (cIm (fVar 4) (cIm (fVar 7) (cIm (fVar 5) (cNil))))) (fVar 2))) ((fun env => .ok ([], env))))))))))
def F_found_span : FD := runD 9 g_found_span
def g_span : SF := sSeq (sExpr (fCallF 1 [] F_look_at_ring (cIm (fVar 0) (cNil)))) (sSeq (sExpr (fCallF 1 [] F_look_at_total (cIm (fVar 1) (cNil)))) (sSeq (sExpr (fCallF 3 [] F_look_at_stretch (cIm (fVar 0) (cIm (fVar 2) (cIm (fVar 3) (cNil)))))) (sSeq (sSet 4 (fCallF 2 [] F_found_bar (cIm (fVar 0) (cIm (fVar 1) (cNil))))) (sSeq (sIf (fBool (fOp isntD (fVar 4) (fC .none))) (sRaiseP "Barred" "bar" (fVar 4)) (sNil)) (sRet (fCallF 4 [] F_found_span (cIm (fVar 0) (cIm (fVar 1) (cIm (fVar 2) (cIm (fVar 3) (cNil)))))))))))
def F_span : FD := runD 5 g_span
def g_is_needless : SF := sSeq (sSet 4 (fTup (fCons (fVar 0) (fCons (fCall tupleD (fCons (fVar 2) ((fun env => .ok ([], env))))) ((fun env => .ok ([], env))))))) (sSeq (sIf (fBool (fOp isntD (fCallF 2 [] F_found_bar (cIm (fVar 4) (cIm (fVar 1) (cNil)))) (fC .none))) (sRet (fC (.bool true))) (sNil)) (sSeq (sAsg (fCallF 4 [] F_found_span (cIm (fVar 4) (cIm (fVar 1) (cIm (fOp ixD (fVar 3) (fC (.int 0))) (cIm (fOp ixD (fVar 3) (fC (.int 1))) (cNil)))))) (tTuple 2 (tsCons (tN 5) (tsCons (tN 6) (tsNil))))) (sRet (fAndV (fOp leD (fOp ixD (fVar 3) (fC (.int 2))) (fVar 5)) (fOrV (fOp isD (fOp ixD (fVar 3) (fC (.int 3))) (fC .none)) (fOp leD (fVar 6) (fOp ixD (fVar 3) (fC (.int 3)))))))))
def F_is_needless : FD := runD 7 g_is_needless
def g_needless : SF := sSeq (sExpr (fCallF 1 [] F_look_at_ring (cIm (fVar 0) (cNil)))) (sSeq (sExpr (fCallF 1 [] F_look_at_total (cIm (fVar 1) (cNil)))) (sSeq (sSetO 2 (fLst ((fun env => .ok ([], env))))) (sSeq (sFor (fWalk enumD (fCons (fOp ixD (fVar 0) (fC (.int 1))) ((fun env => .ok ([], env))))) (tTuple 2 (tsCons (tN 3) (tsCons (tN 4) (tsNil)))) (sIf (fBool (fCallF 4 [] F_is_needless (cIm (fOp ixD (fVar 0) (fC (.int 0))) (cIm (fVar 1) (cIm (fOp addD (fSl slD (fOp ixD (fVar 0) (fC (.int 1))) ((fun env => .ok (none, env))) (fPart (fVar 3))) (fSl slD (fOp ixD (fVar 0) (fC (.int 1))) (fPart (fOp addD (fVar 3) (fC (.int 1)))) ((fun env => .ok (none, env))))) (cIm (fVar 4) (cNil))))))) (sApp 2 (fVar 3)) (sNil))) (sRetO 2))))
def F_needless : FD := runD 5 g_needless
def g_core : SF := sSeq (sExpr (fCallF 1 [] F_look_at_ring (cIm (fVar 0) (cNil)))) (sSeq (sExpr (fCallF 1 [] F_look_at_total (cIm (fVar 1) (cNil)))) (sSeq (sSetO 2 (fListRg (fCall lenD (fCons (fOp ixD (fVar 0) (fC (.int 1))) ((fun env => .ok ([], env))))))) (sSeq (sFor (fWalk rangeD1 (fCons (fCall lenD (fCons (fOp ixD (fVar 0) (fC (.int 1))) ((fun env => .ok ([], env))))) ((fun env => .ok ([], env))))) (tN 3) (sSeq (sSetO 4 (fLendL (fLc (fItems (fVar 2)) (tN 5) (fBool (fOp neD (fVar 5) (fVar 3))) (fVar 5) [5]))) (sIf (tLend (fBool (fCallF 4 [] F_is_needless (cIm (fOp ixD (fVar 0) (fC (.int 0))) (cIm (fVar 1) (cIm (fLc (fItems (fVar 4)) (tN 5) ((fun env => .ok (true, env))) (fOp ixD (fOp ixD (fVar 0) (fC (.int 1))) (fVar 5)) [5]) (cIm (fOp ixD (fOp ixD (fVar 0) (fC (.int 1))) (fVar 3)) (cNil)))))))) (sMove 2 4) (sDrop 4 (sNil))))) (sRetO 2))))
def F_core : FD := runD 6 g_core
def g_eased : SF := sSeq (sSetO 2 (fLst ((fun env => .ok ([], env))))) (sSeq (sFor (fItems (fOp ixD (fVar 0) (fC (.int 1)))) (tTuple 4 (tsCons (tN 3) (tsCons (tN 4) (tsCons (tN 5) (tsCons (tN 6) (tsNil)))))) (sApp 2 (fTup (fCons (fVar 3) (fCons (fVar 4) (fCons (fCall maxD (fCons (fC (.int 0)) (fCons (fOp subD (fVar 5) (fVar 1)) ((fun env => .ok ([], env)))))) (fCons (fIf (fBool (fOp isD (fVar 6) (fC .none))) (fVar 6) (fOp addD (fVar 6) (fVar 1))) ((fun env => .ok ([], env)))))))))) (sFrz 2 (sRet (fTup (fCons (fOp ixD (fVar 0) (fC (.int 0))) (fCons (fCall tupleD (fCons (fVar 2) ((fun env => .ok ([], env))))) ((fun env => .ok ([], env)))))))))
def F_eased : FD := runD 7 g_eased
def n_ease_0 : En → Nat := fun _ => 1000000000000
def g_ease : SF := sSeq (sExpr (fCallF 1 [] F_look_at_ring (cIm (fVar 0) (cNil)))) (sSeq (sExpr (fCallF 1 [] F_look_at_total (cIm (fVar 1) (cNil)))) (sSeq (sPar 2 3 (fCons (fUn negD (fC (.int 1))) (fCons (fCall maxD (fCons (fOp addD (fLst (fCons (fVar 1) ((fun env => .ok ([], env))))) (fLc (fItems (fOp ixD (fVar 0) (fC (.int 1)))) (tN 5) ((fun env => .ok (true, env))) (fOp ixD (fVar 5) (fC (.int 2))) [5])) ((fun env => .ok ([], env))))) ((fun env => .ok ([], env)))))) (sSeq (sWhile n_ease_0 (fBool (fOp gtD (fOp subD (fVar 3) (fVar 2)) (fC (.int 1)))) (sSeq (sSet 4 (fOp fdivD (fOp addD (fVar 2) (fVar 3)) (fC (.int 2)))) (sIf (fBool (fOp isD (fCallF 2 [] F_found_bar (cIm (fCallF 2 [] F_eased (cIm (fVar 0) (cIm (fVar 4) (cNil)))) (cIm (fVar 1) (cNil)))) (fC .none))) (sSet 3 (fVar 4)) (sSet 2 (fVar 4))))) (sRet (fTup (fCons (fVar 3) (fCons (fIf (fBool (fOp gtD (fVar 3) (fC (.int 0)))) (fCallF 2 [] F_found_bar (cIm (fCallF 2 [] F_eased (cIm (fVar 0) (cIm (fOp subD (fVar 3) (fC (.int 1))) (cNil)))) (cIm (fVar 1) (cNil)))) (fC .none)) ((fun env => .ok ([], env))))))))))
def F_ease : FD := runD 6 g_ease
def g_law_mixed : SF := sSeq (sSet 2 (fOp modD (fCall intD (fCons (fOp addD (fOp addD (fOp mulD (fOp modD (fCall intD (fCons (fVar 0) ((fun env => .ok ([], env))))) (fC (.int 2147483647))) (fC (.int 48271))) (fOp mulD (fVar 1) (fC (.int 69621)))) (fC (.int 1048583))) ((fun env => .ok ([], env))))) (fC (.int 2147483629)))) (sSeq (sSet 2 (fOp modD (fCall intD (fCons (fOp mulD (fVar 2) (fVar 2)) ((fun env => .ok ([], env))))) (fC (.int 2147483587)))) (sRet (fOp modD (fCall intD (fCons (fOp mulD (fVar 2) (fOp addD (fVar 2) (fC (.int 2)))) ((fun env => .ok ([], env))))) (fC (.int 2147483579)))))
def F_law_mixed : FD := runD 3 g_law_mixed
def g_law_pile : SF := sSeq (sSet 2 (fC (.int 0))) (sSeq (sIf (fBool (fOp ltD (fVar 1) (fCall lenD (fCons (fVar 0) ((fun env => .ok ([], env))))))) (sSet 2 (fOp ixD (fVar 0) (fVar 1))) (sNil)) (sSeq (sIf (fBool (fOp geD (fVar 2) (fOp powD (fC (.int 10)) (fC (.int 18))))) (sRet (fLst (fCons (fOp modD (fCall intD (fCons (fOp subD (fVar 2) (fOp powD (fC (.int 10)) (fC (.int 18)))) ((fun env => .ok ([], env))))) (fOp mulD (fOp mulD (fOp mulD (fOp powD (fC (.int 10)) (fC (.int 60))) (fOp powD (fC (.int 10)) (fC (.int 60)))) (fOp powD (fC (.int 10)) (fC (.int 60)))) (fOp powD (fC (.int 10)) (fC (.int 60))))) ((fun env => .ok ([], env)))))) (sNil)) (sSeq (sSet 3 (fC (.int 0))) (sSeq (sFor (fWalk rangeD1 (fCons (fC (.int 24)) ((fun env => .ok ([], env))))) (tN 4) (sSet 3 (fOp addD (fOp mulD (fVar 3) (fC (.int 2147483579))) (fCallF 2 [] F_law_mixed (cIm (fVar 2) (cIm (fOp addD (fOp addD (fOp mulD (fC (.int 7)) (fVar 1)) (fOp mulD (fC (.int 100)) (fVar 4))) (fOp mulD (fVar 4) (fVar 4))) (cNil))))))) (sRet (fLst (fCons (fVar 3) ((fun env => .ok ([], env))))))))))
def F_law_pile : FD := runD 5 g_law_pile
def g_law_take : SF := sSeq (sSet 2 (fOp modD (fCall intD (fCons (fIxO 0 (fC (.int 0))) ((fun env => .ok ([], env))))) (fVar 1))) (sSeq (sSto 0 (fC (.int 0)) (fOp fdivD (fIxO 0 (fC (.int 0))) (fVar 1))) (sRet (fVar 2)))
def F_law_take : FD := runD 3 g_law_take
def g_law_places : SF := sRet (fLc (fWalk rangeD1 (fCons (fVar 2) ((fun env => .ok ([], env))))) (tN 3) ((fun env => .ok (true, env))) (fOp modD (fCall intD (fCons (fOp addD (fVar 1) (fVar 3)) ((fun env => .ok ([], env))))) (fVar 0)) [3])
def F_law_places : FD := runD 4 g_law_places
def g_law_stones : SF := sSeq (sSet 3 (fC (.int 0))) (sSeq (sFor (fItems (fCallF 3 [] F_law_places (cIm (fCall lenD (fCons (fVar 0) ((fun env => .ok ([], env))))) (cIm (fVar 1) (cIm (fVar 2) (cNil)))))) (tN 4) (sSet 3 (fOp addD (fVar 3) (fOp ixD (fVar 0) (fVar 4))))) (sRet (fVar 3)))
def F_law_stones : FD := runD 5 g_law_stones
def g_law_drawn : SF := sSeq (sSetO 3 (fOp repD (fLst (fCons (fC (.int 0)) ((fun env => .ok ([], env))))) (fVar 1))) (sSeq (sFor (fWalk rangeD1 (fCons (fVar 2) ((fun env => .ok ([], env))))) (tN 4) (sAugS 3 (fun i j => i + j) (fCallF 2 [0] F_law_take (cSl 0 (cIm (fVar 1) (cNil)))) (fC (.int 1)))) (sFrz 3 (sRet (fCall tupleD (fCons (fVar 3) ((fun env => .ok ([], env))))))))
def F_law_drawn : FD := runD 5 g_law_drawn
def g_law_ring : SF := sSeq (sSet 4 (fOp addD (fC (.int 1)) (fCallF 2 [0] F_law_take (cSl 0 (cIm (fVar 1) (cNil)))))) (sSeq (sSet 5 (fCallF 2 [0] F_law_take (cSl 0 (cIm (fC (.int 4)) (cNil))))) (sSeq (sSet 6 (fCallF 3 [0] F_law_drawn (cSl 0 (cIm (fVar 4) (cIm (fCallF 2 [0] F_law_take (cSl 0 (cIm (fOp addD (fVar 3) (fC (.int 1))) (cNil)))) (cNil)))))) (sSeq (sSetO 7 (fLst ((fun env => .ok ([], env))))) (sSeq (sFor (fWalk rangeD1 (fCons (fCallF 2 [0] F_law_take (cSl 0 (cIm (fOp addD (fVar 2) (fC (.int 1))) (cNil)))) ((fun env => .ok ([], env))))) (tN 8) (sSeq (sPar 9 10 (fCons (fCallF 2 [0] F_law_take (cSl 0 (cIm (fVar 4) (cNil)))) (fCons (fOp addD (fC (.int 1)) (fCallF 2 [0] F_law_take (cSl 0 (cIm (fVar 4) (cNil))))) ((fun env => .ok ([], env)))))) (sSeq (sSet 11 (fCallF 3 [] F_law_stones (cIm (fVar 6) (cIm (fVar 9) (cIm (fVar 10) (cNil)))))) (sSeq (sPar 12 13 (fCons (fOp subD (fVar 11) (fCallF 2 [0] F_law_take (cSl 0 (cIm (fC (.int 3)) (cNil))))) (fCons (fOp addD (fVar 11) (fCallF 2 [0] F_law_take (cSl 0 (cIm (fC (.int 3)) (cNil))))) ((fun env => .ok ([], env)))))) (sSeq (sIf (fBool (fOp eqD (fVar 5) (fC (.int 0)))) (sPar 12 13 (fCons (fCallF 2 [0] F_law_take (cSl 0 (cIm (fVar 3) (cNil)))) (fCons (fCallF 2 [0] F_law_take (cSl 0 (cIm (fOp addD (fVar 3) (fC (.int 2))) (cNil)))) ((fun env => .ok ([], env)))))) (sNil)) (sSeq (sIf (fAndT (fBool (fOp eqD (fVar 5) (fC (.int 1)))) (fBool (fOp eqD (fCallF 2 [0] F_law_take (cSl 0 (cIm (fC (.int 4)) (cNil)))) (fC (.int 0))))) (sSet 12 (fOp addD (fVar 11) (fC (.int 1)))) (sNil)) (sSeq (sIf (fBool (fOp eqD (fCallF 2 [0] F_law_take (cSl 0 (cIm (fC (.int 3)) (cNil)))) (fC (.int 0)))) (sSet 13 (fC .none)) (sNil)) (sSeq (sIf (fBool (fOp eqD (fCallF 2 [0] F_law_take (cSl 0 (cIm (fC (.int 4)) (cNil)))) (fC (.int 0)))) (sSet 12 (fC (.int 0))) (sNil)) (sApp 7 (fTup (fCons (fVar 9) (fCons (fVar 10) (fCons (fOp ixD (fLst (fCons (fC (.int 0)) (fCons (fVar 12) ((fun env => .ok ([], env)))))) (fCall intD (fCons (fOp gtD (fVar 12) (fC (.int 0))) ((fun env => .ok ([], env)))))) (fCons (fVar 13) ((fun env => .ok ([], env))))))))))))))))) (sFrz 7 (sRet (fTup (fCons (fVar 4) (fCons (fCall tupleD (fCons (fLc (fItems (fVar 7)) (tN 14) (fOrT (fBool (fOp isD (fOp ixD (fVar 14) (fC (.int 3))) (fC .none))) (fBool (fOp geD (fOp ixD (fVar 14) (fC (.int 3))) (fC (.int 0))))) (fVar 14) [14]) ((fun env => .ok ([], env))))) ((fun env => .ok ([], env))))))))))))
def F_law_ring : FD := runD 15 g_law_ring
def g_law_rings_good : SF := sSeq (sIf (fOrT (fBool (fOp isntD (fCallKw [0] F_is_ring (fCons (fVar 0) ((fun env => .ok ([], env))))) (fC (.bool true)))) (fBool (fOp isntD (fCallKw [1, 0] F_is_laying (fCons (fVar 3) (fCons (fVar 0) ((fun env => .ok ([], env)))))) (fC (.bool true))))) (sRet (fC (.bool false))) (sNil)) (sSeq (sIf (fBool (fOp neD (fCallKw [2, 1, 0] F_stretch (fCons (fVar 2) (fCons (fVar 1) (fCons (fVar 0) ((fun env => .ok ([], env))))))) (fCallF 3 [] F_stretch (cIm (fVar 0) (cIm (fVar 1) (cIm (fVar 2) (cNil))))))) (sRet (fC (.bool false))) (sNil)) (sRet (fOp eqD (fCallKw [1, 0] F_broken (fCons (fVar 3) (fCons (fVar 0) ((fun env => .ok ([], env)))))) (fCallF 2 [] F_broken (cIm (fVar 0) (cIm (fVar 3) (cNil)))))))
def F_law_rings_good : FD := runD 4 g_law_rings_good
def g_law_laying_good : SF := sSeq (sSet 2 (fCallKw [1, 0] F_lay (fCons (fVar 1) (fCons (fVar 0) ((fun env => .ok ([], env))))))) (sSeq (sIf (fOrT (fBool (fOp neD (fVar 2) (fCallF 2 [] F_lay (cIm (fVar 0) (cIm (fVar 1) (cNil)))))) (fBool (fOp neD (fCallKw [0] F_totals (fCons (fVar 0) ((fun env => .ok ([], env))))) (fCallF 1 [] F_totals (cIm (fVar 0) (cNil)))))) (sRet (fC (.bool false))) (sNil)) (sRet (fOp eqD (fCallKw [2, 1, 0] F_is_bar (fCons (fOp ixD (fVar 2) (fC (.int 1))) (fCons (fVar 1) (fCons (fVar 0) ((fun env => .ok ([], env))))))) (fCallF 3 [] F_is_bar (cIm (fVar 0) (cIm (fVar 1) (cIm (fOp ixD (fVar 2) (fC (.int 1))) (cNil))))))))
def F_law_laying_good : FD := runD 3 g_law_laying_good
def g_law_spans_good : SF := sSeq (sIf (fBool (fOp neD (fCallKw [1, 0] F_needless (fCons (fVar 1) (fCons (fVar 0) ((fun env => .ok ([], env)))))) (fCallF 2 [] F_needless (cIm (fVar 0) (cIm (fVar 1) (cNil)))))) (sRet (fC (.bool false))) (sNil)) (sSeq (sIf (fBool (fOp neD (fCallKw [1, 0] F_core (fCons (fVar 1) (fCons (fVar 0) ((fun env => .ok ([], env)))))) (fCallF 2 [] F_core (cIm (fVar 0) (cIm (fVar 1) (cNil)))))) (sRet (fC (.bool false))) (sNil)) (sSeq (sIf (fBool (fOp neD (fCallKw [1, 0] F_ease (fCons (fVar 1) (fCons (fVar 0) ((fun env => .ok ([], env)))))) (fCallF 2 [] F_ease (cIm (fVar 0) (cIm (fVar 1) (cNil)))))) (sRet (fC (.bool false))) (sNil)) (sTryBar "Barred" "bar" 4 0 1 F_is_bar (sRet (fOp eqD (fCallKw [3, 2, 1, 0] F_span (fCons (fVar 3) (fCons (fVar 2) (fCons (fVar 1) (fCons (fVar 0) ((fun env => .ok ([], env)))))))) (fCallF 4 [] F_span (cIm (fVar 0) (cIm (fVar 1) (cIm (fVar 2) (cIm (fVar 3) (cNil)))))))))))
def F_law_spans_good : FD := runD 5 g_law_spans_good
def g_law : SF := sSeq (sFor (fWalk rangeD1 (fCons (fCall maxD (fCons (fC (.int 2)) (fCons (fCall minD (fCons (fCall lenD (fCons (fVar 0) ((fun env => .ok ([], env))))) (fCons (fC (.int 6)) ((fun env => .ok ([], env)))))) ((fun env => .ok ([], env)))))) ((fun env => .ok ([], env))))) (tN 1) (sSeq (sSetO 2 (fCallF 2 [] F_law_pile (cIm (fVar 0) (cIm (fVar 1) (cNil))))) (sSeq (sSet 3 (fCallF 4 [0] F_law_ring (cSl 2 (cIm (fC (.int 6)) (cIm (fC (.int 5)) (cIm (fC (.int 8)) (cNil))))))) (sSeq (sSet 4 (fCallF 2 [0] F_law_take (cSl 2 (cIm (fC (.int 10)) (cNil))))) (sSeq (sPar 5 6 (fCons (fCallF 2 [0] F_law_take (cSl 2 (cIm (fOp ixD (fVar 3) (fC (.int 0))) (cNil)))) (fCons (fOp addD (fC (.int 1)) (fCallF 2 [0] F_law_take (cSl 2 (cIm (fOp ixD (fVar 3) (fC (.int 0))) (cNil))))) ((fun env => .ok ([], env)))))) (sSeq (sIf (fNotT (fBool (fCallF 4 [] F_law_rings_good (cIm (fVar 3) (cIm (fVar 5) (cIm (fVar 6) (cIm (fCallF 3 [0] F_law_drawn (cSl 2 (cIm (fOp ixD (fVar 3) (fC (.int 0))) (cIm (fVar 4) (cNil))))) (cNil)))))))) (sRet (fC (.bool false))) (sNil)) (sIf (fOrT (fNotT (fBool (fCallF 2 [] F_law_laying_good (cIm (fVar 3) (cIm (fVar 4) (cNil)))))) (fNotT (fBool (fCallF 4 [] F_law_spans_good (cIm (fVar 3) (cIm (fVar 4) (cIm (fVar 5) (cIm (fVar 6) (cNil))))))))) (sRet (fC (.bool false))) (sNil)))))))) (sRet (fC (.bool true)))
def F_law : FD := runD 7 g_law
end DL
namespace DL
open PySem PySem.Spec PyProof.Rows L2
def topS (i : Nat) : Stmt := PySem.Challenge.pw_ringstints_k24_names_of_arguments.main.body.getD i (.Pass ⟨0, 0, 0, 0⟩)
structure Blt (mg : Str → Option Value) : Prop where
  len : mg "len" = none
  range : mg "range" = none
  int : mg "int" = none
  str : mg "str" = none
  tuple : mg "tuple" = none
  list : mg "list" = none
  sum : mg "sum" = none
  max : mg "max" = none
  min : mg "min" = none
  abs : mg "abs" = none
  all : mg "all" = none
  sorted : mg "sorted" = none
  repr : mg "repr" = none
  isinstance : mg "isinstance" = none
  bool : mg "bool" = none
  enumerate : mg "enumerate" = none
  zip : mg "zip" = none
  ValueError : mg "ValueError" = none
abbrev sI_Barred : Stmt := clsS (topS 6) 0
theorem scI_Barred : FnScope ["self", "bar"] ["self", "bar"] (defScope sI_Barred) := ⟨rfl, rfl, rfl, by decide +kernel, rfl, by decide +kernel, by decide +kernel⟩
section
variable {P : Program} {w : World} {K : PySem.W.Frag} {mg : Str → Option Value} {base : Heap}
abbrev s_is_whole : Stmt := topS 9
abbrev N_is_whole : List Str := ["thing"]
theorem sc_is_whole : FnScope N_is_whole ["thing"] (defScope s_is_whole) := ⟨rfl, rfl, rfl, by decide +kernel, rfl, by decide +kernel, by decide +kernel⟩
theorem ok_is_whole (T : Blt mg) (S : Stands K mg "is_whole" s_is_whole ["thing"]) : Has P w K mg base (caOf mg) "is_whole" 1 ["thing"] [] true F_is_whole :=
  S.has sc_is_whole (by decide) rfl fun f cdv A outer s H E hr hgd => by
    have tk := L2N.takes_of (X := cxOf (L2N.CX P w) P w K mg base N_is_whole "is_whole" (defScope s_is_whole) f cdv A outer s H E) (E := E) rfl rfl rfl rfl
    have po := passes_of (X := cxOf (L2N.CX P w) P w K mg base N_is_whole "is_whole" (defScope s_is_whole) f cdv A outer s H E) rfl
    exact dss_one (ds_ret (de_and (de_isi (T := "int") (de_var (pv 0)) rfl T.isinstance rfl T.int (by decide +kernel)) (de_one (de_not (de_isi (T := "bool") (de_var (pv 0)) rfl T.isinstance rfl T.bool (by decide +kernel))))))
theorem okH_is_whole (T : Blt mg) (S : Stands K mg "is_whole" s_is_whole ["thing"]) : HasH P w K mg base (caOf mg) "is_whole" 1 ["thing"] [] true F_is_whole :=
  S.hasH sc_is_whole (by decide) rfl fun f cdv A outer s H E p hot hr => by
    have tk := L2.takes_of (X := L2H.cxH (L2.CX P w) P w K mg base N_is_whole "is_whole" (defScope s_is_whole) f cdv A outer s H E p) (E := E) rfl rfl rfl rfl
    have po := passes_of (X := L2H.cxH (L2.CX P w) P w K mg base N_is_whole "is_whole" (defScope s_is_whole) f cdv A outer s H E p) rfl
    have hcx : L2H.HotC (L2H.cxH (L2.CX P w) P w K mg base N_is_whole "is_whole" (defScope s_is_whole) f cdv A outer s H E p) := ⟨p, ⟨hot.1, hot.2⟩, List.mem_cons_self⟩
    exact dss_one (ds_ret (de_and (de_isi (T := "int") (de_var (pv 0)) rfl T.isinstance rfl T.int (by decide +kernel)) (de_one (de_not (de_isi (T := "bool") (de_var (pv 0)) rfl T.isinstance rfl T.bool (by decide +kernel))))))
abbrev s_is_from : Stmt := topS 10
abbrev N_is_from : List Str := ["thing", "low"]
theorem sc_is_from : FnScope N_is_from ["thing", "low"] (defScope s_is_from) := ⟨rfl, rfl, rfl, by decide +kernel, rfl, by decide +kernel, by decide +kernel⟩
theorem ok_is_from (T : Blt mg) (S : Stands K mg "is_from" s_is_from ["thing", "low"]) (h_is_whole : Has P w K mg base (caOf mg) "is_whole" 1 ["thing"] [] true F_is_whole) : Has P w K mg base (caOf mg) "is_from" 2 ["thing", "low"] [] true F_is_from :=
  S.has sc_is_from (by decide) rfl fun f cdv A outer s H E hr hgd => by
    have tk := L2N.takes_of (X := cxOf (L2N.CX P w) P w K mg base N_is_from "is_from" (defScope s_is_from) f cdv A outer s H E) (E := E) rfl rfl rfl rfl
    have po := passes_of (X := cxOf (L2N.CX P w) P w K mg base N_is_from "is_from" (defScope s_is_from) f cdv A outer s H E) rfl
    exact dss_one (ds_ret (de_and (de_callH h_is_whole hr (by decide) hgd rfl rfl tk (dc_im (de_var (pv 0)) (dc_nil))) (de_one (de_cmp od_ge (de_var (pv 0)) (de_var (pv 1)) (nomark _)))))
theorem okH_is_from (T : Blt mg) (S : Stands K mg "is_from" s_is_from ["thing", "low"]) (hH_is_whole : HasH P w K mg base (caOf mg) "is_whole" 1 ["thing"] [] true F_is_whole) : HasH P w K mg base (caOf mg) "is_from" 2 ["thing", "low"] [] true F_is_from :=
  S.hasH sc_is_from (by decide) rfl fun f cdv A outer s H E p hot hr => by
    have tk := L2.takes_of (X := L2H.cxH (L2.CX P w) P w K mg base N_is_from "is_from" (defScope s_is_from) f cdv A outer s H E p) (E := E) rfl rfl rfl rfl
    have po := passes_of (X := L2H.cxH (L2.CX P w) P w K mg base N_is_from "is_from" (defScope s_is_from) f cdv A outer s H E p) rfl
    have hcx : L2H.HotC (L2H.cxH (L2.CX P w) P w K mg base N_is_from "is_from" (defScope s_is_from) f cdv A outer s H E p) := ⟨p, ⟨hot.1, hot.2⟩, List.mem_cons_self⟩
    exact dss_one (ds_ret (de_and (de_callHH hH_is_whole hr (by decide) hcx rfl rfl tk (dc_im (de_var (pv 0)) (dc_nil))) (de_one (de_cmp od_ge (de_var (pv 0)) (de_var (pv 1)) (nomark _)))))
abbrev s_is_within : Stmt := topS 11
abbrev N_is_within : List Str := ["thing", "low", "high"]
theorem sc_is_within : FnScope N_is_within ["thing", "low", "high"] (defScope s_is_within) := ⟨rfl, rfl, rfl, by decide +kernel, rfl, by decide +kernel, by decide +kernel⟩
theorem ok_is_within (T : Blt mg) (S : Stands K mg "is_within" s_is_within ["thing", "low", "high"]) (h_is_whole : Has P w K mg base (caOf mg) "is_whole" 1 ["thing"] [] true F_is_whole) : Has P w K mg base (caOf mg) "is_within" 2 ["thing", "low", "high"] [] true F_is_within :=
  S.has sc_is_within (by decide) rfl fun f cdv A outer s H E hr hgd => by
    have tk := L2N.takes_of (X := cxOf (L2N.CX P w) P w K mg base N_is_within "is_within" (defScope s_is_within) f cdv A outer s H E) (E := E) rfl rfl rfl rfl
    have po := passes_of (X := cxOf (L2N.CX P w) P w K mg base N_is_within "is_within" (defScope s_is_within) f cdv A outer s H E) rfl
    exact dss_one (ds_ret (de_and (de_callH h_is_whole hr (by decide) hgd rfl rfl tk (dc_im (de_var (pv 0)) (dc_nil))) (de_one (de_chain od_le od_le (de_var (pv 1)) (de_var (pv 0)) (de_var (pv 2))))))
theorem okH_is_within (T : Blt mg) (S : Stands K mg "is_within" s_is_within ["thing", "low", "high"]) (hH_is_whole : HasH P w K mg base (caOf mg) "is_whole" 1 ["thing"] [] true F_is_whole) : HasH P w K mg base (caOf mg) "is_within" 2 ["thing", "low", "high"] [] true F_is_within :=
  S.hasH sc_is_within (by decide) rfl fun f cdv A outer s H E p hot hr => by
    have tk := L2.takes_of (X := L2H.cxH (L2.CX P w) P w K mg base N_is_within "is_within" (defScope s_is_within) f cdv A outer s H E p) (E := E) rfl rfl rfl rfl
    have po := passes_of (X := L2H.cxH (L2.CX P w) P w K mg base N_is_within "is_within" (defScope s_is_within) f cdv A outer s H E p) rfl
    have hcx : L2H.HotC (L2H.cxH (L2.CX P w) P w K mg base N_is_within "is_within" (defScope s_is_within) f cdv A outer s H E p) := ⟨p, ⟨hot.1, hot.2⟩, List.mem_cons_self⟩
    exact dss_one (ds_ret (de_and (de_callHH hH_is_whole hr (by decide) hcx rfl rfl tk (dc_im (de_var (pv 0)) (dc_nil))) (de_one (de_chain od_le od_le (de_var (pv 1)) (de_var (pv 0)) (de_var (pv 2))))))
abbrev s_is_term : Stmt := topS 12
abbrev N_is_term : List Str := ["many", "thing", "first", "length", "least", "most"]
theorem sc_is_term : FnScope N_is_term ["many", "thing"] (defScope s_is_term) := ⟨rfl, rfl, rfl, by decide +kernel, rfl, by decide +kernel, by decide +kernel⟩
theorem ok_is_term (T : Blt mg) (S : Stands K mg "is_term" s_is_term ["many", "thing"]) (h_is_within : Has P w K mg base (caOf mg) "is_within" 2 ["thing", "low", "high"] [] true F_is_within) (h_is_from : Has P w K mg base (caOf mg) "is_from" 2 ["thing", "low"] [] true F_is_from) : Has P w K mg base (caOf mg) "is_term" 3 ["many", "thing"] [] true F_is_term :=
  S.has sc_is_term (by decide) rfl fun f cdv A outer s H E hr hgd => by
    have tk := L2N.takes_of (X := cxOf (L2N.CX P w) P w K mg base N_is_term "is_term" (defScope s_is_term) f cdv A outer s H E) (E := E) rfl rfl rfl rfl
    have po := passes_of (X := cxOf (L2N.CX P w) P w K mg base N_is_term "is_term" (defScope s_is_term) f cdv A outer s H E) rfl
    exact dss_cons (ds_if (PW.pt (dw_or (dt_not (dt_val (de_isi (T := "tuple") (de_var (pv 1)) rfl T.isinstance rfl T.tuple (by decide +kernel)))) (dw_or1 (dt_cmp (od_ne hr.units) (de_callB (cd_len) rfl T.len (by decide +kernel) (da_cons (de_var (pv 1)) (da_nil))) (de_int) (nomark _))))) (dss_one (ds_ret (de_bl))) (dss_nil)) (dss_cons (ds_asg (de_var (pv 1)) (dg_tup rfl (dgs_cons (dg_name (pg_name (i := 2) sc_is_term.nd rfl (.inl rfl)) (show 2 ∉ ([] : List Nat) by decide)) (dgs_cons (dg_name (pg_name (i := 3) sc_is_term.nd rfl (.inl rfl)) (show 3 ∉ ([] : List Nat) by decide)) (dgs_cons (dg_name (pg_name (i := 4) sc_is_term.nd rfl (.inl rfl)) (show 4 ∉ ([] : List Nat) by decide)) (dgs_cons (dg_name (pg_name (i := 5) sc_is_term.nd rfl (.inl rfl)) (show 5 ∉ ([] : List Nat) by decide)) (dgs_nil))))))) (dss_cons (ds_if (PW.pt (dw_or (dt_not (dt_val (de_callH h_is_within hr (by decide) hgd rfl rfl tk (dc_im (de_var (pv 2)) (dc_im (de_int) (dc_im (de_op od_sub (de_var (pv 0)) (de_int)) (dc_nil))))))) (dw_or1 (dt_not (dt_val (de_callH h_is_within hr (by decide) hgd rfl rfl tk (dc_im (de_var (pv 3)) (dc_im (de_int) (dc_im (de_var (pv 0)) (dc_nil)))))))))) (dss_one (ds_ret (de_bl))) (dss_nil)) (dss_one (ds_ret (de_and (de_callH h_is_from hr (by decide) hgd rfl rfl tk (dc_im (de_var (pv 4)) (dc_im (de_int) (dc_nil)))) (de_one (de_or (de_cmp od_is (de_var (pv 5)) (de_non) (nomark _)) (de_one (de_callH h_is_from hr (by decide) hgd rfl rfl tk (dc_im (de_var (pv 5)) (dc_im (de_int) (dc_nil))))))))))))
theorem okH_is_term (T : Blt mg) (S : Stands K mg "is_term" s_is_term ["many", "thing"]) (hH_is_within : HasH P w K mg base (caOf mg) "is_within" 2 ["thing", "low", "high"] [] true F_is_within) (hH_is_from : HasH P w K mg base (caOf mg) "is_from" 2 ["thing", "low"] [] true F_is_from) : HasH P w K mg base (caOf mg) "is_term" 3 ["many", "thing"] [] true F_is_term :=
  S.hasH sc_is_term (by decide) rfl fun f cdv A outer s H E p hot hr => by
    have tk := L2.takes_of (X := L2H.cxH (L2.CX P w) P w K mg base N_is_term "is_term" (defScope s_is_term) f cdv A outer s H E p) (E := E) rfl rfl rfl rfl
    have po := passes_of (X := L2H.cxH (L2.CX P w) P w K mg base N_is_term "is_term" (defScope s_is_term) f cdv A outer s H E p) rfl
    have hcx : L2H.HotC (L2H.cxH (L2.CX P w) P w K mg base N_is_term "is_term" (defScope s_is_term) f cdv A outer s H E p) := ⟨p, ⟨hot.1, hot.2⟩, List.mem_cons_self⟩
    exact dss_cons (ds_if (PW.pt (dw_or (dt_not (dt_val (de_isi (T := "tuple") (de_var (pv 1)) rfl T.isinstance rfl T.tuple (by decide +kernel)))) (dw_or1 (dt_cmp (od_ne (unH hr)) (de_callB (cd_len) rfl T.len (by decide +kernel) (da_cons (de_var (pv 1)) (da_nil))) (de_int) (nomark _))))) (dss_one (ds_ret (de_bl))) (dss_nil)) (dss_cons (ds_asg (de_var (pv 1)) (dg_tupH hcx (dgs_cons (dg_name (pg_name (i := 2) sc_is_term.nd rfl (.inl rfl)) (show 2 ∉ ([] : List Nat) by decide)) (dgs_cons (dg_name (pg_name (i := 3) sc_is_term.nd rfl (.inl rfl)) (show 3 ∉ ([] : List Nat) by decide)) (dgs_cons (dg_name (pg_name (i := 4) sc_is_term.nd rfl (.inl rfl)) (show 4 ∉ ([] : List Nat) by decide)) (dgs_cons (dg_name (pg_name (i := 5) sc_is_term.nd rfl (.inl rfl)) (show 5 ∉ ([] : List Nat) by decide)) (dgs_nil))))))) (dss_cons (ds_if (PW.pt (dw_or (dt_not (dt_val (de_callHH hH_is_within hr (by decide) hcx rfl rfl tk (dc_im (de_var (pv 2)) (dc_im (de_int) (dc_im (de_op od_sub (de_var (pv 0)) (de_int)) (dc_nil))))))) (dw_or1 (dt_not (dt_val (de_callHH hH_is_within hr (by decide) hcx rfl rfl tk (dc_im (de_var (pv 3)) (dc_im (de_int) (dc_im (de_var (pv 0)) (dc_nil)))))))))) (dss_one (ds_ret (de_bl))) (dss_nil)) (dss_one (ds_ret (de_and (de_callHH hH_is_from hr (by decide) hcx rfl rfl tk (dc_im (de_var (pv 4)) (dc_im (de_int) (dc_nil)))) (de_one (de_or (de_cmp od_is (de_var (pv 5)) (de_non) (nomark _)) (de_one (de_callHH hH_is_from hr (by decide) hcx rfl rfl tk (dc_im (de_var (pv 5)) (dc_im (de_int) (dc_nil))))))))))))
abbrev s_is_right_ring : Stmt := topS 13
abbrev N_is_right_ring : List Str := ["thing", "term"]
theorem sc_is_right_ring : FnScope N_is_right_ring ["thing"] (defScope s_is_right_ring) := ⟨rfl, rfl, rfl, by decide +kernel, rfl, by decide +kernel, by decide +kernel⟩
theorem ok_is_right_ring (T : Blt mg) (S : Stands K mg "is_right_ring" s_is_right_ring ["thing"]) {t_MOST_PLACES : Tok} (g_MOST_PLACES : mg "MOST_PLACES" = some (.int 40 t_MOST_PLACES)) (h_is_within : Has P w K mg base (caOf mg) "is_within" 2 ["thing", "low", "high"] [] true F_is_within) (h_is_term : Has P w K mg base (caOf mg) "is_term" 3 ["many", "thing"] [] true F_is_term) : Has P w K mg base (caOf mg) "is_right_ring" 4 ["thing"] [] true F_is_right_ring :=
  S.has sc_is_right_ring (by decide) rfl fun f cdv A outer s H E hr hgd => by
    have tk := L2N.takes_of (X := cxOf (L2N.CX P w) P w K mg base N_is_right_ring "is_right_ring" (defScope s_is_right_ring) f cdv A outer s H E) (E := E) rfl rfl rfl rfl
    have po := passes_of (X := cxOf (L2N.CX P w) P w K mg base N_is_right_ring "is_right_ring" (defScope s_is_right_ring) f cdv A outer s H E) rfl
    exact dss_cons (ds_if (PW.pt (dw_or (dt_not (dt_val (de_isi (T := "tuple") (de_var (pv 0)) rfl T.isinstance rfl T.tuple (by decide +kernel)))) (dw_or (dt_cmp (od_ne hr.units) (de_callB (cd_len) rfl T.len (by decide +kernel) (da_cons (de_var (pv 0)) (da_nil))) (de_int) (nomark _)) (dw_or1 (dt_not (dt_val (de_callH h_is_within hr (by decide) hgd rfl rfl tk (dc_im (de_ix xd_ix (de_var (pv 0)) (de_int) (fun _ _ => rfl)) (dc_im (de_int) (dc_im ((de_glob (v := .int 40) rfl g_MOST_PLACES ⟨_, rfl⟩ (fun _ _ => .int _) (fun _ q => nomatch q))) (dc_nil))))))))))) (dss_one (ds_ret (de_bl))) (dss_nil)) (dss_one (ds_ret (de_and (de_isi (T := "tuple") (de_ix xd_ix (de_var (pv 0)) (de_int) (fun _ _ => rfl)) rfl T.isinstance rfl T.tuple (by decide +kernel)) (de_one (de_callB (cd_all rfl) rfl T.all (by decide +kernel) (da_cons (de_lc (own := [("term", 1)]) rfl sc_is_right_ring.nd (di_seq (de_ix xd_ix (de_var (pv 0)) (de_int) (fun _ _ => rfl))) (blkOk_by (own := [("term", 1)]) (N := N_is_right_ring) (sc := defScope s_is_right_ring) (by decide +kernel)) (fun _ _ _ _ _ => dg_name (pg_name (i := 1) sc_is_right_ring.nd rfl (.inl rfl)) (show 1 ∉ ([] : List Nat) by decide)) (fun _ _ _ _ _ => dts_nil) (fun _ _ _ _ _ => de_callH h_is_term hr (by decide) hgd rfl rfl takes_no (dc_im (de_ix xd_ix (de_var (pv 0)) (de_int) (fun _ _ => rfl)) (dc_im (de_var (pv 1)) (dc_nil)))) (by decide)) (da_nil)))))))
theorem okH_is_right_ring (T : Blt mg) (S : Stands K mg "is_right_ring" s_is_right_ring ["thing"]) {t_MOST_PLACES : Tok} (g_MOST_PLACES : mg "MOST_PLACES" = some (.int 40 t_MOST_PLACES)) (hH_is_within : HasH P w K mg base (caOf mg) "is_within" 2 ["thing", "low", "high"] [] true F_is_within) (hH_is_term : HasH P w K mg base (caOf mg) "is_term" 3 ["many", "thing"] [] true F_is_term) : HasH P w K mg base (caOf mg) "is_right_ring" 4 ["thing"] [] true F_is_right_ring :=
  S.hasH sc_is_right_ring (by decide) rfl fun f cdv A outer s H E p hot hr => by
    have tk := L2.takes_of (X := L2H.cxH (L2.CX P w) P w K mg base N_is_right_ring "is_right_ring" (defScope s_is_right_ring) f cdv A outer s H E p) (E := E) rfl rfl rfl rfl
    have po := passes_of (X := L2H.cxH (L2.CX P w) P w K mg base N_is_right_ring "is_right_ring" (defScope s_is_right_ring) f cdv A outer s H E p) rfl
    have hcx : L2H.HotC (L2H.cxH (L2.CX P w) P w K mg base N_is_right_ring "is_right_ring" (defScope s_is_right_ring) f cdv A outer s H E p) := ⟨p, ⟨hot.1, hot.2⟩, List.mem_cons_self⟩
    exact dss_cons (ds_if (PW.pt (dw_or (dt_not (dt_val (de_isi (T := "tuple") (de_var (pv 0)) rfl T.isinstance rfl T.tuple (by decide +kernel)))) (dw_or (dt_cmp (od_ne (unH hr)) (de_callB (cd_len) rfl T.len (by decide +kernel) (da_cons (de_var (pv 0)) (da_nil))) (de_int) (nomark _)) (dw_or1 (dt_not (dt_val (de_callHH hH_is_within hr (by decide) hcx rfl rfl tk (dc_im (de_ix xd_ix (de_var (pv 0)) (de_int) (fun _ _ => rfl)) (dc_im (de_int) (dc_im ((de_glob (v := .int 40) rfl g_MOST_PLACES ⟨_, rfl⟩ (fun _ _ => .int _) (fun _ q => nomatch q))) (dc_nil))))))))))) (dss_one (ds_ret (de_bl))) (dss_nil)) (dss_one (ds_ret (de_and (de_isi (T := "tuple") (de_ix xd_ix (de_var (pv 0)) (de_int) (fun _ _ => rfl)) rfl T.isinstance rfl T.tuple (by decide +kernel)) (de_one (de_callB (cd_allH hcx) rfl T.all (by decide +kernel) (da_cons (de_lcH (own := [("term", 1)]) hcx sc_is_right_ring.nd (diH_seq (de_ix xd_ix (de_var (pv 0)) (de_int) (fun _ _ => rfl))) (blkOk_by (own := [("term", 1)]) (N := N_is_right_ring) (sc := defScope s_is_right_ring) (by decide +kernel)) (fun _ _ _ _ _ => dg_name (pg_name (i := 1) sc_is_right_ring.nd rfl (.inl rfl)) (show 1 ∉ ([] : List Nat) by decide)) (fun _ _ _ _ _ => dts_nil) (fun _ _ _ _ _ => de_callHH hH_is_term hr (by decide) hcx rfl rfl takes_noH (dc_im (de_ix xd_ix (de_var (pv 0)) (de_int) (fun _ _ => rfl)) (dc_im (de_var (pv 1)) (dc_nil)))) (by decide)) (da_nil)))))))
abbrev s_is_right_laying : Stmt := topS 14
abbrev N_is_right_laying : List Str := ["ring", "thing", "stones"]
theorem sc_is_right_laying : FnScope N_is_right_laying ["ring", "thing"] (defScope s_is_right_laying) := ⟨rfl, rfl, rfl, by decide +kernel, rfl, by decide +kernel, by decide +kernel⟩
theorem ok_is_right_laying (T : Blt mg) (S : Stands K mg "is_right_laying" s_is_right_laying ["ring", "thing"]) (h_is_from : Has P w K mg base (caOf mg) "is_from" 2 ["thing", "low"] [] true F_is_from) : Has P w K mg base (caOf mg) "is_right_laying" 3 ["ring", "thing"] [] true F_is_right_laying :=
  S.has sc_is_right_laying (by decide) rfl fun f cdv A outer s H E hr hgd => by
    have tk := L2N.takes_of (X := cxOf (L2N.CX P w) P w K mg base N_is_right_laying "is_right_laying" (defScope s_is_right_laying) f cdv A outer s H E) (E := E) rfl rfl rfl rfl
    have po := passes_of (X := cxOf (L2N.CX P w) P w K mg base N_is_right_laying "is_right_laying" (defScope s_is_right_laying) f cdv A outer s H E) rfl
    exact dss_one (ds_ret (de_and (de_isi (T := "tuple") (de_var (pv 1)) rfl T.isinstance rfl T.tuple (by decide +kernel)) (de_and (de_cmp (od_eq hr.units) (de_callB (cd_len) rfl T.len (by decide +kernel) (da_cons (de_var (pv 1)) (da_nil))) (de_ix xd_ix (de_var (pv 0)) (de_int) (fun _ _ => rfl)) (nomark _)) (de_one (de_callB (cd_all rfl) rfl T.all (by decide +kernel) (da_cons (de_lc (own := [("stones", 2)]) rfl sc_is_right_laying.nd (di_seq (de_var (pv 1))) (blkOk_by (own := [("stones", 2)]) (N := N_is_right_laying) (sc := defScope s_is_right_laying) (by decide +kernel)) (fun _ _ _ _ _ => dg_name (pg_name (i := 2) sc_is_right_laying.nd rfl (.inl rfl)) (show 2 ∉ ([] : List Nat) by decide)) (fun _ _ _ _ _ => dts_nil) (fun _ _ _ _ _ => de_callH h_is_from hr (by decide) hgd rfl rfl takes_no (dc_im (de_var (pv 2)) (dc_im (de_int) (dc_nil)))) (by decide)) (da_nil)))))))
abbrev s_look_at_ring : Stmt := topS 15
abbrev N_look_at_ring : List Str := ["ring"]
theorem sc_look_at_ring : FnScope N_look_at_ring ["ring"] (defScope s_look_at_ring) := ⟨rfl, rfl, rfl, by decide +kernel, rfl, by decide +kernel, by decide +kernel⟩
theorem ok_look_at_ring (T : Blt mg) (S : Stands K mg "look_at_ring" s_look_at_ring ["ring"]) {C_NoRing : Addr} (x_NoRing : ExF K mg "NoRing" C_NoRing) (h_is_right_ring : Has P w K mg base (caOf mg) "is_right_ring" 4 ["thing"] [] true F_is_right_ring) : Has P w K mg base (caOf mg) "look_at_ring" 5 ["ring"] [] true F_look_at_ring :=
  S.has sc_look_at_ring (by decide) rfl fun f cdv A outer s H E hr hgd => by
    have tk := L2N.takes_of (X := cxOf (L2N.CX P w) P w K mg base N_look_at_ring "look_at_ring" (defScope s_look_at_ring) f cdv A outer s H E) (E := E) rfl rfl rfl rfl
    have po := passes_of (X := cxOf (L2N.CX P w) P w K mg base N_look_at_ring "look_at_ring" (defScope s_look_at_ring) f cdv A outer s H E) rfl
    exact dss_one (ds_if (dt_not (dt_val (de_callH h_is_right_ring hr (by decide) hgd rfl rfl tk (dc_im (de_var (pv 0)) (dc_nil))))) (dss_one (ds_raiseF rfl tk x_NoRing rfl rfl)) (dss_nil))
theorem okH_look_at_ring (T : Blt mg) (S : Stands K mg "look_at_ring" s_look_at_ring ["ring"]) {C_NoRing : Addr} (x_NoRing : ExF K mg "NoRing" C_NoRing) (hH_is_right_ring : HasH P w K mg base (caOf mg) "is_right_ring" 4 ["thing"] [] true F_is_right_ring) : HasH P w K mg base (caOf mg) "look_at_ring" 5 ["ring"] [] true F_look_at_ring :=
  S.hasH sc_look_at_ring (by decide) rfl fun f cdv A outer s H E p hot hr => by
    have tk := L2.takes_of (X := L2H.cxH (L2.CX P w) P w K mg base N_look_at_ring "look_at_ring" (defScope s_look_at_ring) f cdv A outer s H E p) (E := E) rfl rfl rfl rfl
    have po := passes_of (X := L2H.cxH (L2.CX P w) P w K mg base N_look_at_ring "look_at_ring" (defScope s_look_at_ring) f cdv A outer s H E p) rfl
    have hcx : L2H.HotC (L2H.cxH (L2.CX P w) P w K mg base N_look_at_ring "look_at_ring" (defScope s_look_at_ring) f cdv A outer s H E p) := ⟨p, ⟨hot.1, hot.2⟩, List.mem_cons_self⟩
    exact dss_one (ds_if (dt_not (dt_val (de_callHH hH_is_right_ring hr (by decide) hcx rfl rfl tk (dc_im (de_var (pv 0)) (dc_nil))))) (dss_one (ds_raiseFH hcx tk x_NoRing rfl rfl)) (dss_nil))
abbrev s_look_at_laying : Stmt := topS 16
abbrev N_look_at_laying : List Str := ["ring", "laying"]
theorem sc_look_at_laying : FnScope N_look_at_laying ["ring", "laying"] (defScope s_look_at_laying) := ⟨rfl, rfl, rfl, by decide +kernel, rfl, by decide +kernel, by decide +kernel⟩
theorem ok_look_at_laying (T : Blt mg) (S : Stands K mg "look_at_laying" s_look_at_laying ["ring", "laying"]) {C_NoLaying : Addr} (x_NoLaying : ExF K mg "NoLaying" C_NoLaying) (h_is_right_laying : Has P w K mg base (caOf mg) "is_right_laying" 3 ["ring", "thing"] [] true F_is_right_laying) : Has P w K mg base (caOf mg) "look_at_laying" 4 ["ring", "laying"] [] true F_look_at_laying :=
  S.has sc_look_at_laying (by decide) rfl fun f cdv A outer s H E hr hgd => by
    have tk := L2N.takes_of (X := cxOf (L2N.CX P w) P w K mg base N_look_at_laying "look_at_laying" (defScope s_look_at_laying) f cdv A outer s H E) (E := E) rfl rfl rfl rfl
    have po := passes_of (X := cxOf (L2N.CX P w) P w K mg base N_look_at_laying "look_at_laying" (defScope s_look_at_laying) f cdv A outer s H E) rfl
    exact dss_one (ds_if (dt_not (dt_val (de_callH h_is_right_laying hr (by decide) hgd rfl rfl tk (dc_im (de_var (pv 0)) (dc_im (de_var (pv 1)) (dc_nil)))))) (dss_one (ds_raiseF rfl tk x_NoLaying rfl rfl)) (dss_nil))
abbrev s_look_at_total : Stmt := topS 17
abbrev N_look_at_total : List Str := ["total"]
theorem sc_look_at_total : FnScope N_look_at_total ["total"] (defScope s_look_at_total) := ⟨rfl, rfl, rfl, by decide +kernel, rfl, by decide +kernel, by decide +kernel⟩
theorem ok_look_at_total (T : Blt mg) (S : Stands K mg "look_at_total" s_look_at_total ["total"]) {C_NoTotal : Addr} (x_NoTotal : ExF K mg "NoTotal" C_NoTotal) (h_is_from : Has P w K mg base (caOf mg) "is_from" 2 ["thing", "low"] [] true F_is_from) : Has P w K mg base (caOf mg) "look_at_total" 3 ["total"] [] true F_look_at_total :=
  S.has sc_look_at_total (by decide) rfl fun f cdv A outer s H E hr hgd => by
    have tk := L2N.takes_of (X := cxOf (L2N.CX P w) P w K mg base N_look_at_total "look_at_total" (defScope s_look_at_total) f cdv A outer s H E) (E := E) rfl rfl rfl rfl
    have po := passes_of (X := cxOf (L2N.CX P w) P w K mg base N_look_at_total "look_at_total" (defScope s_look_at_total) f cdv A outer s H E) rfl
    exact dss_one (ds_if (dt_not (dt_val (de_callH h_is_from hr (by decide) hgd rfl rfl tk (dc_im (de_var (pv 0)) (dc_im (de_int) (dc_nil)))))) (dss_one (ds_raiseF rfl tk x_NoTotal rfl rfl)) (dss_nil))
theorem okH_look_at_total (T : Blt mg) (S : Stands K mg "look_at_total" s_look_at_total ["total"]) {C_NoTotal : Addr} (x_NoTotal : ExF K mg "NoTotal" C_NoTotal) (hH_is_from : HasH P w K mg base (caOf mg) "is_from" 2 ["thing", "low"] [] true F_is_from) : HasH P w K mg base (caOf mg) "look_at_total" 3 ["total"] [] true F_look_at_total :=
  S.hasH sc_look_at_total (by decide) rfl fun f cdv A outer s H E p hot hr => by
    have tk := L2.takes_of (X := L2H.cxH (L2.CX P w) P w K mg base N_look_at_total "look_at_total" (defScope s_look_at_total) f cdv A outer s H E p) (E := E) rfl rfl rfl rfl
    have po := passes_of (X := L2H.cxH (L2.CX P w) P w K mg base N_look_at_total "look_at_total" (defScope s_look_at_total) f cdv A outer s H E p) rfl
    have hcx : L2H.HotC (L2H.cxH (L2.CX P w) P w K mg base N_look_at_total "look_at_total" (defScope s_look_at_total) f cdv A outer s H E p) := ⟨p, ⟨hot.1, hot.2⟩, List.mem_cons_self⟩
    exact dss_one (ds_if (dt_not (dt_val (de_callHH hH_is_from hr (by decide) hcx rfl rfl tk (dc_im (de_var (pv 0)) (dc_im (de_int) (dc_nil)))))) (dss_one (ds_raiseFH hcx tk x_NoTotal rfl rfl)) (dss_nil))
abbrev s_look_at_stretch : Stmt := topS 18
abbrev N_look_at_stretch : List Str := ["ring", "first", "length"]
theorem sc_look_at_stretch : FnScope N_look_at_stretch ["ring", "first", "length"] (defScope s_look_at_stretch) := ⟨rfl, rfl, rfl, by decide +kernel, rfl, by decide +kernel, by decide +kernel⟩
theorem ok_look_at_stretch (T : Blt mg) (S : Stands K mg "look_at_stretch" s_look_at_stretch ["ring", "first", "length"]) {C_NoStretch : Addr} (x_NoStretch : ExF K mg "NoStretch" C_NoStretch) (h_is_within : Has P w K mg base (caOf mg) "is_within" 2 ["thing", "low", "high"] [] true F_is_within) : Has P w K mg base (caOf mg) "look_at_stretch" 3 ["ring", "first", "length"] [] true F_look_at_stretch :=
  S.has sc_look_at_stretch (by decide) rfl fun f cdv A outer s H E hr hgd => by
    have tk := L2N.takes_of (X := cxOf (L2N.CX P w) P w K mg base N_look_at_stretch "look_at_stretch" (defScope s_look_at_stretch) f cdv A outer s H E) (E := E) rfl rfl rfl rfl
    have po := passes_of (X := cxOf (L2N.CX P w) P w K mg base N_look_at_stretch "look_at_stretch" (defScope s_look_at_stretch) f cdv A outer s H E) rfl
    exact dss_one (ds_if (PW.pt (dw_or (dt_not (dt_val (de_callH h_is_within hr (by decide) hgd rfl rfl tk (dc_im (de_var (pv 1)) (dc_im (de_int) (dc_im (de_op od_sub (de_ix xd_ix (de_var (pv 0)) (de_int) (fun _ _ => rfl)) (de_int)) (dc_nil))))))) (dw_or1 (dt_not (dt_val (de_callH h_is_within hr (by decide) hgd rfl rfl tk (dc_im (de_var (pv 2)) (dc_im (de_int) (dc_im (de_ix xd_ix (de_var (pv 0)) (de_int) (fun _ _ => rfl)) (dc_nil)))))))))) (dss_one (ds_raiseF rfl tk x_NoStretch rfl rfl)) (dss_nil))
abbrev s_is_ring : Stmt := topS 19
abbrev N_is_ring : List Str := ["thing"]
theorem sc_is_ring : FnScope N_is_ring ["thing"] (defScope s_is_ring) := ⟨rfl, rfl, rfl, by decide +kernel, rfl, by decide +kernel, by decide +kernel⟩
theorem ok_is_ring (T : Blt mg) (S : Stands K mg "is_ring" s_is_ring ["thing"]) (h_is_right_ring : Has P w K mg base (caOf mg) "is_right_ring" 4 ["thing"] [] true F_is_right_ring) : Has P w K mg base (caOf mg) "is_ring" 5 ["thing"] [] true F_is_ring :=
  S.has sc_is_ring (by decide) rfl fun f cdv A outer s H E hr hgd => by
    have tk := L2N.takes_of (X := cxOf (L2N.CX P w) P w K mg base N_is_ring "is_ring" (defScope s_is_ring) f cdv A outer s H E) (E := E) rfl rfl rfl rfl
    have po := passes_of (X := cxOf (L2N.CX P w) P w K mg base N_is_ring "is_ring" (defScope s_is_ring) f cdv A outer s H E) rfl
    exact dss_one (ds_ret (de_callH h_is_right_ring hr (by decide) hgd rfl rfl tk (dc_im (de_var (pv 0)) (dc_nil))))
abbrev s_is_laying : Stmt := topS 20
abbrev N_is_laying : List Str := ["ring", "thing"]
theorem sc_is_laying : FnScope N_is_laying ["ring", "thing"] (defScope s_is_laying) := ⟨rfl, rfl, rfl, by decide +kernel, rfl, by decide +kernel, by decide +kernel⟩
theorem ok_is_laying (T : Blt mg) (S : Stands K mg "is_laying" s_is_laying ["ring", "thing"]) (h_look_at_ring : Has P w K mg base (caOf mg) "look_at_ring" 5 ["ring"] [] true F_look_at_ring) (h_is_right_laying : Has P w K mg base (caOf mg) "is_right_laying" 3 ["ring", "thing"] [] true F_is_right_laying) : Has P w K mg base (caOf mg) "is_laying" 6 ["ring", "thing"] [] true F_is_laying :=
  S.has sc_is_laying (by decide) rfl fun f cdv A outer s H E hr hgd => by
    have tk := L2N.takes_of (X := cxOf (L2N.CX P w) P w K mg base N_is_laying "is_laying" (defScope s_is_laying) f cdv A outer s H E) (E := E) rfl rfl rfl rfl
    have po := passes_of (X := cxOf (L2N.CX P w) P w K mg base N_is_laying "is_laying" (defScope s_is_laying) f cdv A outer s H E) rfl
    exact dss_cons (ds_expr (de_callH h_look_at_ring hr (by decide) hgd rfl rfl tk (dc_im (de_var (pv 0)) (dc_nil)))) (dss_one (ds_ret (de_callH h_is_right_laying hr (by decide) hgd rfl rfl tk (dc_im (de_var (pv 0)) (dc_im (de_var (pv 1)) (dc_nil))))))
abbrev s_places_of : Stmt := topS 21
abbrev N_places_of : List Str := ["many", "first", "length", "step"]
theorem sc_places_of : FnScope N_places_of ["many", "first", "length"] (defScope s_places_of) := ⟨rfl, rfl, rfl, by decide +kernel, rfl, by decide +kernel, by decide +kernel⟩
theorem ok_places_of (T : Blt mg) (S : Stands K mg "places_of" s_places_of ["many", "first", "length"]) : Has P w K mg base (caOf mg) "places_of" 1 ["many", "first", "length"] [] true F_places_of :=
  S.has sc_places_of (by decide) rfl fun f cdv A outer s H E hr hgd => by
    have tk := L2N.takes_of (X := cxOf (L2N.CX P w) P w K mg base N_places_of "places_of" (defScope s_places_of) f cdv A outer s H E) (E := E) rfl rfl rfl rfl
    have po := passes_of (X := cxOf (L2N.CX P w) P w K mg base N_places_of "places_of" (defScope s_places_of) f cdv A outer s H E) rfl
    exact dss_one (ds_ret (de_lc (own := [("step", 3)]) rfl sc_places_of.nd (di_range1 (by rfl) T.range (da_cons (de_var (pv 2)) (da_nil))) (blkOk_by (own := [("step", 3)]) (N := N_places_of) (sc := defScope s_places_of) (by decide +kernel)) (fun _ _ _ _ _ => dg_name (pg_name (i := 3) sc_places_of.nd rfl (.inl rfl)) (show 3 ∉ ([] : List Nat) by decide)) (fun _ _ _ _ _ => dts_nil) (fun _ _ _ _ _ => de_op od_mod (de_op od_add (de_var (pv 1)) (de_var (pv 3))) (de_var (pv 0))) (by decide)))
theorem okH_places_of (T : Blt mg) (S : Stands K mg "places_of" s_places_of ["many", "first", "length"]) : HasH P w K mg base (caOf mg) "places_of" 1 ["many", "first", "length"] [] true F_places_of :=
  S.hasH sc_places_of (by decide) rfl fun f cdv A outer s H E p hot hr => by
    have tk := L2.takes_of (X := L2H.cxH (L2.CX P w) P w K mg base N_places_of "places_of" (defScope s_places_of) f cdv A outer s H E p) (E := E) rfl rfl rfl rfl
    have po := passes_of (X := L2H.cxH (L2.CX P w) P w K mg base N_places_of "places_of" (defScope s_places_of) f cdv A outer s H E p) rfl
    have hcx : L2H.HotC (L2H.cxH (L2.CX P w) P w K mg base N_places_of "places_of" (defScope s_places_of) f cdv A outer s H E p) := ⟨p, ⟨hot.1, hot.2⟩, List.mem_cons_self⟩
    exact dss_one (ds_ret (de_lcH (own := [("step", 3)]) hcx sc_places_of.nd (diH_range1 (by rfl) T.range (da_cons (de_var (pv 2)) (da_nil))) (blkOk_by (own := [("step", 3)]) (N := N_places_of) (sc := defScope s_places_of) (by decide +kernel)) (fun _ _ _ _ _ => dg_name (pg_name (i := 3) sc_places_of.nd rfl (.inl rfl)) (show 3 ∉ ([] : List Nat) by decide)) (fun _ _ _ _ _ => dts_nil) (fun _ _ _ _ _ => de_op od_mod (de_op od_add (de_var (pv 1)) (de_var (pv 3))) (de_var (pv 0))) (by decide)))
abbrev s_stretch : Stmt := topS 22
abbrev N_stretch : List Str := ["ring", "first", "length"]
theorem sc_stretch : FnScope N_stretch ["ring", "first", "length"] (defScope s_stretch) := ⟨rfl, rfl, rfl, by decide +kernel, rfl, by decide +kernel, by decide +kernel⟩
theorem ok_stretch (T : Blt mg) (S : Stands K mg "stretch" s_stretch ["ring", "first", "length"]) (h_look_at_ring : Has P w K mg base (caOf mg) "look_at_ring" 5 ["ring"] [] true F_look_at_ring) (h_look_at_stretch : Has P w K mg base (caOf mg) "look_at_stretch" 3 ["ring", "first", "length"] [] true F_look_at_stretch) (h_places_of : Has P w K mg base (caOf mg) "places_of" 1 ["many", "first", "length"] [] true F_places_of) : Has P w K mg base (caOf mg) "stretch" 6 ["ring", "first", "length"] [] true F_stretch :=
  S.has sc_stretch (by decide) rfl fun f cdv A outer s H E hr hgd => by
    have tk := L2N.takes_of (X := cxOf (L2N.CX P w) P w K mg base N_stretch "stretch" (defScope s_stretch) f cdv A outer s H E) (E := E) rfl rfl rfl rfl
    have po := passes_of (X := cxOf (L2N.CX P w) P w K mg base N_stretch "stretch" (defScope s_stretch) f cdv A outer s H E) rfl
    exact dss_cons (ds_expr (de_callH h_look_at_ring hr (by decide) hgd rfl rfl tk (dc_im (de_var (pv 0)) (dc_nil)))) (dss_cons (ds_expr (de_callH h_look_at_stretch hr (by decide) hgd rfl rfl tk (dc_im (de_var (pv 0)) (dc_im (de_var (pv 1)) (dc_im (de_var (pv 2)) (dc_nil)))))) (dss_one (ds_ret (de_callH h_places_of hr (by decide) hgd rfl rfl tk (dc_im (de_ix xd_ix (de_var (pv 0)) (de_int) (fun _ _ => rfl)) (dc_im (de_var (pv 1)) (dc_im (de_var (pv 2)) (dc_nil))))))))
abbrev s_stones_in : Stmt := topS 23
abbrev N_stones_in : List Str := ["laying", "first", "length", "place"]
theorem sc_stones_in : FnScope N_stones_in ["laying", "first", "length"] (defScope s_stones_in) := ⟨rfl, rfl, rfl, by decide +kernel, rfl, by decide +kernel, by decide +kernel⟩
theorem ok_stones_in (T : Blt mg) (S : Stands K mg "stones_in" s_stones_in ["laying", "first", "length"]) (h_places_of : Has P w K mg base (caOf mg) "places_of" 1 ["many", "first", "length"] [] true F_places_of) : Has P w K mg base (caOf mg) "stones_in" 2 ["laying", "first", "length"] [] true F_stones_in :=
  S.has sc_stones_in (by decide) rfl fun f cdv A outer s H E hr hgd => by
    have tk := L2N.takes_of (X := cxOf (L2N.CX P w) P w K mg base N_stones_in "stones_in" (defScope s_stones_in) f cdv A outer s H E) (E := E) rfl rfl rfl rfl
    have po := passes_of (X := cxOf (L2N.CX P w) P w K mg base N_stones_in "stones_in" (defScope s_stones_in) f cdv A outer s H E) rfl
    exact dss_one (ds_ret (de_callB (cd_sum rfl) rfl T.sum (by decide +kernel) (da_cons (de_lc (own := [("place", 3)]) rfl sc_stones_in.nd (di_seq (de_callH h_places_of hr (by decide) hgd rfl rfl tk (dc_im (de_callB (cd_len) rfl T.len (by decide +kernel) (da_cons (de_var (pv 0)) (da_nil))) (dc_im (de_var (pv 1)) (dc_im (de_var (pv 2)) (dc_nil)))))) (blkOk_by (own := [("place", 3)]) (N := N_stones_in) (sc := defScope s_stones_in) (by decide +kernel)) (fun _ _ _ _ _ => dg_name (pg_name (i := 3) sc_stones_in.nd rfl (.inl rfl)) (show 3 ∉ ([] : List Nat) by decide)) (fun _ _ _ _ _ => dts_nil) (fun _ _ _ _ _ => de_ix xd_ix (de_var (pv 0)) (de_var (pv 3)) (fun _ _ => rfl)) (by decide)) (da_nil))))
abbrev s_broken_by : Stmt := topS 24
abbrev N_broken_by : List Str := ["ring", "laying", "found", "number", "first", "length", "least", "most", "stones"]
theorem sc_broken_by : FnScope N_broken_by ["ring", "laying"] (defScope s_broken_by) := ⟨rfl, rfl, rfl, by decide +kernel, rfl, by decide +kernel, by decide +kernel⟩
theorem ok_broken_by (T : Blt mg) (S : Stands K mg "broken_by" s_broken_by ["ring", "laying"]) (h_stones_in : Has P w K mg base (caOf mg) "stones_in" 2 ["laying", "first", "length"] [] true F_stones_in) : Has P w K mg base (caOf mg) "broken_by" 3 ["ring", "laying"] [] true F_broken_by :=
  S.has sc_broken_by (by decide) rfl fun f cdv A outer s H E hr hgd => by
    have tk := L2N.takes_of (X := cxOf (L2N.CX P w) P w K mg base N_broken_by "broken_by" (defScope s_broken_by) f cdv A outer s H E) (E := E) rfl rfl rfl rfl
    have po := passes_of (X := cxOf (L2N.CX P w) P w K mg base N_broken_by "broken_by" (defScope s_broken_by) f cdv A outer s H E) rfl
    exact dss_cons (ds_setO (i := 2) sc_broken_by.nd rfl (.inl rfl) (de_lst (da_nil)) (show 2 ∉ ([] : List Nat) by decide)) (dss_cons (ds_for po rfl (di_enum (by rfl) T.enumerate (da_cons (de_ix xd_ix (de_var (pv 0)) (de_int) (fun _ _ => rfl)) (da_nil))) (dg_tup rfl (dgs_cons (dg_name (pg_name (i := 3) sc_broken_by.nd rfl (.inl rfl)) (show 3 ∉ ([] : List Nat) by decide)) (dgs_cons (dg_tup rfl (dgs_cons (dg_name (pg_name (i := 4) sc_broken_by.nd rfl (.inl rfl)) (show 4 ∉ ([] : List Nat) by decide)) (dgs_cons (dg_name (pg_name (i := 5) sc_broken_by.nd rfl (.inl rfl)) (show 5 ∉ ([] : List Nat) by decide)) (dgs_cons (dg_name (pg_name (i := 6) sc_broken_by.nd rfl (.inl rfl)) (show 6 ∉ ([] : List Nat) by decide)) (dgs_cons (dg_name (pg_name (i := 7) sc_broken_by.nd rfl (.inl rfl)) (show 7 ∉ ([] : List Nat) by decide)) (dgs_nil)))))) (dgs_nil)))) (dss_cons (ds_set (i := 8) sc_broken_by.nd rfl (.inl rfl) (de_callH h_stones_in hr (by decide) hgd rfl rfl tk (dc_im (de_var (pv 1)) (dc_im (de_var (pv 4)) (dc_im (de_var (pv 5)) (dc_nil))))) (show 8 ∉ ([] : List Nat) by decide)) (dss_one (ds_if (PW.pt (dw_or (dt_cmp od_lt (de_var (pv 8)) (de_var (pv 6)) (nomark _)) (dw_or1 (PW.pt (dw_and (dt_cmp od_isnt (de_var (pv 7)) (de_non) (nomark _)) (dw_and1 (dt_cmp od_gt (de_var (pv 8)) (de_var (pv 7)) (nomark _)))))))) (dss_one (ds_app (pv 2) (de_tup (da_cons (de_var (pv 3)) (da_cons (de_var (pv 8)) (da_nil)))))) (dss_nil))))) (dss_one (ds_retO (pv 2) (show 2 ∉ ([] : List Nat) by decide))))
abbrev s_broken : Stmt := topS 25
abbrev N_broken : List Str := ["ring", "laying"]
theorem sc_broken : FnScope N_broken ["ring", "laying"] (defScope s_broken) := ⟨rfl, rfl, rfl, by decide +kernel, rfl, by decide +kernel, by decide +kernel⟩
theorem ok_broken (T : Blt mg) (S : Stands K mg "broken" s_broken ["ring", "laying"]) (h_look_at_ring : Has P w K mg base (caOf mg) "look_at_ring" 5 ["ring"] [] true F_look_at_ring) (h_look_at_laying : Has P w K mg base (caOf mg) "look_at_laying" 4 ["ring", "laying"] [] true F_look_at_laying) (h_broken_by : Has P w K mg base (caOf mg) "broken_by" 3 ["ring", "laying"] [] true F_broken_by) : Has P w K mg base (caOf mg) "broken" 6 ["ring", "laying"] [] true F_broken :=
  S.has sc_broken (by decide) rfl fun f cdv A outer s H E hr hgd => by
    have tk := L2N.takes_of (X := cxOf (L2N.CX P w) P w K mg base N_broken "broken" (defScope s_broken) f cdv A outer s H E) (E := E) rfl rfl rfl rfl
    have po := passes_of (X := cxOf (L2N.CX P w) P w K mg base N_broken "broken" (defScope s_broken) f cdv A outer s H E) rfl
    exact dss_cons (ds_expr (de_callH h_look_at_ring hr (by decide) hgd rfl rfl tk (dc_im (de_var (pv 0)) (dc_nil)))) (dss_cons (ds_expr (de_callH h_look_at_laying hr (by decide) hgd rfl rfl tk (dc_im (de_var (pv 0)) (dc_im (de_var (pv 1)) (dc_nil))))) (dss_one (ds_ret (de_callH h_broken_by hr (by decide) hgd rfl rfl tk (dc_im (de_var (pv 0)) (dc_im (de_var (pv 1)) (dc_nil)))))))
abbrev s_demands : Stmt := topS 27
abbrev N_demands : List Str := ["ring", "total", "many", "found", "number", "first", "length", "least", "most", "last", "rounds", "place", "u", "v", "by", "term", "way"]
theorem sc_demands : FnScope N_demands ["ring", "total"] (defScope s_demands) := ⟨rfl, rfl, rfl, by decide +kernel, rfl, by decide +kernel, by decide +kernel⟩
theorem ok_demands (T : Blt mg) (S : Stands K mg "demands" s_demands ["ring", "total"]) : Has P w K mg base (caOf mg) "demands" 1 ["ring", "total"] [] true F_demands :=
  S.has sc_demands (by decide) rfl fun f cdv A outer s H E hr hgd => by
    have tk := L2N.takes_of (X := cxOf (L2N.CX P w) P w K mg base N_demands "demands" (defScope s_demands) f cdv A outer s H E) (E := E) rfl rfl rfl rfl
    have po := passes_of (X := cxOf (L2N.CX P w) P w K mg base N_demands "demands" (defScope s_demands) f cdv A outer s H E) rfl
    exact dss_cons (ds_set (i := 2) sc_demands.nd rfl (.inr rfl) (de_ix xd_ix (de_var (pv 0)) (de_int) (fun _ _ => rfl)) (show 2 ∉ ([] : List Nat) by decide)) (dss_cons (ds_setLcO (i := 3) (own := [("place", 11)]) rfl sc_demands.nd rfl rfl (sw_true rfl rfl rfl (by decide +kernel)) (di_range1 (by rfl) T.range (da_cons (de_var (pv 2)) (da_nil))) (blkOk_by (own := [("place", 11)]) (N := N_demands) (sc := defScope s_demands) (by decide +kernel)) (fun _ _ _ _ _ => dg_name (pg_name (i := 11) sc_demands.nd rfl (.inl rfl)) (show 11 ∉ ([] : List Nat) by decide)) (fun _ _ _ _ _ => dts_nil) (fun _ _ _ _ _ => de_tup (da_cons (de_var (pv 11)) (da_cons (de_op od_mod (de_op od_add (de_var (pv 11)) (de_int)) (de_var (pv 2))) (da_cons (de_int) (da_cons (de_non) (da_cons (de_int) (da_cons (de_op od_fdiv (de_op od_add (de_var (pv 11)) (de_int)) (de_var (pv 2))) (da_nil)))))))) (by decide) (show 3 ∉ ([] : List Nat) by decide)) (dss_cons (ds_for po rfl (di_enum (by rfl) T.enumerate (da_cons (de_ix xd_ix (de_var (pv 0)) (de_int) (fun _ _ => rfl)) (da_nil))) (dg_tup rfl (dgs_cons (dg_name (pg_name (i := 4) sc_demands.nd rfl (.inl rfl)) (show 4 ∉ ([] : List Nat) by decide)) (dgs_cons (dg_tup rfl (dgs_cons (dg_name (pg_name (i := 5) sc_demands.nd rfl (.inl rfl)) (show 5 ∉ ([] : List Nat) by decide)) (dgs_cons (dg_name (pg_name (i := 6) sc_demands.nd rfl (.inl rfl)) (show 6 ∉ ([] : List Nat) by decide)) (dgs_cons (dg_name (pg_name (i := 7) sc_demands.nd rfl (.inl rfl)) (show 7 ∉ ([] : List Nat) by decide)) (dgs_cons (dg_name (pg_name (i := 8) sc_demands.nd rfl (.inl rfl)) (show 8 ∉ ([] : List Nat) by decide)) (dgs_nil)))))) (dgs_nil)))) (dss_cons (ds_par (i := 9) (j := 10) rfl sc_demands.nd rfl rfl (by decide) rfl rfl (da_cons (de_op od_mod (de_op od_add (de_var (pv 5)) (de_var (pv 6))) (de_var (pv 2))) (da_cons (de_op od_fdiv (de_op od_add (de_var (pv 5)) (de_var (pv 6))) (de_var (pv 2))) (da_nil))) (show 9 ∉ ([] : List Nat) by decide) (show 10 ∉ ([] : List Nat) by decide)) (dss_cons (ds_app (pv 3) (de_tup (da_cons (de_var (pv 5)) (da_cons (de_var (pv 9)) (da_cons (de_var (pv 7)) (da_cons (de_var (pv 4)) (da_cons (de_int) (da_cons (de_var (pv 10)) (da_nil))))))))) (dss_one (ds_if (dt_cmp od_isnt (de_var (pv 8)) (de_non) (nomark _)) (dss_one (ds_app (pv 3) (de_tup (da_cons (de_var (pv 9)) (da_cons (de_var (pv 5)) (da_cons (de_un ud_neg (de_var (pv 8))) (da_cons (de_var (pv 4)) (da_cons (de_un ud_neg (de_int)) (da_cons (de_var (pv 10)) (da_nil)))))))))) (dss_nil)))))) (dss_frz (i := 3) (dss_one (ds_ret (de_lc (own := [("u", 12), ("v", 13), ("by", 14), ("term", 15), ("way", 16), ("rounds", 10)]) rfl sc_demands.nd (di_seq (de_var (pv 3))) (blkOk_by (own := [("u", 12), ("v", 13), ("by", 14), ("term", 15), ("way", 16), ("rounds", 10)]) (N := N_demands) (sc := defScope s_demands) (by decide +kernel)) (fun _ _ _ _ _ => dg_tup rfl (dgs_cons (dg_name (pg_name (i := 12) sc_demands.nd rfl (.inl rfl)) (show 12 ∉ ([] : List Nat) by decide)) (dgs_cons (dg_name (pg_name (i := 13) sc_demands.nd rfl (.inl rfl)) (show 13 ∉ ([] : List Nat) by decide)) (dgs_cons (dg_name (pg_name (i := 14) sc_demands.nd rfl (.inl rfl)) (show 14 ∉ ([] : List Nat) by decide)) (dgs_cons (dg_name (pg_name (i := 15) sc_demands.nd rfl (.inl rfl)) (show 15 ∉ ([] : List Nat) by decide)) (dgs_cons (dg_name (pg_name (i := 16) sc_demands.nd rfl (.inl rfl)) (show 16 ∉ ([] : List Nat) by decide)) (dgs_cons (dg_name (pg_name (i := 10) sc_demands.nd rfl (.inl rfl)) (show 10 ∉ ([] : List Nat) by decide)) (dgs_nil)))))))) (fun _ _ _ _ _ => dts_nil) (fun _ _ _ _ _ => de_tup (da_cons (de_var (pv 12)) (da_cons (de_var (pv 13)) (da_cons (de_op od_sub (de_var (pv 14)) (de_op od_mul (de_op od_mul (de_var (pv 16)) (de_var (pv 10))) (de_var (pv 1)))) (da_cons (de_var (pv 15)) (da_cons (de_var (pv 16)) (da_cons (de_var (pv 10)) (da_nil)))))))) (by decide)))) (show 3 ∉ ([] : List Nat) by decide))))
abbrev s_contradiction : Stmt := topS 28
abbrev N_contradiction : List Str := ["many", "edges", "heights", "behind", "last", "turn", "edge", "found"]
theorem sc_contradiction : FnScope N_contradiction ["many", "edges"] (defScope s_contradiction) := ⟨rfl, rfl, rfl, by decide +kernel, rfl, by decide +kernel, by decide +kernel⟩
theorem ok_contradiction (T : Blt mg) (S : Stands K mg "contradiction" s_contradiction ["many", "edges"]) : Has P w K mg base (caOf mg) "contradiction" 1 ["many", "edges"] [] true F_contradiction :=
  S.has sc_contradiction (by decide) rfl fun f cdv A outer s H E hr hgd => by
    have tk := L2N.takes_of (X := cxOf (L2N.CX P w) P w K mg base N_contradiction "contradiction" (defScope s_contradiction) f cdv A outer s H E) (E := E) rfl rfl rfl rfl
    have po := passes_of (X := cxOf (L2N.CX P w) P w K mg base N_contradiction "contradiction" (defScope s_contradiction) f cdv A outer s H E) rfl
    exact dss_cons (ds_setO (i := 2) sc_contradiction.nd rfl (.inl rfl) (de_rep (de_lst (da_cons (de_int) (da_nil))) (de_var (pv 0))) (show 2 ∉ ([] : List Nat) by decide)) (dss_cons (ds_setO (i := 3) sc_contradiction.nd rfl (.inl rfl) (de_rep (de_lst (da_cons (de_non) (da_nil))) (de_var (pv 0))) (show 3 ∉ ([] : List Nat) by decide)) (dss_cons (ds_set (i := 4) sc_contradiction.nd rfl (.inl rfl) (de_non) (show 4 ∉ ([] : List Nat) by decide)) (dss_cons (ds_for po rfl (di_range1 (by rfl) T.range (da_cons (de_op od_add (de_var (pv 0)) (de_int)) (da_nil))) (dg_name (pg_name (i := 5) sc_contradiction.nd rfl (.inl rfl)) (show 5 ∉ ([] : List Nat) by decide)) (dss_cons (ds_set (i := 4) sc_contradiction.nd rfl (.inl rfl) (de_non) (show 4 ∉ ([] : List Nat) by decide)) (dss_one (ds_for po rfl (di_seq (de_var (pv 1))) (dg_name (pg_name (i := 6) sc_contradiction.nd rfl (.inl rfl)) (show 6 ∉ ([] : List Nat) by decide)) (dss_one (ds_if (dt_cmp od_gt (de_op od_add (de_ixO (pv 2) (de_ix xd_ix (de_var (pv 6)) (de_int) (fun _ _ => rfl)) (fun _ _ => rfl)) (de_ix xd_ix (de_var (pv 6)) (de_int) (fun _ _ => rfl))) (de_ixO (pv 2) (de_ix xd_ix (de_var (pv 6)) (de_int) (fun _ _ => rfl)) (fun _ _ => rfl)) (nomark _)) (dss_cons (ds_sto (pv 2) (de_ix xd_ix (de_var (pv 6)) (de_int) (fun _ _ => rfl)) (de_op od_add (de_ixO (pv 2) (de_ix xd_ix (de_var (pv 6)) (de_int) (fun _ _ => rfl)) (fun _ _ => rfl)) (de_ix xd_ix (de_var (pv 6)) (de_int) (fun _ _ => rfl))) (pg_sub (pv 2) (de_ix xd_ix (de_var (pv 6)) (de_int) (fun _ _ => rfl)) set_list)) (dss_cons (ds_sto (pv 3) (de_ix xd_ix (de_var (pv 6)) (de_int) (fun _ _ => rfl)) (de_var (pv 6)) (pg_sub (pv 3) (de_ix xd_ix (de_var (pv 6)) (de_int) (fun _ _ => rfl)) set_list)) (dss_one (ds_set (i := 4) sc_contradiction.nd rfl (.inl rfl) (de_ix xd_ix (de_var (pv 6)) (de_int) (fun _ _ => rfl)) (show 4 ∉ ([] : List Nat) by decide))))) (dss_nil))))))) (dss_cons (ds_if (dt_cmp od_is (de_var (pv 4)) (de_non) (nomark _)) (dss_one (ds_ret (de_non))) (dss_nil)) (dss_cons (ds_for po rfl (di_range1 (by rfl) T.range (da_cons (de_var (pv 0)) (da_nil))) (dg_name (pg_name (i := 5) sc_contradiction.nd rfl (.inl rfl)) (show 5 ∉ ([] : List Nat) by decide)) (dss_one (ds_set (i := 4) sc_contradiction.nd rfl (.inl rfl) (de_ix xd_ix (de_ixO (pv 3) (de_var (pv 4)) (fun _ _ => rfl)) (de_int) (fun _ _ => rfl)) (show 4 ∉ ([] : List Nat) by decide)))) (dss_cons (ds_setO (i := 7) sc_contradiction.nd rfl (.inl rfl) (de_lst (da_cons (de_ixO (pv 3) (de_var (pv 4)) (fun _ _ => rfl)) (da_nil))) (show 7 ∉ ([] : List Nat) by decide)) (dss_cons (ds_while po (dt_cmp (od_ne hr.units) (de_ix xd_ix (de_ixO (pv 7) (de_un ud_neg (de_int)) (fun _ _ => rfl)) (de_int) (fun _ _ => rfl)) (de_var (pv 4)) (nomark _)) (dss_one (ds_app (pv 7) (de_ixO (pv 3) (de_ix xd_ix (de_ixO (pv 7) (de_un ud_neg (de_int)) (fun _ _ => rfl)) (de_int) (fun _ _ => rfl)) (fun _ _ => rfl))))) (dss_one (ds_retO (pv 7) (show 7 ∉ ([] : List Nat) by decide))))))))))
abbrev s_found_bar : Stmt := topS 29
abbrev N_found_bar : List Str := ["ring", "total", "walk", "ups", "downs", "edge"]
theorem sc_found_bar : FnScope N_found_bar ["ring", "total"] (defScope s_found_bar) := ⟨rfl, rfl, rfl, by decide +kernel, rfl, by decide +kernel, by decide +kernel⟩
theorem ok_found_bar (T : Blt mg) (S : Stands K mg "found_bar" s_found_bar ["ring", "total"]) (h_contradiction : Has P w K mg base (caOf mg) "contradiction" 1 ["many", "edges"] [] true F_contradiction) (h_demands : Has P w K mg base (caOf mg) "demands" 1 ["ring", "total"] [] true F_demands) : Has P w K mg base (caOf mg) "found_bar" 2 ["ring", "total"] [] true F_found_bar :=
  S.has sc_found_bar (by decide) rfl fun f cdv A outer s H E hr hgd => by
    have tk := L2N.takes_of (X := cxOf (L2N.CX P w) P w K mg base N_found_bar "found_bar" (defScope s_found_bar) f cdv A outer s H E) (E := E) rfl rfl rfl rfl
    have po := passes_of (X := cxOf (L2N.CX P w) P w K mg base N_found_bar "found_bar" (defScope s_found_bar) f cdv A outer s H E) rfl
    exact dss_cons (ds_set (i := 2) sc_found_bar.nd rfl (.inl rfl) (de_callH h_contradiction hr (by decide) hgd rfl rfl tk (dc_im (de_ix xd_ix (de_var (pv 0)) (de_int) (fun _ _ => rfl)) (dc_im (de_callH h_demands hr (by decide) hgd rfl rfl tk (dc_im (de_var (pv 0)) (dc_im (de_var (pv 1)) (dc_nil)))) (dc_nil)))) (show 2 ∉ ([] : List Nat) by decide)) (dss_cons (ds_if (dt_cmp od_is (de_var (pv 2)) (de_non) (nomark _)) (dss_one (ds_ret (de_non))) (dss_nil)) (dss_cons (ds_set (i := 3) sc_found_bar.nd rfl (.inl rfl) (de_callB (cd_sorted) rfl T.sorted (by decide +kernel) (da_cons (de_lc (own := [("edge", 5)]) rfl sc_found_bar.nd (di_seq (de_var (pv 2))) (blkOk_by (own := [("edge", 5)]) (N := N_found_bar) (sc := defScope s_found_bar) (by decide +kernel)) (fun _ _ _ _ _ => dg_name (pg_name (i := 5) sc_found_bar.nd rfl (.inl rfl)) (show 5 ∉ ([] : List Nat) by decide)) (fun _ _ _ _ _ => dts_one (PW.pt (dw_and (dt_cmp od_isnt (de_ix xd_ix (de_var (pv 5)) (de_int) (fun _ _ => rfl)) (de_non) (nomark _)) (dw_and1 (dt_cmp (od_eq hr.units) (de_ix xd_ix (de_var (pv 5)) (de_int) (fun _ _ => rfl)) (de_int) (nomark _)))))) (fun _ _ _ _ _ => de_ix xd_ix (de_var (pv 5)) (de_int) (fun _ _ => rfl)) (by decide)) (da_nil))) (show 3 ∉ ([] : List Nat) by decide)) (dss_cons (ds_set (i := 4) sc_found_bar.nd rfl (.inl rfl) (de_callB (cd_sorted) rfl T.sorted (by decide +kernel) (da_cons (de_lc (own := [("edge", 5)]) rfl sc_found_bar.nd (di_seq (de_var (pv 2))) (blkOk_by (own := [("edge", 5)]) (N := N_found_bar) (sc := defScope s_found_bar) (by decide +kernel)) (fun _ _ _ _ _ => dg_name (pg_name (i := 5) sc_found_bar.nd rfl (.inl rfl)) (show 5 ∉ ([] : List Nat) by decide)) (fun _ _ _ _ _ => dts_one (dt_cmp (od_eq hr.units) (de_ix xd_ix (de_var (pv 5)) (de_int) (fun _ _ => rfl)) (de_un ud_neg (de_int)) (nomark _))) (fun _ _ _ _ _ => de_ix xd_ix (de_var (pv 5)) (de_int) (fun _ _ => rfl)) (by decide)) (da_nil))) (show 4 ∉ ([] : List Nat) by decide)) (dss_one (ds_ret (de_tup (da_cons (de_var (pv 3)) (da_cons (de_var (pv 4)) (da_cons (de_callB (cd_sum rfl) rfl T.sum (by decide +kernel) (da_cons (de_lc (own := [("edge", 5)]) rfl sc_found_bar.nd (di_seq (de_var (pv 2))) (blkOk_by (own := [("edge", 5)]) (N := N_found_bar) (sc := defScope s_found_bar) (by decide +kernel)) (fun _ _ _ _ _ => dg_name (pg_name (i := 5) sc_found_bar.nd rfl (.inl rfl)) (show 5 ∉ ([] : List Nat) by decide)) (fun _ _ _ _ _ => dts_nil) (fun _ _ _ _ _ => de_op od_mul (de_ix xd_ix (de_var (pv 5)) (de_int) (fun _ _ => rfl)) (de_ix xd_ix (de_var (pv 5)) (de_int) (fun _ _ => rfl))) (by decide)) (da_nil))) (da_nil))))))))))
abbrev s_heights_from : Stmt := topS 30
abbrev N_heights_from : List Str := ["many", "edges", "place", "heights", "turn", "edge", "other"]
theorem sc_heights_from : FnScope N_heights_from ["many", "edges", "place"] (defScope s_heights_from) := ⟨rfl, rfl, rfl, by decide +kernel, rfl, by decide +kernel, by decide +kernel⟩
theorem ok_heights_from (T : Blt mg) (S : Stands K mg "heights_from" s_heights_from ["many", "edges", "place"]) : Has P w K mg base (caOf mg) "heights_from" 1 ["many", "edges", "place"] [] true F_heights_from :=
  S.has sc_heights_from (by decide) rfl fun f cdv A outer s H E hr hgd => by
    have tk := L2N.takes_of (X := cxOf (L2N.CX P w) P w K mg base N_heights_from "heights_from" (defScope s_heights_from) f cdv A outer s H E) (E := E) rfl rfl rfl rfl
    have po := passes_of (X := cxOf (L2N.CX P w) P w K mg base N_heights_from "heights_from" (defScope s_heights_from) f cdv A outer s H E) rfl
    exact dss_cons (ds_setDk (j := 3) (i := 2) (v := .int 0) (c := .int 0) sc_heights_from.nd rfl (.inr rfl) (pv 2) pe_int (fun _ _ => .int 0) (show 3 ∉ ([] : List Nat) by decide)) (dss_cons (ds_for po rfl (di_range1 (by rfl) T.range (da_cons (de_var (pv 0)) (da_nil))) (dg_name (pg_name (i := 4) sc_heights_from.nd rfl (.inl rfl)) (show 4 ∉ ([] : List Nat) by decide)) (dss_one (ds_for po rfl (di_seq (de_var (pv 1))) (dg_name (pg_name (i := 5) sc_heights_from.nd rfl (.inl rfl)) (show 5 ∉ ([] : List Nat) by decide)) (dss_one (ds_if (dt_din (u1 hr) (de_ix xd_ix (de_var (pv 5)) (de_int) (fun _ _ => rfl)) (pv 3)) (dss_cons (ds_set (i := 6) sc_heights_from.nd rfl (.inl rfl) (de_op od_add (de_dix (u1 hr) (pv 3) (de_ix xd_ix (de_var (pv 5)) (de_int) (fun _ _ => rfl)) (fun _ _ => rfl)) (de_ix xd_ix (de_var (pv 5)) (de_int) (fun _ _ => rfl))) (show 6 ∉ ([] : List Nat) by decide)) (dss_one (ds_dsto (u1 hr) (pv 3) (de_ix xd_ix (de_var (pv 5)) (de_int) (fun _ _ => rfl)) (de_callB (cd_max rfl) rfl T.max (by decide +kernel) (da_cons (de_dget2 (u1 hr) (pv 3) (de_ix xd_ix (de_var (pv 5)) (de_int) (fun _ _ => rfl)) (de_var (pv 6)) ⟨rfl, rfl, rfl, rfl⟩) (da_cons (de_var (pv 6)) (da_nil))))))) (dss_nil)))))) (dss_one (ds_ret (de_lc (own := [("other", 6)]) rfl sc_heights_from.nd (di_range1 (by rfl) T.range (da_cons (de_var (pv 0)) (da_nil))) (blkOk_by (own := [("other", 6)]) (N := N_heights_from) (sc := defScope s_heights_from) (by decide +kernel)) (fun _ _ _ _ _ => dg_name (pg_name (i := 6) sc_heights_from.nd rfl (.inl rfl)) (show 6 ∉ ([] : List Nat) by decide)) (fun _ _ _ _ _ => dts_nil) (fun _ _ _ _ _ => de_dix (u1 hr) (pv 3) (de_var (pv 6)) (fun _ _ => rfl)) (by decide)))))
abbrev s_turned : Stmt := topS 31
abbrev N_turned : List Str := ["edges", "u", "v", "by", "term", "way", "rounds"]
theorem sc_turned : FnScope N_turned ["edges"] (defScope s_turned) := ⟨rfl, rfl, rfl, by decide +kernel, rfl, by decide +kernel, by decide +kernel⟩
theorem ok_turned (T : Blt mg) (S : Stands K mg "turned" s_turned ["edges"]) : Has P w K mg base (caOf mg) "turned" 1 ["edges"] [] true F_turned :=
  S.has sc_turned (by decide) rfl fun f cdv A outer s H E hr hgd => by
    have tk := L2N.takes_of (X := cxOf (L2N.CX P w) P w K mg base N_turned "turned" (defScope s_turned) f cdv A outer s H E) (E := E) rfl rfl rfl rfl
    have po := passes_of (X := cxOf (L2N.CX P w) P w K mg base N_turned "turned" (defScope s_turned) f cdv A outer s H E) rfl
    exact dss_one (ds_ret (de_lc (own := [("u", 1), ("v", 2), ("by", 3), ("term", 4), ("way", 5), ("rounds", 6)]) rfl sc_turned.nd (di_seq (de_var (pv 0))) (blkOk_by (own := [("u", 1), ("v", 2), ("by", 3), ("term", 4), ("way", 5), ("rounds", 6)]) (N := N_turned) (sc := defScope s_turned) (by decide +kernel)) (fun _ _ _ _ _ => dg_tup rfl (dgs_cons (dg_name (pg_name (i := 1) sc_turned.nd rfl (.inl rfl)) (show 1 ∉ ([] : List Nat) by decide)) (dgs_cons (dg_name (pg_name (i := 2) sc_turned.nd rfl (.inl rfl)) (show 2 ∉ ([] : List Nat) by decide)) (dgs_cons (dg_name (pg_name (i := 3) sc_turned.nd rfl (.inl rfl)) (show 3 ∉ ([] : List Nat) by decide)) (dgs_cons (dg_name (pg_name (i := 4) sc_turned.nd rfl (.inl rfl)) (show 4 ∉ ([] : List Nat) by decide)) (dgs_cons (dg_name (pg_name (i := 5) sc_turned.nd rfl (.inl rfl)) (show 5 ∉ ([] : List Nat) by decide)) (dgs_cons (dg_name (pg_name (i := 6) sc_turned.nd rfl (.inl rfl)) (show 6 ∉ ([] : List Nat) by decide)) (dgs_nil)))))))) (fun _ _ _ _ _ => dts_nil) (fun _ _ _ _ _ => de_tup (da_cons (de_var (pv 2)) (da_cons (de_var (pv 1)) (da_cons (de_var (pv 3)) (da_cons (de_var (pv 4)) (da_cons (de_var (pv 5)) (da_cons (de_var (pv 6)) (da_nil)))))))) (by decide)))
abbrev s_laid : Stmt := topS 32
abbrev N_laid : List Str := ["sums", "total", "ahead", "after"]
theorem sc_laid : FnScope N_laid ["sums", "total"] (defScope s_laid) := ⟨rfl, rfl, rfl, by decide +kernel, rfl, by decide +kernel, by decide +kernel⟩
theorem ok_laid (T : Blt mg) (S : Stands K mg "laid" s_laid ["sums", "total"]) : Has P w K mg base (caOf mg) "laid" 1 ["sums", "total"] [] true F_laid :=
  S.has sc_laid (by decide) rfl fun f cdv A outer s H E hr hgd => by
    have tk := L2N.takes_of (X := cxOf (L2N.CX P w) P w K mg base N_laid "laid" (defScope s_laid) f cdv A outer s H E) (E := E) rfl rfl rfl rfl
    have po := passes_of (X := cxOf (L2N.CX P w) P w K mg base N_laid "laid" (defScope s_laid) f cdv A outer s H E) rfl
    exact dss_one (ds_ret (de_callTy cd_tuple rfl T.tuple (by decide +kernel) (da_cons (de_lc (own := [("ahead", 2), ("after", 3)]) rfl sc_laid.nd (di_zip (by rfl) T.zip (da_cons (de_var (pv 0)) (da_cons (de_lst (da_star (de_slice sd_sl (de_var (pv 0)) (do_some (de_int)) (do_none)) (da_cons (de_var (pv 1)) (da_nil)))) (da_nil)))) (blkOk_by (own := [("ahead", 2), ("after", 3)]) (N := N_laid) (sc := defScope s_laid) (by decide +kernel)) (fun _ _ _ _ _ => dg_tup rfl (dgs_cons (dg_name (pg_name (i := 2) sc_laid.nd rfl (.inl rfl)) (show 2 ∉ ([] : List Nat) by decide)) (dgs_cons (dg_name (pg_name (i := 3) sc_laid.nd rfl (.inl rfl)) (show 3 ∉ ([] : List Nat) by decide)) (dgs_nil)))) (fun _ _ _ _ _ => dts_nil) (fun _ _ _ _ _ => de_op od_sub (de_var (pv 3)) (de_var (pv 2))) (by decide)) (da_nil))))
abbrev s_found_lay : Stmt := topS 33
abbrev N_found_lay : List Str := ["ring", "total", "bar", "edges", "latest", "earliest", "height"]
theorem sc_found_lay : FnScope N_found_lay ["ring", "total"] (defScope s_found_lay) := ⟨rfl, rfl, rfl, by decide +kernel, rfl, by decide +kernel, by decide +kernel⟩
theorem ok_found_lay (T : Blt mg) (S : Stands K mg "found_lay" s_found_lay ["ring", "total"]) (h_found_bar : Has P w K mg base (caOf mg) "found_bar" 2 ["ring", "total"] [] true F_found_bar) (h_demands : Has P w K mg base (caOf mg) "demands" 1 ["ring", "total"] [] true F_demands) (h_laid : Has P w K mg base (caOf mg) "laid" 1 ["sums", "total"] [] true F_laid) (h_heights_from : Has P w K mg base (caOf mg) "heights_from" 1 ["many", "edges", "place"] [] true F_heights_from) (h_turned : Has P w K mg base (caOf mg) "turned" 1 ["edges"] [] true F_turned) : Has P w K mg base (caOf mg) "found_lay" 3 ["ring", "total"] [] true F_found_lay :=
  S.has sc_found_lay (by decide) rfl fun f cdv A outer s H E hr hgd => by
    have tk := L2N.takes_of (X := cxOf (L2N.CX P w) P w K mg base N_found_lay "found_lay" (defScope s_found_lay) f cdv A outer s H E) (E := E) rfl rfl rfl rfl
    have po := passes_of (X := cxOf (L2N.CX P w) P w K mg base N_found_lay "found_lay" (defScope s_found_lay) f cdv A outer s H E) rfl
    exact dss_cons (ds_set (i := 2) sc_found_lay.nd rfl (.inl rfl) (de_callH h_found_bar hr (by decide) hgd rfl rfl tk (dc_im (de_var (pv 0)) (dc_im (de_var (pv 1)) (dc_nil)))) (show 2 ∉ ([] : List Nat) by decide)) (dss_cons (ds_if (dt_cmp od_isnt (de_var (pv 2)) (de_non) (nomark _)) (dss_one (ds_ret (de_tup (da_cons (de_str) (da_cons (de_var (pv 2)) (da_nil)))))) (dss_nil)) (dss_cons (ds_set (i := 3) sc_found_lay.nd rfl (.inl rfl) (de_callH h_demands hr (by decide) hgd rfl rfl tk (dc_im (de_var (pv 0)) (dc_im (de_var (pv 1)) (dc_nil)))) (show 3 ∉ ([] : List Nat) by decide)) (dss_cons (ds_set (i := 4) sc_found_lay.nd rfl (.inl rfl) (de_callH h_laid hr (by decide) hgd rfl rfl tk (dc_im (de_callH h_heights_from hr (by decide) hgd rfl rfl tk (dc_im (de_ix xd_ix (de_var (pv 0)) (de_int) (fun _ _ => rfl)) (dc_im (de_var (pv 3)) (dc_im (de_int) (dc_nil))))) (dc_im (de_var (pv 1)) (dc_nil)))) (show 4 ∉ ([] : List Nat) by decide)) (dss_cons (ds_set (i := 5) sc_found_lay.nd rfl (.inl rfl) (de_callH h_laid hr (by decide) hgd rfl rfl tk (dc_im (de_lc (own := [("height", 6)]) rfl sc_found_lay.nd (di_seq (de_callH h_heights_from hr (by decide) hgd rfl rfl tk (dc_im (de_ix xd_ix (de_var (pv 0)) (de_int) (fun _ _ => rfl)) (dc_im (de_callH h_turned hr (by decide) hgd rfl rfl tk (dc_im (de_var (pv 3)) (dc_nil))) (dc_im (de_int) (dc_nil)))))) (blkOk_by (own := [("height", 6)]) (N := N_found_lay) (sc := defScope s_found_lay) (by decide +kernel)) (fun _ _ _ _ _ => dg_name (pg_name (i := 6) sc_found_lay.nd rfl (.inl rfl)) (show 6 ∉ ([] : List Nat) by decide)) (fun _ _ _ _ _ => dts_nil) (fun _ _ _ _ _ => de_un ud_neg (de_var (pv 6))) (by decide)) (dc_im (de_var (pv 1)) (dc_nil)))) (show 5 ∉ ([] : List Nat) by decide)) (dss_one (ds_ret (de_tup (da_cons (de_str) (da_cons (de_var (pv 4)) (da_cons (de_var (pv 5)) (da_nil)))))))))))
abbrev s_lay : Stmt := topS 34
abbrev N_lay : List Str := ["ring", "total"]
theorem sc_lay : FnScope N_lay ["ring", "total"] (defScope s_lay) := ⟨rfl, rfl, rfl, by decide +kernel, rfl, by decide +kernel, by decide +kernel⟩
theorem ok_lay (T : Blt mg) (S : Stands K mg "lay" s_lay ["ring", "total"]) (h_look_at_ring : Has P w K mg base (caOf mg) "look_at_ring" 5 ["ring"] [] true F_look_at_ring) (h_look_at_total : Has P w K mg base (caOf mg) "look_at_total" 3 ["total"] [] true F_look_at_total) (h_found_lay : Has P w K mg base (caOf mg) "found_lay" 3 ["ring", "total"] [] true F_found_lay) : Has P w K mg base (caOf mg) "lay" 6 ["ring", "total"] [] true F_lay :=
  S.has sc_lay (by decide) rfl fun f cdv A outer s H E hr hgd => by
    have tk := L2N.takes_of (X := cxOf (L2N.CX P w) P w K mg base N_lay "lay" (defScope s_lay) f cdv A outer s H E) (E := E) rfl rfl rfl rfl
    have po := passes_of (X := cxOf (L2N.CX P w) P w K mg base N_lay "lay" (defScope s_lay) f cdv A outer s H E) rfl
    exact dss_cons (ds_expr (de_callH h_look_at_ring hr (by decide) hgd rfl rfl tk (dc_im (de_var (pv 0)) (dc_nil)))) (dss_cons (ds_expr (de_callH h_look_at_total hr (by decide) hgd rfl rfl tk (dc_im (de_var (pv 1)) (dc_nil)))) (dss_one (ds_ret (de_callH h_found_lay hr (by decide) hgd rfl rfl tk (dc_im (de_var (pv 0)) (dc_im (de_var (pv 1)) (dc_nil)))))))
abbrev s_is_numbers : Stmt := topS 35
abbrev N_is_numbers : List Str := ["ring", "thing", "term", "one", "other"]
theorem sc_is_numbers : FnScope N_is_numbers ["ring", "thing"] (defScope s_is_numbers) := ⟨rfl, rfl, rfl, by decide +kernel, rfl, by decide +kernel, by decide +kernel⟩
theorem ok_is_numbers (T : Blt mg) (S : Stands K mg "is_numbers" s_is_numbers ["ring", "thing"]) (h_is_whole : Has P w K mg base (caOf mg) "is_whole" 1 ["thing"] [] true F_is_whole) : Has P w K mg base (caOf mg) "is_numbers" 2 ["ring", "thing"] [] true F_is_numbers :=
  S.has sc_is_numbers (by decide) rfl fun f cdv A outer s H E hr hgd => by
    have tk := L2N.takes_of (X := cxOf (L2N.CX P w) P w K mg base N_is_numbers "is_numbers" (defScope s_is_numbers) f cdv A outer s H E) (E := E) rfl rfl rfl rfl
    have po := passes_of (X := cxOf (L2N.CX P w) P w K mg base N_is_numbers "is_numbers" (defScope s_is_numbers) f cdv A outer s H E) rfl
    exact dss_cons (ds_if (PW.pt (dw_or (dt_not (dt_val (de_isi (T := "list") (de_var (pv 1)) rfl T.isinstance rfl T.list (by decide +kernel)))) (dw_or1 (dt_not (dt_val (de_callB (cd_all rfl) rfl T.all (by decide +kernel) (da_cons (de_lc (own := [("term", 2)]) rfl sc_is_numbers.nd (di_seq (de_var (pv 1))) (blkOk_by (own := [("term", 2)]) (N := N_is_numbers) (sc := defScope s_is_numbers) (by decide +kernel)) (fun _ _ _ _ _ => dg_name (pg_name (i := 2) sc_is_numbers.nd rfl (.inl rfl)) (show 2 ∉ ([] : List Nat) by decide)) (fun _ _ _ _ _ => dts_nil) (fun _ _ _ _ _ => de_and (de_callH h_is_whole hr (by decide) hgd rfl rfl takes_no (dc_im (de_var (pv 2)) (dc_nil))) (de_one (de_chain od_le od_lt (de_int) (de_var (pv 2)) (de_callB (cd_len) rfl T.len (by decide +kernel) (da_cons (de_ix xd_ix (de_var (pv 0)) (de_int) (fun _ _ => rfl)) (da_nil)))))) (by decide)) (da_nil)))))))) (dss_one (ds_ret (de_bl))) (dss_nil)) (dss_one (ds_ret (de_callB (cd_all rfl) rfl T.all (by decide +kernel) (da_cons (de_lc (own := [("one", 3), ("other", 4)]) rfl sc_is_numbers.nd (di_zip (by rfl) T.zip (da_cons (de_var (pv 1)) (da_cons (de_slice sd_sl (de_var (pv 1)) (do_some (de_int)) (do_none)) (da_nil)))) (blkOk_by (own := [("one", 3), ("other", 4)]) (N := N_is_numbers) (sc := defScope s_is_numbers) (by decide +kernel)) (fun _ _ _ _ _ => dg_tup rfl (dgs_cons (dg_name (pg_name (i := 3) sc_is_numbers.nd rfl (.inl rfl)) (show 3 ∉ ([] : List Nat) by decide)) (dgs_cons (dg_name (pg_name (i := 4) sc_is_numbers.nd rfl (.inl rfl)) (show 4 ∉ ([] : List Nat) by decide)) (dgs_nil)))) (fun _ _ _ _ _ => dts_nil) (fun _ _ _ _ _ => de_cmp od_le (de_var (pv 3)) (de_var (pv 4)) (nomark _)) (by decide)) (da_nil)))))
theorem okH_is_numbers (T : Blt mg) (S : Stands K mg "is_numbers" s_is_numbers ["ring", "thing"]) (hH_is_whole : HasH P w K mg base (caOf mg) "is_whole" 1 ["thing"] [] true F_is_whole) : HasH P w K mg base (caOf mg) "is_numbers" 2 ["ring", "thing"] [] true F_is_numbers :=
  S.hasH sc_is_numbers (by decide) rfl fun f cdv A outer s H E p hot hr => by
    have tk := L2.takes_of (X := L2H.cxH (L2.CX P w) P w K mg base N_is_numbers "is_numbers" (defScope s_is_numbers) f cdv A outer s H E p) (E := E) rfl rfl rfl rfl
    have po := passes_of (X := L2H.cxH (L2.CX P w) P w K mg base N_is_numbers "is_numbers" (defScope s_is_numbers) f cdv A outer s H E p) rfl
    have hcx : L2H.HotC (L2H.cxH (L2.CX P w) P w K mg base N_is_numbers "is_numbers" (defScope s_is_numbers) f cdv A outer s H E p) := ⟨p, ⟨hot.1, hot.2⟩, List.mem_cons_self⟩
    exact dss_cons (ds_if (PW.pt (dw_or (dt_not (dt_val (de_isi (T := "list") (de_var (pv 1)) rfl T.isinstance rfl T.list (by decide +kernel)))) (dw_or1 (dt_not (dt_val (de_callB (cd_allH hcx) rfl T.all (by decide +kernel) (da_cons (de_lcH (own := [("term", 2)]) hcx sc_is_numbers.nd (diH_seq (de_var (pv 1))) (blkOk_by (own := [("term", 2)]) (N := N_is_numbers) (sc := defScope s_is_numbers) (by decide +kernel)) (fun _ _ _ _ _ => dg_name (pg_name (i := 2) sc_is_numbers.nd rfl (.inl rfl)) (show 2 ∉ ([] : List Nat) by decide)) (fun _ _ _ _ _ => dts_nil) (fun _ _ _ _ _ => de_and (de_callHH hH_is_whole hr (by decide) hcx rfl rfl takes_noH (dc_im (de_var (pv 2)) (dc_nil))) (de_one (de_chain od_le od_lt (de_int) (de_var (pv 2)) (de_callB (cd_len) rfl T.len (by decide +kernel) (da_cons (de_ix xd_ix (de_var (pv 0)) (de_int) (fun _ _ => rfl)) (da_nil)))))) (by decide)) (da_nil)))))))) (dss_one (ds_ret (de_bl))) (dss_nil)) (dss_one (ds_ret (de_callB (cd_allH hcx) rfl T.all (by decide +kernel) (da_cons (de_lcH (own := [("one", 3), ("other", 4)]) hcx sc_is_numbers.nd (diH_zip (by rfl) T.zip (da_cons (de_var (pv 1)) (da_cons (de_slice sd_sl (de_var (pv 1)) (do_some (de_int)) (do_none)) (da_nil)))) (blkOk_by (own := [("one", 3), ("other", 4)]) (N := N_is_numbers) (sc := defScope s_is_numbers) (by decide +kernel)) (fun _ _ _ _ _ => dg_tupH hcx (dgs_cons (dg_name (pg_name (i := 3) sc_is_numbers.nd rfl (.inl rfl)) (show 3 ∉ ([] : List Nat) by decide)) (dgs_cons (dg_name (pg_name (i := 4) sc_is_numbers.nd rfl (.inl rfl)) (show 4 ∉ ([] : List Nat) by decide)) (dgs_nil)))) (fun _ _ _ _ _ => dts_nil) (fun _ _ _ _ _ => de_cmp od_le (de_var (pv 3)) (de_var (pv 4)) (nomark _)) (by decide)) (da_nil)))))
abbrev s_counted : Stmt := topS 36
abbrev N_counted : List Str := ["ring", "numbers", "found", "number", "place"]
theorem sc_counted : FnScope N_counted ["ring", "numbers"] (defScope s_counted) := ⟨rfl, rfl, rfl, by decide +kernel, rfl, by decide +kernel, by decide +kernel⟩
theorem ok_counted (T : Blt mg) (S : Stands K mg "counted" s_counted ["ring", "numbers"]) (h_places_of : Has P w K mg base (caOf mg) "places_of" 1 ["many", "first", "length"] [] true F_places_of) : Has P w K mg base (caOf mg) "counted" 2 ["ring", "numbers"] [] true F_counted :=
  S.has sc_counted (by decide) rfl fun f cdv A outer s H E hr hgd => by
    have tk := L2N.takes_of (X := cxOf (L2N.CX P w) P w K mg base N_counted "counted" (defScope s_counted) f cdv A outer s H E) (E := E) rfl rfl rfl rfl
    have po := passes_of (X := cxOf (L2N.CX P w) P w K mg base N_counted "counted" (defScope s_counted) f cdv A outer s H E) rfl
    exact dss_cons (ds_setO (i := 2) sc_counted.nd rfl (.inl rfl) (de_rep (de_lst (da_cons (de_int) (da_nil))) (de_ix xd_ix (de_var (pv 0)) (de_int) (fun _ _ => rfl))) (show 2 ∉ ([] : List Nat) by decide)) (dss_cons (ds_for po rfl (di_seq (de_var (pv 1))) (dg_name (pg_name (i := 3) sc_counted.nd rfl (.inl rfl)) (show 3 ∉ ([] : List Nat) by decide)) (dss_one (ds_for po rfl (di_seq (de_callH h_places_of hr (by decide) hgd rfl rfl tk (dc_im (de_ix xd_ix (de_var (pv 0)) (de_int) (fun _ _ => rfl)) (dc_im (de_ix xd_ix (de_ix xd_ix (de_ix xd_ix (de_var (pv 0)) (de_int) (fun _ _ => rfl)) (de_var (pv 3)) (fun _ _ => rfl)) (de_int) (fun _ _ => rfl)) (dc_im (de_ix xd_ix (de_ix xd_ix (de_ix xd_ix (de_var (pv 0)) (de_int) (fun _ _ => rfl)) (de_var (pv 3)) (fun _ _ => rfl)) (de_int) (fun _ _ => rfl)) (dc_nil)))))) (dg_name (pg_name (i := 4) sc_counted.nd rfl (.inl rfl)) (show 4 ∉ ([] : List Nat) by decide)) (dss_one (ds_augS (pv 2) (de_var (pv 4)) (de_int) ip_add))))) (dss_one (ds_retO (pv 2) (show 2 ∉ ([] : List Nat) by decide))))
theorem okH_counted (T : Blt mg) (S : Stands K mg "counted" s_counted ["ring", "numbers"]) (hH_places_of : HasH P w K mg base (caOf mg) "places_of" 1 ["many", "first", "length"] [] true F_places_of) : HasH P w K mg base (caOf mg) "counted" 2 ["ring", "numbers"] [] true F_counted :=
  S.hasH sc_counted (by decide) rfl fun f cdv A outer s H E p hot hr => by
    have tk := L2.takes_of (X := L2H.cxH (L2.CX P w) P w K mg base N_counted "counted" (defScope s_counted) f cdv A outer s H E p) (E := E) rfl rfl rfl rfl
    have po := passes_of (X := L2H.cxH (L2.CX P w) P w K mg base N_counted "counted" (defScope s_counted) f cdv A outer s H E p) rfl
    have hcx : L2H.HotC (L2H.cxH (L2.CX P w) P w K mg base N_counted "counted" (defScope s_counted) f cdv A outer s H E p) := ⟨p, ⟨hot.1, hot.2⟩, List.mem_cons_self⟩
    exact dss_cons (ds_setO (i := 2) sc_counted.nd rfl (.inl rfl) (de_rep (de_lst (da_cons (de_int) (da_nil))) (de_ix xd_ix (de_var (pv 0)) (de_int) (fun _ _ => rfl))) (show 2 ∉ ([] : List Nat) by decide)) (dss_cons (ds_forH po hcx (diH_seq (de_var (pv 1))) (dg_name (pg_name (i := 3) sc_counted.nd rfl (.inl rfl)) (show 3 ∉ ([] : List Nat) by decide)) (dss_one (ds_forH po hcx (diH_seq (de_callHH hH_places_of hr (by decide) hcx rfl rfl tk (dc_im (de_ix xd_ix (de_var (pv 0)) (de_int) (fun _ _ => rfl)) (dc_im (de_ix xd_ix (de_ix xd_ix (de_ix xd_ix (de_var (pv 0)) (de_int) (fun _ _ => rfl)) (de_var (pv 3)) (fun _ _ => rfl)) (de_int) (fun _ _ => rfl)) (dc_im (de_ix xd_ix (de_ix xd_ix (de_ix xd_ix (de_var (pv 0)) (de_int) (fun _ _ => rfl)) (de_var (pv 3)) (fun _ _ => rfl)) (de_int) (fun _ _ => rfl)) (dc_nil)))))) (dg_name (pg_name (i := 4) sc_counted.nd rfl (.inl rfl)) (show 4 ∉ ([] : List Nat) by decide)) (dss_one (ds_augS (pv 2) (de_var (pv 4)) (de_int) ip_add))))) (dss_one (ds_retO (pv 2) (show 2 ∉ ([] : List Nat) by decide))))
abbrev s_is_bar : Stmt := topS 37
abbrev N_is_bar : List Str := ["ring", "total", "thing", "least", "most", "number", "up", "down"]
theorem sc_is_bar : FnScope N_is_bar ["ring", "total", "thing"] (defScope s_is_bar) := ⟨rfl, rfl, rfl, by decide +kernel, rfl, by decide +kernel, by decide +kernel⟩
theorem ok_is_bar (T : Blt mg) (S : Stands K mg "is_bar" s_is_bar ["ring", "total", "thing"]) (h_look_at_ring : Has P w K mg base (caOf mg) "look_at_ring" 5 ["ring"] [] true F_look_at_ring) (h_look_at_total : Has P w K mg base (caOf mg) "look_at_total" 3 ["total"] [] true F_look_at_total) (h_is_whole : Has P w K mg base (caOf mg) "is_whole" 1 ["thing"] [] true F_is_whole) (h_is_numbers : Has P w K mg base (caOf mg) "is_numbers" 2 ["ring", "thing"] [] true F_is_numbers) (h_counted : Has P w K mg base (caOf mg) "counted" 2 ["ring", "numbers"] [] true F_counted) : Has P w K mg base (caOf mg) "is_bar" 6 ["ring", "total", "thing"] [] true F_is_bar :=
  S.has sc_is_bar (by decide) rfl fun f cdv A outer s H E hr hgd => by
    have tk := L2N.takes_of (X := cxOf (L2N.CX P w) P w K mg base N_is_bar "is_bar" (defScope s_is_bar) f cdv A outer s H E) (E := E) rfl rfl rfl rfl
    have po := passes_of (X := cxOf (L2N.CX P w) P w K mg base N_is_bar "is_bar" (defScope s_is_bar) f cdv A outer s H E) rfl
    exact dss_cons (ds_expr (de_callH h_look_at_ring hr (by decide) hgd rfl rfl tk (dc_im (de_var (pv 0)) (dc_nil)))) (dss_cons (ds_expr (de_callH h_look_at_total hr (by decide) hgd rfl rfl tk (dc_im (de_var (pv 1)) (dc_nil)))) (dss_cons (ds_if (PW.pt (dw_or (dt_not (dt_val (de_isi (T := "tuple") (de_var (pv 2)) rfl T.isinstance rfl T.tuple (by decide +kernel)))) (dw_or (dt_cmp (od_ne hr.units) (de_callB (cd_len) rfl T.len (by decide +kernel) (da_cons (de_var (pv 2)) (da_nil))) (de_int) (nomark _)) (dw_or1 (dt_not (dt_val (de_callH h_is_whole hr (by decide) hgd rfl rfl tk (dc_im (de_ix xd_ix (de_var (pv 2)) (de_int) (fun _ _ => rfl)) (dc_nil))))))))) (dss_one (ds_ret (de_bl))) (dss_nil)) (dss_cons (ds_if (PW.pt (dw_or (dt_not (dt_val (de_callH h_is_numbers hr (by decide) hgd rfl rfl tk (dc_im (de_var (pv 0)) (dc_im (de_ix xd_ix (de_var (pv 2)) (de_int) (fun _ _ => rfl)) (dc_nil)))))) (dw_or1 (dt_not (dt_val (de_callH h_is_numbers hr (by decide) hgd rfl rfl tk (dc_im (de_var (pv 0)) (dc_im (de_ix xd_ix (de_var (pv 2)) (de_int) (fun _ _ => rfl)) (dc_nil))))))))) (dss_one (ds_ret (de_bl))) (dss_nil)) (dss_cons (ds_if (dt_cmp (od_in (u65 hr)) (de_non) (de_lc (own := [("number", 5)]) rfl sc_is_bar.nd (di_seq (de_ix xd_ix (de_var (pv 2)) (de_int) (fun _ _ => rfl))) (blkOk_by (own := [("number", 5)]) (N := N_is_bar) (sc := defScope s_is_bar) (by decide +kernel)) (fun _ _ _ _ _ => dg_name (pg_name (i := 5) sc_is_bar.nd rfl (.inl rfl)) (show 5 ∉ ([] : List Nat) by decide)) (fun _ _ _ _ _ => dts_nil) (fun _ _ _ _ _ => de_ix xd_ix (de_ix xd_ix (de_ix xd_ix (de_var (pv 0)) (de_int) (fun _ _ => rfl)) (de_var (pv 5)) (fun _ _ => rfl)) (de_int) (fun _ _ => rfl)) (by decide)) rfl) (dss_one (ds_ret (de_bl))) (dss_nil)) (dss_cons (ds_if (dt_not (dt_val (de_callB (cd_all rfl) rfl T.all (by decide +kernel) (da_cons (de_lc (own := [("up", 6), ("down", 7)]) rfl sc_is_bar.nd (di_zip (by rfl) T.zip (da_cons (de_callH h_counted hr (by decide) hgd rfl rfl tk (dc_im (de_var (pv 0)) (dc_im (de_ix xd_ix (de_var (pv 2)) (de_int) (fun _ _ => rfl)) (dc_nil)))) (da_cons (de_callH h_counted hr (by decide) hgd rfl rfl tk (dc_im (de_var (pv 0)) (dc_im (de_ix xd_ix (de_var (pv 2)) (de_int) (fun _ _ => rfl)) (dc_nil)))) (da_nil)))) (blkOk_by (own := [("up", 6), ("down", 7)]) (N := N_is_bar) (sc := defScope s_is_bar) (by decide +kernel)) (fun _ _ _ _ _ => dg_tup rfl (dgs_cons (dg_name (pg_name (i := 6) sc_is_bar.nd rfl (.inl rfl)) (show 6 ∉ ([] : List Nat) by decide)) (dgs_cons (dg_name (pg_name (i := 7) sc_is_bar.nd rfl (.inl rfl)) (show 7 ∉ ([] : List Nat) by decide)) (dgs_nil)))) (fun _ _ _ _ _ => dts_nil) (fun _ _ _ _ _ => de_cmp od_le (de_op od_sub (de_var (pv 6)) (de_var (pv 7))) (de_ix xd_ix (de_var (pv 2)) (de_int) (fun _ _ => rfl)) (nomark _)) (by decide)) (da_nil))))) (dss_one (ds_ret (de_bl))) (dss_nil)) (dss_cons (ds_par (i := 3) (j := 4) rfl sc_is_bar.nd rfl rfl (by decide) rfl rfl (da_cons (de_lc (own := [("number", 5)]) rfl sc_is_bar.nd (di_seq (de_ix xd_ix (de_var (pv 2)) (de_int) (fun _ _ => rfl))) (blkOk_by (own := [("number", 5)]) (N := N_is_bar) (sc := defScope s_is_bar) (by decide +kernel)) (fun _ _ _ _ _ => dg_name (pg_name (i := 5) sc_is_bar.nd rfl (.inl rfl)) (show 5 ∉ ([] : List Nat) by decide)) (fun _ _ _ _ _ => dts_nil) (fun _ _ _ _ _ => de_ix xd_ix (de_ix xd_ix (de_ix xd_ix (de_var (pv 0)) (de_int) (fun _ _ => rfl)) (de_var (pv 5)) (fun _ _ => rfl)) (de_int) (fun _ _ => rfl)) (by decide)) (da_cons (de_lc (own := [("number", 5)]) rfl sc_is_bar.nd (di_seq (de_ix xd_ix (de_var (pv 2)) (de_int) (fun _ _ => rfl))) (blkOk_by (own := [("number", 5)]) (N := N_is_bar) (sc := defScope s_is_bar) (by decide +kernel)) (fun _ _ _ _ _ => dg_name (pg_name (i := 5) sc_is_bar.nd rfl (.inl rfl)) (show 5 ∉ ([] : List Nat) by decide)) (fun _ _ _ _ _ => dts_nil) (fun _ _ _ _ _ => de_ix xd_ix (de_ix xd_ix (de_ix xd_ix (de_var (pv 0)) (de_int) (fun _ _ => rfl)) (de_var (pv 5)) (fun _ _ => rfl)) (de_int) (fun _ _ => rfl)) (by decide)) (da_nil))) (show 3 ∉ ([] : List Nat) by decide) (show 4 ∉ ([] : List Nat) by decide)) (dss_one (ds_ret (de_cmp od_gt (de_op od_sub (de_callB (cd_sum rfl) rfl T.sum (by decide +kernel) (da_cons (de_var (pv 3)) (da_nil))) (de_callB (cd_sum rfl) rfl T.sum (by decide +kernel) (da_cons (de_var (pv 4)) (da_nil)))) (de_op od_mul (de_ix xd_ix (de_var (pv 2)) (de_int) (fun _ _ => rfl)) (de_var (pv 1))) (nomark _))))))))))
theorem okH_is_bar (T : Blt mg) (S : Stands K mg "is_bar" s_is_bar ["ring", "total", "thing"]) (hH_look_at_ring : HasH P w K mg base (caOf mg) "look_at_ring" 5 ["ring"] [] true F_look_at_ring) (hH_look_at_total : HasH P w K mg base (caOf mg) "look_at_total" 3 ["total"] [] true F_look_at_total) (hH_is_whole : HasH P w K mg base (caOf mg) "is_whole" 1 ["thing"] [] true F_is_whole) (hH_is_numbers : HasH P w K mg base (caOf mg) "is_numbers" 2 ["ring", "thing"] [] true F_is_numbers) (hH_counted : HasH P w K mg base (caOf mg) "counted" 2 ["ring", "numbers"] [] true F_counted) : HasH P w K mg base (caOf mg) "is_bar" 6 ["ring", "total", "thing"] [] true F_is_bar :=
  S.hasH sc_is_bar (by decide) rfl fun f cdv A outer s H E p hot hr => by
    have tk := L2.takes_of (X := L2H.cxH (L2.CX P w) P w K mg base N_is_bar "is_bar" (defScope s_is_bar) f cdv A outer s H E p) (E := E) rfl rfl rfl rfl
    have po := passes_of (X := L2H.cxH (L2.CX P w) P w K mg base N_is_bar "is_bar" (defScope s_is_bar) f cdv A outer s H E p) rfl
    have hcx : L2H.HotC (L2H.cxH (L2.CX P w) P w K mg base N_is_bar "is_bar" (defScope s_is_bar) f cdv A outer s H E p) := ⟨p, ⟨hot.1, hot.2⟩, List.mem_cons_self⟩
    exact dss_cons (ds_expr (de_callHH hH_look_at_ring hr (by decide) hcx rfl rfl tk (dc_im (de_var (pv 0)) (dc_nil)))) (dss_cons (ds_expr (de_callHH hH_look_at_total hr (by decide) hcx rfl rfl tk (dc_im (de_var (pv 1)) (dc_nil)))) (dss_cons (ds_if (PW.pt (dw_or (dt_not (dt_val (de_isi (T := "tuple") (de_var (pv 2)) rfl T.isinstance rfl T.tuple (by decide +kernel)))) (dw_or (dt_cmp (od_ne (unH hr)) (de_callB (cd_len) rfl T.len (by decide +kernel) (da_cons (de_var (pv 2)) (da_nil))) (de_int) (nomark _)) (dw_or1 (dt_not (dt_val (de_callHH hH_is_whole hr (by decide) hcx rfl rfl tk (dc_im (de_ix xd_ix (de_var (pv 2)) (de_int) (fun _ _ => rfl)) (dc_nil))))))))) (dss_one (ds_ret (de_bl))) (dss_nil)) (dss_cons (ds_if (PW.pt (dw_or (dt_not (dt_val (de_callHH hH_is_numbers hr (by decide) hcx rfl rfl tk (dc_im (de_var (pv 0)) (dc_im (de_ix xd_ix (de_var (pv 2)) (de_int) (fun _ _ => rfl)) (dc_nil)))))) (dw_or1 (dt_not (dt_val (de_callHH hH_is_numbers hr (by decide) hcx rfl rfl tk (dc_im (de_var (pv 0)) (dc_im (de_ix xd_ix (de_var (pv 2)) (de_int) (fun _ _ => rfl)) (dc_nil))))))))) (dss_one (ds_ret (de_bl))) (dss_nil)) (dss_cons (ds_if (dt_cmp (od_in (u65H hr)) (de_non) (de_lcH (own := [("number", 5)]) hcx sc_is_bar.nd (diH_seq (de_ix xd_ix (de_var (pv 2)) (de_int) (fun _ _ => rfl))) (blkOk_by (own := [("number", 5)]) (N := N_is_bar) (sc := defScope s_is_bar) (by decide +kernel)) (fun _ _ _ _ _ => dg_name (pg_name (i := 5) sc_is_bar.nd rfl (.inl rfl)) (show 5 ∉ ([] : List Nat) by decide)) (fun _ _ _ _ _ => dts_nil) (fun _ _ _ _ _ => de_ix xd_ix (de_ix xd_ix (de_ix xd_ix (de_var (pv 0)) (de_int) (fun _ _ => rfl)) (de_var (pv 5)) (fun _ _ => rfl)) (de_int) (fun _ _ => rfl)) (by decide)) rfl) (dss_one (ds_ret (de_bl))) (dss_nil)) (dss_cons (ds_if (dt_not (dt_val (de_callB (cd_allH hcx) rfl T.all (by decide +kernel) (da_cons (de_lcH (own := [("up", 6), ("down", 7)]) hcx sc_is_bar.nd (diH_zip (by rfl) T.zip (da_cons (de_callHH hH_counted hr (by decide) hcx rfl rfl tk (dc_im (de_var (pv 0)) (dc_im (de_ix xd_ix (de_var (pv 2)) (de_int) (fun _ _ => rfl)) (dc_nil)))) (da_cons (de_callHH hH_counted hr (by decide) hcx rfl rfl tk (dc_im (de_var (pv 0)) (dc_im (de_ix xd_ix (de_var (pv 2)) (de_int) (fun _ _ => rfl)) (dc_nil)))) (da_nil)))) (blkOk_by (own := [("up", 6), ("down", 7)]) (N := N_is_bar) (sc := defScope s_is_bar) (by decide +kernel)) (fun _ _ _ _ _ => dg_tupH hcx (dgs_cons (dg_name (pg_name (i := 6) sc_is_bar.nd rfl (.inl rfl)) (show 6 ∉ ([] : List Nat) by decide)) (dgs_cons (dg_name (pg_name (i := 7) sc_is_bar.nd rfl (.inl rfl)) (show 7 ∉ ([] : List Nat) by decide)) (dgs_nil)))) (fun _ _ _ _ _ => dts_nil) (fun _ _ _ _ _ => de_cmp od_le (de_op od_sub (de_var (pv 6)) (de_var (pv 7))) (de_ix xd_ix (de_var (pv 2)) (de_int) (fun _ _ => rfl)) (nomark _)) (by decide)) (da_nil))))) (dss_one (ds_ret (de_bl))) (dss_nil)) (dss_cons (ds_parH (i := 3) (j := 4) hcx sc_is_bar.nd rfl rfl (by decide) rfl rfl (da_cons (de_lcH (own := [("number", 5)]) hcx sc_is_bar.nd (diH_seq (de_ix xd_ix (de_var (pv 2)) (de_int) (fun _ _ => rfl))) (blkOk_by (own := [("number", 5)]) (N := N_is_bar) (sc := defScope s_is_bar) (by decide +kernel)) (fun _ _ _ _ _ => dg_name (pg_name (i := 5) sc_is_bar.nd rfl (.inl rfl)) (show 5 ∉ ([] : List Nat) by decide)) (fun _ _ _ _ _ => dts_nil) (fun _ _ _ _ _ => de_ix xd_ix (de_ix xd_ix (de_ix xd_ix (de_var (pv 0)) (de_int) (fun _ _ => rfl)) (de_var (pv 5)) (fun _ _ => rfl)) (de_int) (fun _ _ => rfl)) (by decide)) (da_cons (de_lcH (own := [("number", 5)]) hcx sc_is_bar.nd (diH_seq (de_ix xd_ix (de_var (pv 2)) (de_int) (fun _ _ => rfl))) (blkOk_by (own := [("number", 5)]) (N := N_is_bar) (sc := defScope s_is_bar) (by decide +kernel)) (fun _ _ _ _ _ => dg_name (pg_name (i := 5) sc_is_bar.nd rfl (.inl rfl)) (show 5 ∉ ([] : List Nat) by decide)) (fun _ _ _ _ _ => dts_nil) (fun _ _ _ _ _ => de_ix xd_ix (de_ix xd_ix (de_ix xd_ix (de_var (pv 0)) (de_int) (fun _ _ => rfl)) (de_var (pv 5)) (fun _ _ => rfl)) (de_int) (fun _ _ => rfl)) (by decide)) (da_nil))) (show 3 ∉ ([] : List Nat) by decide) (show 4 ∉ ([] : List Nat) by decide)) (dss_one (ds_ret (de_cmp od_gt (de_op od_sub (de_callB (cd_sumAH hcx) rfl T.sum (by decide +kernel) (da_cons (de_var (pv 3)) (da_nil))) (de_callB (cd_sumAH hcx) rfl T.sum (by decide +kernel) (da_cons (de_var (pv 4)) (da_nil)))) (de_op od_mul (de_ix xd_ix (de_var (pv 2)) (de_int) (fun _ _ => rfl)) (de_var (pv 1))) (nomark _))))))))))
abbrev s_is_capped : Stmt := topS 38
abbrev N_is_capped : List Str := ["ring", "capped", "number", "term", "times"]
theorem sc_is_capped : FnScope N_is_capped ["ring"] (defScope s_is_capped) := ⟨rfl, rfl, rfl, by decide +kernel, rfl, by decide +kernel, by decide +kernel⟩
theorem ok_is_capped (T : Blt mg) (S : Stands K mg "is_capped" s_is_capped ["ring"]) (h_counted : Has P w K mg base (caOf mg) "counted" 2 ["ring", "numbers"] [] true F_counted) : Has P w K mg base (caOf mg) "is_capped" 3 ["ring"] [] true F_is_capped :=
  S.has sc_is_capped (by decide) rfl fun f cdv A outer s H E hr hgd => by
    have tk := L2N.takes_of (X := cxOf (L2N.CX P w) P w K mg base N_is_capped "is_capped" (defScope s_is_capped) f cdv A outer s H E) (E := E) rfl rfl rfl rfl
    have po := passes_of (X := cxOf (L2N.CX P w) P w K mg base N_is_capped "is_capped" (defScope s_is_capped) f cdv A outer s H E) rfl
    exact dss_cons (ds_setLc (i := 1) (own := [("number", 2), ("term", 3)]) rfl sc_is_capped.nd rfl rfl (sw_true rfl rfl rfl (by decide +kernel)) (di_enum (by rfl) T.enumerate (da_cons (de_ix xd_ix (de_var (pv 0)) (de_int) (fun _ _ => rfl)) (da_nil))) (blkOk_by (own := [("number", 2), ("term", 3)]) (N := N_is_capped) (sc := defScope s_is_capped) (by decide +kernel)) (fun _ _ _ _ _ => dg_tup rfl (dgs_cons (dg_name (pg_name (i := 2) sc_is_capped.nd rfl (.inl rfl)) (show 2 ∉ ([] : List Nat) by decide)) (dgs_cons (dg_name (pg_name (i := 3) sc_is_capped.nd rfl (.inl rfl)) (show 3 ∉ ([] : List Nat) by decide)) (dgs_nil)))) (fun _ _ _ _ _ => dts_one (dt_cmp od_isnt (de_ix xd_ix (de_var (pv 3)) (de_int) (fun _ _ => rfl)) (de_non) (nomark _))) (fun _ _ _ _ _ => de_var (pv 2)) (by decide) (show 1 ∉ ([] : List Nat) by decide)) (dss_one (ds_ret (de_callB (cd_all rfl) rfl T.all (by decide +kernel) (da_cons (de_lc (own := [("times", 4)]) rfl sc_is_capped.nd (di_seq (de_callH h_counted hr (by decide) hgd rfl rfl tk (dc_im (de_var (pv 0)) (dc_im (de_var (pv 1)) (dc_nil))))) (blkOk_by (own := [("times", 4)]) (N := N_is_capped) (sc := defScope s_is_capped) (by decide +kernel)) (fun _ _ _ _ _ => dg_name (pg_name (i := 4) sc_is_capped.nd rfl (.inl rfl)) (show 4 ∉ ([] : List Nat) by decide)) (fun _ _ _ _ _ => dts_nil) (fun _ _ _ _ _ => de_cmp od_gt (de_var (pv 4)) (de_int) (nomark _)) (by decide)) (da_nil)))))
abbrev s_some_total : Stmt := topS 39
abbrev N_some_total : List Str := ["ring", "high", "low", "bars", "total", "bar", "side"]
theorem sc_some_total : FnScope N_some_total ["ring", "high"] (defScope s_some_total) := ⟨rfl, rfl, rfl, by decide +kernel, rfl, by decide +kernel, by decide +kernel⟩
theorem ok_some_total (T : Blt mg) (S : Stands K mg "some_total" s_some_total ["ring", "high"]) (h_found_bar : Has P w K mg base (caOf mg) "found_bar" 2 ["ring", "total"] [] true F_found_bar) : Has P w K mg base (caOf mg) "some_total" 3 ["ring", "high"] [] true F_some_total :=
  S.has sc_some_total (by decide) rfl fun f cdv A outer s H E hr hgd => by
    have tk := L2N.takes_of (X := cxOf (L2N.CX P w) P w K mg base N_some_total "some_total" (defScope s_some_total) f cdv A outer s H E) (E := E) rfl rfl rfl rfl
    have po := passes_of (X := cxOf (L2N.CX P w) P w K mg base N_some_total "some_total" (defScope s_some_total) f cdv A outer s H E) rfl
    exact dss_cons (ds_set (i := 2) sc_some_total.nd rfl (.inl rfl) (de_int) (show 2 ∉ ([] : List Nat) by decide)) (dss_cons (ds_setDb (j := 3) sc_some_total.nd rfl (.inr rfl) (show 3 ∉ ([] : List Nat) by decide)) (dss_cons (ds_while po (dt_cmp od_le (de_var (pv 2)) (de_var (pv 1)) (nomark _)) (dss_cons (ds_set (i := 4) sc_some_total.nd rfl (.inl rfl) (de_op od_fdiv (de_op od_add (de_var (pv 2)) (de_var (pv 1))) (de_int)) (show 4 ∉ ([] : List Nat) by decide)) (dss_cons (ds_set (i := 5) sc_some_total.nd rfl (.inl rfl) (de_callH h_found_bar hr (by decide) hgd rfl rfl tk (dc_im (de_var (pv 0)) (dc_im (de_var (pv 4)) (dc_nil)))) (show 5 ∉ ([] : List Nat) by decide)) (dss_cons (ds_if (dt_cmp od_is (de_var (pv 5)) (de_non) (nomark _)) (dss_one (ds_ret (de_tup (da_cons (de_var (pv 4)) (da_cons (de_lst (da_nil)) (da_nil)))))) (dss_nil)) (dss_cons (ds_if (dt_cmp (od_eq hr.units) (de_ix xd_ix (de_var (pv 5)) (de_int) (fun _ _ => rfl)) (de_int) (nomark _)) (dss_one (ds_ret (de_tup (da_cons (de_non) (da_cons (de_lst (da_cons (de_var (pv 5)) (da_nil))) (da_nil)))))) (dss_nil)) (dss_cons (ds_dbsto (pv 3) (de_cmp od_gt (de_ix xd_ix (de_var (pv 5)) (de_int) (fun _ _ => rfl)) (de_int) (nomark _)) (de_var (pv 5))) (dss_one (ds_asg (de_if (dt_cmp od_gt (de_ix xd_ix (de_var (pv 5)) (de_int) (fun _ _ => rfl)) (de_int) (nomark _)) (de_tup (da_cons (de_op od_add (de_var (pv 4)) (de_int)) (da_cons (de_var (pv 1)) (da_nil)))) (de_tup (da_cons (de_var (pv 2)) (da_cons (de_op od_sub (de_var (pv 4)) (de_int)) (da_nil))))) (dg_tup rfl (dgs_cons (dg_name (pg_name (i := 2) sc_some_total.nd rfl (.inl rfl)) (show 2 ∉ ([] : List Nat) by decide)) (dgs_cons (dg_name (pg_name (i := 1) sc_some_total.nd rfl (.inl rfl)) (show 1 ∉ ([] : List Nat) by decide)) (dgs_nil)))))))))))) (dss_one (ds_ret (de_tup (da_cons (de_non) (da_cons (de_dbvals (i := 3) (j := 6) rfl sc_some_total.nd (pv 3) (blkOk_by (own := [("side", 6)]) (N := N_some_total) (sc := defScope s_some_total) (by decide +kernel)) (by decide) rfl (fun _ _ _ _ _ => pg_name (i := 6) sc_some_total.nd rfl (.inl rfl)) (fun _ _ _ _ _ => pv 3) (fun _ _ _ _ _ => pv 6)) (da_nil))))))))
abbrev s_end_total : Stmt := topS 40
abbrev N_end_total : List Str := ["ring", "inner", "outer", "total"]
theorem sc_end_total : FnScope N_end_total ["ring", "inner", "outer"] (defScope s_end_total) := ⟨rfl, rfl, rfl, by decide +kernel, rfl, by decide +kernel, by decide +kernel⟩
theorem ok_end_total (T : Blt mg) (S : Stands K mg "end_total" s_end_total ["ring", "inner", "outer"]) (h_found_bar : Has P w K mg base (caOf mg) "found_bar" 2 ["ring", "total"] [] true F_found_bar) : Has P w K mg base (caOf mg) "end_total" 3 ["ring", "inner", "outer"] [] false F_end_total :=
  S.has sc_end_total (by decide) rfl fun f cdv A outer s H E hr hgd => by
    have tk := L2N.takes_of (X := cxOf (L2N.CX P w) P w K mg base N_end_total "end_total" (defScope s_end_total) f cdv A outer s H E) (E := E) rfl rfl rfl rfl
    have po := passes_of (X := cxOf (L2N.CX P w) P w K mg base N_end_total "end_total" (defScope s_end_total) f cdv A outer s H E) rfl
    exact dss_cons (ds_while po (dt_cmp od_gt (de_callB (cd_abs) rfl T.abs (by decide +kernel) (da_cons (de_op od_sub (de_var (pv 1)) (de_var (pv 2))) (da_nil))) (de_int) (nomark _)) (dss_cons (ds_set (i := 3) sc_end_total.nd rfl (.inl rfl) (de_op od_fdiv (de_op od_add (de_var (pv 1)) (de_var (pv 2))) (de_int)) (show 3 ∉ ([] : List Nat) by decide)) (dss_one (ds_if (dt_cmp od_is (de_callH h_found_bar hr (by decide) hgd rfl rfl tk (dc_im (de_var (pv 0)) (dc_im (de_var (pv 3)) (dc_nil)))) (de_non) (nomark _)) (dss_one (ds_set (i := 1) sc_end_total.nd rfl (.inl rfl) (de_var (pv 3)) (show 1 ∉ ([] : List Nat) by decide))) (dss_one (ds_set (i := 2) sc_end_total.nd rfl (.inl rfl) (de_var (pv 3)) (show 2 ∉ ([] : List Nat) by decide))))))) (dss_one (ds_ret (de_var (pv 1))))
abbrev s_totals : Stmt := topS 41
abbrev N_totals : List Str := ["ring", "high", "total", "bars", "least", "greatest", "below", "above", "term"]
theorem sc_totals : FnScope N_totals ["ring"] (defScope s_totals) := ⟨rfl, rfl, rfl, by decide +kernel, rfl, by decide +kernel, by decide +kernel⟩
theorem ok_totals (T : Blt mg) (S : Stands K mg "totals" s_totals ["ring"]) (h_look_at_ring : Has P w K mg base (caOf mg) "look_at_ring" 5 ["ring"] [] true F_look_at_ring) (h_some_total : Has P w K mg base (caOf mg) "some_total" 3 ["ring", "high"] [] true F_some_total) (h_end_total : Has P w K mg base (caOf mg) "end_total" 3 ["ring", "inner", "outer"] [] false F_end_total) (h_is_capped : Has P w K mg base (caOf mg) "is_capped" 3 ["ring"] [] true F_is_capped) (h_found_bar : Has P w K mg base (caOf mg) "found_bar" 2 ["ring", "total"] [] true F_found_bar) : Has P w K mg base (caOf mg) "totals" 6 ["ring"] [] true F_totals :=
  S.has sc_totals (by decide) rfl fun f cdv A outer s H E hr hgd => by
    have tk := L2N.takes_of (X := cxOf (L2N.CX P w) P w K mg base N_totals "totals" (defScope s_totals) f cdv A outer s H E) (E := E) rfl rfl rfl rfl
    have po := passes_of (X := cxOf (L2N.CX P w) P w K mg base N_totals "totals" (defScope s_totals) f cdv A outer s H E) rfl
    exact dss_cons (ds_expr (de_callH h_look_at_ring hr (by decide) hgd rfl rfl tk (dc_im (de_var (pv 0)) (dc_nil)))) (dss_cons (ds_set (i := 1) sc_totals.nd rfl (.inl rfl) (de_op od_add (de_op od_add (de_callB (cd_sum rfl) rfl T.sum (by decide +kernel) (da_cons (de_lc (own := [("term", 8)]) rfl sc_totals.nd (di_seq (de_ix xd_ix (de_var (pv 0)) (de_int) (fun _ _ => rfl))) (blkOk_by (own := [("term", 8)]) (N := N_totals) (sc := defScope s_totals) (by decide +kernel)) (fun _ _ _ _ _ => dg_name (pg_name (i := 8) sc_totals.nd rfl (.inl rfl)) (show 8 ∉ ([] : List Nat) by decide)) (fun _ _ _ _ _ => dts_nil) (fun _ _ _ _ _ => de_ix xd_ix (de_var (pv 8)) (de_int) (fun _ _ => rfl)) (by decide)) (da_nil))) (de_callB (cd_sum rfl) rfl T.sum (by decide +kernel) (da_cons (de_lc (own := [("term", 8)]) rfl sc_totals.nd (di_seq (de_ix xd_ix (de_var (pv 0)) (de_int) (fun _ _ => rfl))) (blkOk_by (own := [("term", 8)]) (N := N_totals) (sc := defScope s_totals) (by decide +kernel)) (fun _ _ _ _ _ => dg_name (pg_name (i := 8) sc_totals.nd rfl (.inl rfl)) (show 8 ∉ ([] : List Nat) by decide)) (fun _ _ _ _ _ => dts_one (dt_cmp od_isnt (de_ix xd_ix (de_var (pv 8)) (de_int) (fun _ _ => rfl)) (de_non) (nomark _))) (fun _ _ _ _ _ => de_ix xd_ix (de_var (pv 8)) (de_int) (fun _ _ => rfl)) (by decide)) (da_nil)))) (de_int)) (show 1 ∉ ([] : List Nat) by decide)) (dss_cons (ds_asg (de_callH h_some_total hr (by decide) hgd rfl rfl tk (dc_im (de_var (pv 0)) (dc_im (de_var (pv 1)) (dc_nil)))) (dg_tup rfl (dgs_cons (dg_name (pg_name (i := 2) sc_totals.nd rfl (.inl rfl)) (show 2 ∉ ([] : List Nat) by decide)) (dgs_cons (dg_name (pg_name (i := 3) sc_totals.nd rfl (.inl rfl)) (show 3 ∉ ([] : List Nat) by decide)) (dgs_nil))))) (dss_cons (ds_if (dt_cmp od_is (de_var (pv 2)) (de_non) (nomark _)) (dss_one (ds_ret (de_tup (da_cons (de_str) (da_cons (de_var (pv 3)) (da_nil)))))) (dss_nil)) (dss_cons (ds_set (i := 4) sc_totals.nd rfl (.inl rfl) (de_callH h_end_total hr (by decide) hgd rfl rfl tk (dc_im (de_var (pv 0)) (dc_im (de_var (pv 2)) (dc_im (de_un ud_neg (de_int)) (dc_nil))))) (show 4 ∉ ([] : List Nat) by decide)) (dss_cons (ds_set (i := 5) sc_totals.nd rfl (.inl rfl) (de_if (dt_val (de_callH h_is_capped hr (by decide) hgd rfl rfl tk (dc_im (de_var (pv 0)) (dc_nil)))) (de_callH h_end_total hr (by decide) hgd rfl rfl tk (dc_im (de_var (pv 0)) (dc_im (de_var (pv 2)) (dc_im (de_op od_add (de_var (pv 1)) (de_int)) (dc_nil))))) (de_non)) (show 5 ∉ ([] : List Nat) by decide)) (dss_cons (ds_set (i := 6) sc_totals.nd rfl (.inl rfl) (de_if (dt_cmp od_gt (de_var (pv 4)) (de_int) (nomark _)) (de_callH h_found_bar hr (by decide) hgd rfl rfl tk (dc_im (de_var (pv 0)) (dc_im (de_op od_sub (de_var (pv 4)) (de_int)) (dc_nil)))) (de_non)) (show 6 ∉ ([] : List Nat) by decide)) (dss_cons (ds_set (i := 7) sc_totals.nd rfl (.inl rfl) (de_if (dt_cmp od_isnt (de_var (pv 5)) (de_non) (nomark _)) (de_callH h_found_bar hr (by decide) hgd rfl rfl tk (dc_im (de_var (pv 0)) (dc_im (de_op od_add (de_var (pv 5)) (de_int)) (dc_nil)))) (de_non)) (show 7 ∉ ([] : List Nat) by decide)) (dss_one (ds_ret (de_tup (da_cons (de_str) (da_cons (de_var (pv 4)) (da_cons (de_var (pv 5)) (da_cons (de_var (pv 6)) (da_cons (de_var (pv 7)) (da_nil))))))))))))))))
abbrev s_found_span : Stmt := topS 43
abbrev N_found_span : List Str := ["ring", "total", "first", "length", "many", "last", "rounds", "edges", "least"]
theorem sc_found_span : FnScope N_found_span ["ring", "total", "first", "length"] (defScope s_found_span) := ⟨rfl, rfl, rfl, by decide +kernel, rfl, by decide +kernel, by decide +kernel⟩
theorem ok_found_span (T : Blt mg) (S : Stands K mg "found_span" s_found_span ["ring", "total", "first", "length"]) (h_demands : Has P w K mg base (caOf mg) "demands" 1 ["ring", "total"] [] true F_demands) (h_heights_from : Has P w K mg base (caOf mg) "heights_from" 1 ["many", "edges", "place"] [] true F_heights_from) : Has P w K mg base (caOf mg) "found_span" 2 ["ring", "total", "first", "length"] [] true F_found_span :=
  S.has sc_found_span (by decide) rfl fun f cdv A outer s H E hr hgd => by
    have tk := L2N.takes_of (X := cxOf (L2N.CX P w) P w K mg base N_found_span "found_span" (defScope s_found_span) f cdv A outer s H E) (E := E) rfl rfl rfl rfl
    have po := passes_of (X := cxOf (L2N.CX P w) P w K mg base N_found_span "found_span" (defScope s_found_span) f cdv A outer s H E) rfl
    exact dss_cons (ds_set (i := 4) sc_found_span.nd rfl (.inl rfl) (de_ix xd_ix (de_var (pv 0)) (de_int) (fun _ _ => rfl)) (show 4 ∉ ([] : List Nat) by decide)) (dss_cons (ds_par (i := 5) (j := 6) rfl sc_found_span.nd rfl rfl (by decide) rfl rfl (da_cons (de_op od_mod (de_op od_add (de_var (pv 2)) (de_var (pv 3))) (de_var (pv 4))) (da_cons (de_op od_fdiv (de_op od_add (de_var (pv 2)) (de_var (pv 3))) (de_var (pv 4))) (da_nil))) (show 5 ∉ ([] : List Nat) by decide) (show 6 ∉ ([] : List Nat) by decide)) (dss_cons (ds_set (i := 7) sc_found_span.nd rfl (.inl rfl) (de_callH h_demands hr (by decide) hgd rfl rfl tk (dc_im (de_var (pv 0)) (dc_im (de_var (pv 1)) (dc_nil)))) (show 7 ∉ ([] : List Nat) by decide)) (dss_cons (ds_set (i := 8) sc_found_span.nd rfl (.inl rfl) (de_op od_add (de_ix xd_ix (de_callH h_heights_from hr (by decide) hgd rfl rfl tk (dc_im (de_var (pv 4)) (dc_im (de_var (pv 7)) (dc_im (de_var (pv 2)) (dc_nil))))) (de_var (pv 5)) (fun _ _ => rfl)) (de_op od_mul (de_var (pv 6)) (de_var (pv 1)))) (show 8 ∉ ([] : List Nat) by decide)) (dss_one (ds_ret (de_tup (da_cons (de_var (pv 8)) (da_cons (de_op od_sub (de_op od_mul (de_var (pv 6)) (de_var (pv 1))) (de_ix xd_ix (de_callH h_heights_from hr (by decide) hgd rfl rfl tk (dc_im (de_var (pv 4)) (dc_im (de_var (pv 7)) (dc_im (de_var (pv 5)) (dc_nil))))) (de_var (pv 2)) (fun _ _ => rfl))) (da_nil)))))))))
abbrev s_span : Stmt := topS 44
abbrev N_span : List Str := ["ring", "total", "first", "length", "bar"]
theorem sc_span : FnScope N_span ["ring", "total", "first", "length"] (defScope s_span) := ⟨rfl, rfl, rfl, by decide +kernel, rfl, by decide +kernel, by decide +kernel⟩
theorem ok_span (T : Blt mg) (S : Stands K mg "span" s_span ["ring", "total", "first", "length"]) {C_Barred : Addr} (xI_Barred : InitF K mg "Barred" "bar" sI_Barred C_Barred) (h_look_at_ring : Has P w K mg base (caOf mg) "look_at_ring" 5 ["ring"] [] true F_look_at_ring) (h_look_at_total : Has P w K mg base (caOf mg) "look_at_total" 3 ["total"] [] true F_look_at_total) (h_look_at_stretch : Has P w K mg base (caOf mg) "look_at_stretch" 3 ["ring", "first", "length"] [] true F_look_at_stretch) (h_found_bar : Has P w K mg base (caOf mg) "found_bar" 2 ["ring", "total"] [] true F_found_bar) (h_found_span : Has P w K mg base (caOf mg) "found_span" 2 ["ring", "total", "first", "length"] [] true F_found_span) : Has P w K mg base (caOf mg) "span" 6 ["ring", "total", "first", "length"] [] true F_span :=
  S.has sc_span (by decide) rfl fun f cdv A outer s H E hr hgd => by
    have tk := L2N.takes_of (X := cxOf (L2N.CX P w) P w K mg base N_span "span" (defScope s_span) f cdv A outer s H E) (E := E) rfl rfl rfl rfl
    have po := passes_of (X := cxOf (L2N.CX P w) P w K mg base N_span "span" (defScope s_span) f cdv A outer s H E) rfl
    exact dss_cons (ds_expr (de_callH h_look_at_ring hr (by decide) hgd rfl rfl tk (dc_im (de_var (pv 0)) (dc_nil)))) (dss_cons (ds_expr (de_callH h_look_at_total hr (by decide) hgd rfl rfl tk (dc_im (de_var (pv 1)) (dc_nil)))) (dss_cons (ds_expr (de_callH h_look_at_stretch hr (by decide) hgd rfl rfl tk (dc_im (de_var (pv 0)) (dc_im (de_var (pv 2)) (dc_im (de_var (pv 3)) (dc_nil)))))) (dss_cons (ds_set (i := 4) sc_span.nd rfl (.inl rfl) (de_callH h_found_bar hr (by decide) hgd rfl rfl tk (dc_im (de_var (pv 0)) (dc_im (de_var (pv 1)) (dc_nil)))) (show 4 ∉ ([] : List Nat) by decide)) (dss_cons (ds_if (dt_cmp od_isnt (de_var (pv 4)) (de_non) (nomark _)) (dss_one (ds_raiseP rfl tk xI_Barred scI_Barred rfl (Or.inl rfl) (Or.inl rfl) hr (by decide) rfl (de_var (pv 4)) rfl)) (dss_nil)) (dss_one (ds_ret (de_callH h_found_span hr (by decide) hgd rfl rfl tk (dc_im (de_var (pv 0)) (dc_im (de_var (pv 1)) (dc_im (de_var (pv 2)) (dc_im (de_var (pv 3)) (dc_nil))))))))))))
abbrev s_is_needless : Stmt := topS 45
abbrev N_is_needless : List Str := ["many", "total", "terms", "term", "rest", "least", "greatest"]
theorem sc_is_needless : FnScope N_is_needless ["many", "total", "terms", "term"] (defScope s_is_needless) := ⟨rfl, rfl, rfl, by decide +kernel, rfl, by decide +kernel, by decide +kernel⟩
theorem ok_is_needless (T : Blt mg) (S : Stands K mg "is_needless" s_is_needless ["many", "total", "terms", "term"]) (h_found_bar : Has P w K mg base (caOf mg) "found_bar" 2 ["ring", "total"] [] true F_found_bar) (h_found_span : Has P w K mg base (caOf mg) "found_span" 2 ["ring", "total", "first", "length"] [] true F_found_span) : Has P w K mg base (caOf mg) "is_needless" 3 ["many", "total", "terms", "term"] [] true F_is_needless :=
  S.has sc_is_needless (by decide) rfl fun f cdv A outer s H E hr hgd => by
    have tk := L2N.takes_of (X := cxOf (L2N.CX P w) P w K mg base N_is_needless "is_needless" (defScope s_is_needless) f cdv A outer s H E) (E := E) rfl rfl rfl rfl
    have po := passes_of (X := cxOf (L2N.CX P w) P w K mg base N_is_needless "is_needless" (defScope s_is_needless) f cdv A outer s H E) rfl
    exact dss_cons (ds_set (i := 4) sc_is_needless.nd rfl (.inl rfl) (de_tup (da_cons (de_var (pv 0)) (da_cons (de_callTy cd_tuple rfl T.tuple (by decide +kernel) (da_cons (de_var (pv 2)) (da_nil))) (da_nil)))) (show 4 ∉ ([] : List Nat) by decide)) (dss_cons (ds_if (dt_cmp od_isnt (de_callH h_found_bar hr (by decide) hgd rfl rfl tk (dc_im (de_var (pv 4)) (dc_im (de_var (pv 1)) (dc_nil)))) (de_non) (nomark _)) (dss_one (ds_ret (de_bl))) (dss_nil)) (dss_cons (ds_asg (de_callH h_found_span hr (by decide) hgd rfl rfl tk (dc_im (de_var (pv 4)) (dc_im (de_var (pv 1)) (dc_im (de_ix xd_ix (de_var (pv 3)) (de_int) (fun _ _ => rfl)) (dc_im (de_ix xd_ix (de_var (pv 3)) (de_int) (fun _ _ => rfl)) (dc_nil)))))) (dg_tup rfl (dgs_cons (dg_name (pg_name (i := 5) sc_is_needless.nd rfl (.inl rfl)) (show 5 ∉ ([] : List Nat) by decide)) (dgs_cons (dg_name (pg_name (i := 6) sc_is_needless.nd rfl (.inl rfl)) (show 6 ∉ ([] : List Nat) by decide)) (dgs_nil))))) (dss_one (ds_ret (de_and (de_cmp od_le (de_ix xd_ix (de_var (pv 3)) (de_int) (fun _ _ => rfl)) (de_var (pv 5)) (nomark _)) (de_one (de_or (de_cmp od_is (de_ix xd_ix (de_var (pv 3)) (de_int) (fun _ _ => rfl)) (de_non) (nomark _)) (de_one (de_cmp od_le (de_var (pv 6)) (de_ix xd_ix (de_var (pv 3)) (de_int) (fun _ _ => rfl)) (nomark _))))))))))
abbrev s_needless : Stmt := topS 46
abbrev N_needless : List Str := ["ring", "total", "found", "number", "term"]
theorem sc_needless : FnScope N_needless ["ring", "total"] (defScope s_needless) := ⟨rfl, rfl, rfl, by decide +kernel, rfl, by decide +kernel, by decide +kernel⟩
theorem ok_needless (T : Blt mg) (S : Stands K mg "needless" s_needless ["ring", "total"]) (h_look_at_ring : Has P w K mg base (caOf mg) "look_at_ring" 5 ["ring"] [] true F_look_at_ring) (h_look_at_total : Has P w K mg base (caOf mg) "look_at_total" 3 ["total"] [] true F_look_at_total) (h_is_needless : Has P w K mg base (caOf mg) "is_needless" 3 ["many", "total", "terms", "term"] [] true F_is_needless) : Has P w K mg base (caOf mg) "needless" 6 ["ring", "total"] [] true F_needless :=
  S.has sc_needless (by decide) rfl fun f cdv A outer s H E hr hgd => by
    have tk := L2N.takes_of (X := cxOf (L2N.CX P w) P w K mg base N_needless "needless" (defScope s_needless) f cdv A outer s H E) (E := E) rfl rfl rfl rfl
    have po := passes_of (X := cxOf (L2N.CX P w) P w K mg base N_needless "needless" (defScope s_needless) f cdv A outer s H E) rfl
    exact dss_cons (ds_expr (de_callH h_look_at_ring hr (by decide) hgd rfl rfl tk (dc_im (de_var (pv 0)) (dc_nil)))) (dss_cons (ds_expr (de_callH h_look_at_total hr (by decide) hgd rfl rfl tk (dc_im (de_var (pv 1)) (dc_nil)))) (dss_cons (ds_setO (i := 2) sc_needless.nd rfl (.inl rfl) (de_lst (da_nil)) (show 2 ∉ ([] : List Nat) by decide)) (dss_cons (ds_for po rfl (di_enum (by rfl) T.enumerate (da_cons (de_ix xd_ix (de_var (pv 0)) (de_int) (fun _ _ => rfl)) (da_nil))) (dg_tup rfl (dgs_cons (dg_name (pg_name (i := 3) sc_needless.nd rfl (.inl rfl)) (show 3 ∉ ([] : List Nat) by decide)) (dgs_cons (dg_name (pg_name (i := 4) sc_needless.nd rfl (.inl rfl)) (show 4 ∉ ([] : List Nat) by decide)) (dgs_nil)))) (dss_one (ds_if (dt_val (de_callH h_is_needless hr (by decide) hgd rfl rfl tk (dc_im (de_ix xd_ix (de_var (pv 0)) (de_int) (fun _ _ => rfl)) (dc_im (de_var (pv 1)) (dc_im (de_op od_add (de_slice sd_sl (de_ix xd_ix (de_var (pv 0)) (de_int) (fun _ _ => rfl)) (do_none) (do_some (de_var (pv 3)))) (de_slice sd_sl (de_ix xd_ix (de_var (pv 0)) (de_int) (fun _ _ => rfl)) (do_some (de_op od_add (de_var (pv 3)) (de_int))) (do_none))) (dc_im (de_var (pv 4)) (dc_nil))))))) (dss_one (ds_app (pv 2) (de_var (pv 3)))) (dss_nil)))) (dss_one (ds_retO (pv 2) (show 2 ∉ ([] : List Nat) by decide))))))
abbrev s_core : Stmt := topS 47
abbrev N_core : List Str := ["ring", "total", "kept", "number", "others", "other"]
theorem sc_core : FnScope N_core ["ring", "total"] (defScope s_core) := ⟨rfl, rfl, rfl, by decide +kernel, rfl, by decide +kernel, by decide +kernel⟩
theorem ok_core (T : Blt mg) (S : Stands K mg "core" s_core ["ring", "total"]) (h_look_at_ring : Has P w K mg base (caOf mg) "look_at_ring" 5 ["ring"] [] true F_look_at_ring) (h_look_at_total : Has P w K mg base (caOf mg) "look_at_total" 3 ["total"] [] true F_look_at_total) (h_is_needless : Has P w K mg base (caOf mg) "is_needless" 3 ["many", "total", "terms", "term"] [] true F_is_needless) : Has P w K mg base (caOf mg) "core" 6 ["ring", "total"] [] true F_core :=
  S.has sc_core (by decide) rfl fun f cdv A outer s H E hr hgd => by
    have tk := L2N.takes_of (X := cxOf (L2N.CX P w) P w K mg base N_core "core" (defScope s_core) f cdv A outer s H E) (E := E) rfl rfl rfl rfl
    have po := passes_of (X := cxOf (L2N.CX P w) P w K mg base N_core "core" (defScope s_core) f cdv A outer s H E) rfl
    exact dss_cons (ds_expr (de_callH h_look_at_ring hr (by decide) hgd rfl rfl tk (dc_im (de_var (pv 0)) (dc_nil)))) (dss_cons (ds_expr (de_callH h_look_at_total hr (by decide) hgd rfl rfl tk (dc_im (de_var (pv 1)) (dc_nil)))) (dss_cons (ds_setO (i := 2) sc_core.nd rfl (.inl rfl) (de_listRg rfl (de_callB (cd_len) rfl T.len (by decide +kernel) (da_cons (de_ix xd_ix (de_var (pv 0)) (de_int) (fun _ _ => rfl)) (da_nil))) rfl T.list rfl T.range) (show 2 ∉ ([] : List Nat) by decide)) (dss_cons (ds_for po rfl (di_range1 (by rfl) T.range (da_cons (de_callB (cd_len) rfl T.len (by decide +kernel) (da_cons (de_ix xd_ix (de_var (pv 0)) (de_int) (fun _ _ => rfl)) (da_nil))) (da_nil))) (dg_name (pg_name (i := 3) sc_core.nd rfl (.inr rfl)) (show 3 ∉ ([] : List Nat) by decide)) (dss_cons (ds_setLcOL (i := 4) (own := [("other", 5)]) rfl sc_core.nd rfl rfl (sw_true rfl rfl rfl (by decide +kernel)) (di_seq (de_var (pv 2))) (blkOk_by (own := [("other", 5)]) (N := N_core) (sc := defScope s_core) (by decide +kernel)) (fun _ _ _ _ _ => dg_name (pg_name (i := 5) sc_core.nd rfl (.inl rfl)) (show 5 ∉ ([] : List Nat) by decide)) (fun _ _ _ _ _ => dts_one (dt_cmp (od_ne hr.units) (de_var (pv 5)) (de_var (pv 3)) (nomark _))) (fun _ _ _ _ _ => de_var (pv 5)) (by decide) (show 4 ∉ ([] : List Nat) by decide)) (dss_one (ds_if (dt_lend (dt_val (de_callH h_is_needless hr (by decide) hgd rfl rfl tk (dc_im (de_ix xd_ix (de_var (pv 0)) (de_int) (fun _ _ => rfl)) (dc_im (de_var (pv 1)) (dc_im (de_lc (own := [("other", 5)]) rfl sc_core.nd (di_seq (de_var (pv 4))) (blkOk_by (own := [("other", 5)]) (N := N_core) (sc := defScope s_core) (by decide +kernel)) (fun _ _ _ _ _ => dg_name (pg_name (i := 5) sc_core.nd rfl (.inl rfl)) (show 5 ∉ ([] : List Nat) by decide)) (fun _ _ _ _ _ => dts_nil) (fun _ _ _ _ _ => de_ix xd_ix (de_ix xd_ix (de_var (pv 0)) (de_int) (fun _ _ => rfl)) (de_var (pv 5)) (fun _ _ => rfl)) (by decide)) (dc_im (de_ix xd_ix (de_ix xd_ix (de_var (pv 0)) (de_int) (fun _ _ => rfl)) (de_var (pv 3)) (fun _ _ => rfl)) (dc_nil)))))))) (dss_one (ds_move (i := 2) (j := 4) sc_core.nd rfl (.inl rfl) (pv 4) (show 2 ∉ ([] : List Nat) by decide) (show 4 ∉ ([] : List Nat) by decide) (by decide))) (dss_drop (i := 4) (dss_nil) (show 4 ∉ ([] : List Nat) by decide)))))) (dss_one (ds_retO (pv 2) (show 2 ∉ ([] : List Nat) by decide))))))
abbrev s_eased : Stmt := topS 48
abbrev N_eased : List Str := ["ring", "by", "terms", "first", "length", "least", "most"]
theorem sc_eased : FnScope N_eased ["ring", "by"] (defScope s_eased) := ⟨rfl, rfl, rfl, by decide +kernel, rfl, by decide +kernel, by decide +kernel⟩
theorem ok_eased (T : Blt mg) (S : Stands K mg "eased" s_eased ["ring", "by"]) : Has P w K mg base (caOf mg) "eased" 1 ["ring", "by"] [] true F_eased :=
  S.has sc_eased (by decide) rfl fun f cdv A outer s H E hr hgd => by
    have tk := L2N.takes_of (X := cxOf (L2N.CX P w) P w K mg base N_eased "eased" (defScope s_eased) f cdv A outer s H E) (E := E) rfl rfl rfl rfl
    have po := passes_of (X := cxOf (L2N.CX P w) P w K mg base N_eased "eased" (defScope s_eased) f cdv A outer s H E) rfl
    exact dss_cons (ds_setO (i := 2) sc_eased.nd rfl (.inl rfl) (de_lst (da_nil)) (show 2 ∉ ([] : List Nat) by decide)) (dss_cons (ds_for po rfl (di_seq (de_ix xd_ix (de_var (pv 0)) (de_int) (fun _ _ => rfl))) (dg_tup rfl (dgs_cons (dg_name (pg_name (i := 3) sc_eased.nd rfl (.inl rfl)) (show 3 ∉ ([] : List Nat) by decide)) (dgs_cons (dg_name (pg_name (i := 4) sc_eased.nd rfl (.inl rfl)) (show 4 ∉ ([] : List Nat) by decide)) (dgs_cons (dg_name (pg_name (i := 5) sc_eased.nd rfl (.inl rfl)) (show 5 ∉ ([] : List Nat) by decide)) (dgs_cons (dg_name (pg_name (i := 6) sc_eased.nd rfl (.inl rfl)) (show 6 ∉ ([] : List Nat) by decide)) (dgs_nil)))))) (dss_one (ds_app (pv 2) (de_tup (da_cons (de_var (pv 3)) (da_cons (de_var (pv 4)) (da_cons (de_callB (cd_max rfl) rfl T.max (by decide +kernel) (da_cons (de_int) (da_cons (de_op od_sub (de_var (pv 5)) (de_var (pv 1))) (da_nil)))) (da_cons (de_if (dt_cmp od_is (de_var (pv 6)) (de_non) (nomark _)) (de_var (pv 6)) (de_op od_add (de_var (pv 6)) (de_var (pv 1)))) (da_nil))))))))) (dss_frz (i := 2) (dss_one (ds_ret (de_tup (da_cons (de_ix xd_ix (de_var (pv 0)) (de_int) (fun _ _ => rfl)) (da_cons (de_callTy cd_tuple rfl T.tuple (by decide +kernel) (da_cons (de_var (pv 2)) (da_nil))) (da_nil)))))) (show 2 ∉ ([] : List Nat) by decide)))
abbrev s_ease : Stmt := topS 49
abbrev N_ease : List Str := ["ring", "total", "low", "high", "middle", "term"]
theorem sc_ease : FnScope N_ease ["ring", "total"] (defScope s_ease) := ⟨rfl, rfl, rfl, by decide +kernel, rfl, by decide +kernel, by decide +kernel⟩
theorem ok_ease (T : Blt mg) (S : Stands K mg "ease" s_ease ["ring", "total"]) (h_look_at_ring : Has P w K mg base (caOf mg) "look_at_ring" 5 ["ring"] [] true F_look_at_ring) (h_look_at_total : Has P w K mg base (caOf mg) "look_at_total" 3 ["total"] [] true F_look_at_total) (h_found_bar : Has P w K mg base (caOf mg) "found_bar" 2 ["ring", "total"] [] true F_found_bar) (h_eased : Has P w K mg base (caOf mg) "eased" 1 ["ring", "by"] [] true F_eased) : Has P w K mg base (caOf mg) "ease" 6 ["ring", "total"] [] true F_ease :=
  S.has sc_ease (by decide) rfl fun f cdv A outer s H E hr hgd => by
    have tk := L2N.takes_of (X := cxOf (L2N.CX P w) P w K mg base N_ease "ease" (defScope s_ease) f cdv A outer s H E) (E := E) rfl rfl rfl rfl
    have po := passes_of (X := cxOf (L2N.CX P w) P w K mg base N_ease "ease" (defScope s_ease) f cdv A outer s H E) rfl
    exact dss_cons (ds_expr (de_callH h_look_at_ring hr (by decide) hgd rfl rfl tk (dc_im (de_var (pv 0)) (dc_nil)))) (dss_cons (ds_expr (de_callH h_look_at_total hr (by decide) hgd rfl rfl tk (dc_im (de_var (pv 1)) (dc_nil)))) (dss_cons (ds_par (i := 2) (j := 3) rfl sc_ease.nd rfl rfl (by decide) rfl rfl (da_cons (de_un ud_neg (de_int)) (da_cons (de_callB (cd_max rfl) rfl T.max (by decide +kernel) (da_cons (de_op od_add (de_lst (da_cons (de_var (pv 1)) (da_nil))) (de_lc (own := [("term", 5)]) rfl sc_ease.nd (di_seq (de_ix xd_ix (de_var (pv 0)) (de_int) (fun _ _ => rfl))) (blkOk_by (own := [("term", 5)]) (N := N_ease) (sc := defScope s_ease) (by decide +kernel)) (fun _ _ _ _ _ => dg_name (pg_name (i := 5) sc_ease.nd rfl (.inl rfl)) (show 5 ∉ ([] : List Nat) by decide)) (fun _ _ _ _ _ => dts_nil) (fun _ _ _ _ _ => de_ix xd_ix (de_var (pv 5)) (de_int) (fun _ _ => rfl)) (by decide))) (da_nil))) (da_nil))) (show 2 ∉ ([] : List Nat) by decide) (show 3 ∉ ([] : List Nat) by decide)) (dss_cons (ds_while po (dt_cmp od_gt (de_op od_sub (de_var (pv 3)) (de_var (pv 2))) (de_int) (nomark _)) (dss_cons (ds_set (i := 4) sc_ease.nd rfl (.inl rfl) (de_op od_fdiv (de_op od_add (de_var (pv 2)) (de_var (pv 3))) (de_int)) (show 4 ∉ ([] : List Nat) by decide)) (dss_one (ds_if (dt_cmp od_is (de_callH h_found_bar hr (by decide) hgd rfl rfl tk (dc_im (de_callH h_eased hr (by decide) hgd rfl rfl tk (dc_im (de_var (pv 0)) (dc_im (de_var (pv 4)) (dc_nil)))) (dc_im (de_var (pv 1)) (dc_nil)))) (de_non) (nomark _)) (dss_one (ds_set (i := 3) sc_ease.nd rfl (.inl rfl) (de_var (pv 4)) (show 3 ∉ ([] : List Nat) by decide))) (dss_one (ds_set (i := 2) sc_ease.nd rfl (.inl rfl) (de_var (pv 4)) (show 2 ∉ ([] : List Nat) by decide))))))) (dss_one (ds_ret (de_tup (da_cons (de_var (pv 3)) (da_cons (de_if (dt_cmp od_gt (de_var (pv 3)) (de_int) (nomark _)) (de_callH h_found_bar hr (by decide) hgd rfl rfl tk (dc_im (de_callH h_eased hr (by decide) hgd rfl rfl tk (dc_im (de_var (pv 0)) (dc_im (de_op od_sub (de_var (pv 3)) (de_int)) (dc_nil)))) (dc_im (de_var (pv 1)) (dc_nil)))) (de_non)) (da_nil)))))))))
abbrev s_law_mixed : Stmt := topS 51
abbrev N_law_mixed : List Str := ["_law_cell", "_law_k", "_law_number"]
theorem sc_law_mixed : FnScope N_law_mixed ["_law_cell", "_law_k"] (defScope s_law_mixed) := ⟨rfl, rfl, rfl, by decide +kernel, rfl, by decide +kernel, by decide +kernel⟩
theorem ok_law_mixed (T : Blt mg) (S : Stands K mg "_law_mixed" s_law_mixed ["_law_cell", "_law_k"]) : Has P w K mg base (caOf mg) "_law_mixed" 1 ["_law_cell", "_law_k"] [] true F_law_mixed :=
  S.has sc_law_mixed (by decide) rfl fun f cdv A outer s H E hr hgd => by
    have tk := L2N.takes_of (X := cxOf (L2N.CX P w) P w K mg base N_law_mixed "_law_mixed" (defScope s_law_mixed) f cdv A outer s H E) (E := E) rfl rfl rfl rfl
    have po := passes_of (X := cxOf (L2N.CX P w) P w K mg base N_law_mixed "_law_mixed" (defScope s_law_mixed) f cdv A outer s H E) rfl
    exact dss_cons (ds_set (i := 2) sc_law_mixed.nd rfl (.inl rfl) (de_op od_mod (de_callTy cd_int rfl T.int (by decide +kernel) (da_cons (de_op od_add (de_op od_add (de_op od_mul (de_op od_mod (de_callTy cd_int rfl T.int (by decide +kernel) (da_cons (de_var (pv 0)) (da_nil))) (de_int)) (de_int)) (de_op od_mul (de_var (pv 1)) (de_int))) (de_int)) (da_nil))) (de_int)) (show 2 ∉ ([] : List Nat) by decide)) (dss_cons (ds_set (i := 2) sc_law_mixed.nd rfl (.inl rfl) (de_op od_mod (de_callTy cd_int rfl T.int (by decide +kernel) (da_cons (de_op od_mul (de_var (pv 2)) (de_var (pv 2))) (da_nil))) (de_int)) (show 2 ∉ ([] : List Nat) by decide)) (dss_one (ds_ret (de_op od_mod (de_callTy cd_int rfl T.int (by decide +kernel) (da_cons (de_op od_mul (de_var (pv 2)) (de_op od_add (de_var (pv 2)) (de_int))) (da_nil))) (de_int)))))
abbrev s_law_pile : Stmt := topS 52
abbrev N_law_pile : List Str := ["_law_script", "_law_k", "_law_cell", "_law_found", "_law_j"]
theorem sc_law_pile : FnScope N_law_pile ["_law_script", "_law_k"] (defScope s_law_pile) := ⟨rfl, rfl, rfl, by decide +kernel, rfl, by decide +kernel, by decide +kernel⟩
theorem ok_law_pile (T : Blt mg) (S : Stands K mg "_law_pile" s_law_pile ["_law_script", "_law_k"]) (h_law_mixed : Has P w K mg base (caOf mg) "_law_mixed" 1 ["_law_cell", "_law_k"] [] true F_law_mixed) : Has P w K mg base (caOf mg) "_law_pile" 2 ["_law_script", "_law_k"] [] true F_law_pile :=
  S.has sc_law_pile (by decide) rfl fun f cdv A outer s H E hr hgd => by
    have tk := L2N.takes_of (X := cxOf (L2N.CX P w) P w K mg base N_law_pile "_law_pile" (defScope s_law_pile) f cdv A outer s H E) (E := E) rfl rfl rfl rfl
    have po := passes_of (X := cxOf (L2N.CX P w) P w K mg base N_law_pile "_law_pile" (defScope s_law_pile) f cdv A outer s H E) rfl
    exact dss_cons (ds_set (i := 2) sc_law_pile.nd rfl (.inl rfl) (de_int) (show 2 ∉ ([] : List Nat) by decide)) (dss_cons (ds_if (dt_cmp od_lt (de_var (pv 1)) (de_callB (cd_len) rfl T.len (by decide +kernel) (da_cons (de_var (pv 0)) (da_nil))) (nomark _)) (dss_one (ds_set (i := 2) sc_law_pile.nd rfl (.inl rfl) (de_ix xd_ix (de_var (pv 0)) (de_var (pv 1)) (fun _ _ => rfl)) (show 2 ∉ ([] : List Nat) by decide))) (dss_nil)) (dss_cons (ds_if (dt_cmp od_ge (de_var (pv 2)) (de_op od_pow (de_int) (de_int)) (nomark _)) (dss_one (ds_ret (de_lst (da_cons (de_op od_mod (de_callTy cd_int rfl T.int (by decide +kernel) (da_cons (de_op od_sub (de_var (pv 2)) (de_op od_pow (de_int) (de_int))) (da_nil))) (de_op od_mul (de_op od_mul (de_op od_mul (de_op od_pow (de_int) (de_int)) (de_op od_pow (de_int) (de_int))) (de_op od_pow (de_int) (de_int))) (de_op od_pow (de_int) (de_int)))) (da_nil))))) (dss_nil)) (dss_cons (ds_set (i := 3) sc_law_pile.nd rfl (.inl rfl) (de_int) (show 3 ∉ ([] : List Nat) by decide)) (dss_cons (ds_for po rfl (di_range1 (by rfl) T.range (da_cons (de_int) (da_nil))) (dg_name (pg_name (i := 4) sc_law_pile.nd rfl (.inl rfl)) (show 4 ∉ ([] : List Nat) by decide)) (dss_one (ds_set (i := 3) sc_law_pile.nd rfl (.inl rfl) (de_op od_add (de_op od_mul (de_var (pv 3)) (de_int)) (de_callH h_law_mixed hr (by decide) hgd rfl rfl tk (dc_im (de_var (pv 2)) (dc_im (de_op od_add (de_op od_add (de_op od_mul (de_int) (de_var (pv 1))) (de_op od_mul (de_int) (de_var (pv 4)))) (de_op od_mul (de_var (pv 4)) (de_var (pv 4)))) (dc_nil))))) (show 3 ∉ ([] : List Nat) by decide)))) (dss_one (ds_ret (de_lst (da_cons (de_var (pv 3)) (da_nil)))))))))
abbrev s_law_take : Stmt := topS 53
abbrev N_law_take : List Str := ["_law_pile_here", "_law_size", "_law_digit"]
theorem sc_law_take : FnScope N_law_take ["_law_pile_here", "_law_size"] (defScope s_law_take) := ⟨rfl, rfl, rfl, by decide +kernel, rfl, by decide +kernel, by decide +kernel⟩
theorem ok_law_take (T : Blt mg) (S : Stands K mg "_law_take" s_law_take ["_law_pile_here", "_law_size"]) : Has P w K mg base (caOf mg) "_law_take" 1 ["_law_pile_here", "_law_size"] [0] false F_law_take :=
  S.has sc_law_take (by decide) rfl fun f cdv A outer s H E hr hgd => by
    have tk := L2N.takes_of (X := cxOf (L2N.CX P w) P w K mg base N_law_take "_law_take" (defScope s_law_take) f cdv A outer s H E) (E := E) rfl rfl rfl rfl
    have po := passes_of (X := cxOf (L2N.CX P w) P w K mg base N_law_take "_law_take" (defScope s_law_take) f cdv A outer s H E) rfl
    exact dss_cons (ds_set (i := 2) sc_law_take.nd rfl (.inl rfl) (de_op od_mod (de_callTy cd_int rfl T.int (by decide +kernel) (da_cons (de_ixO (pv 0) (de_int) (fun _ _ => rfl)) (da_nil))) (de_var (pv 1))) (show 2 ∉ ([0] : List Nat) by decide)) (dss_cons (ds_sto (pv 0) (de_int) (de_op od_fdiv (de_ixO (pv 0) (de_int) (fun _ _ => rfl)) (de_var (pv 1))) (pg_sub (pv 0) (de_int) set_list)) (dss_one (ds_ret (de_var (pv 2)))))
abbrev s_law_places : Stmt := topS 54
abbrev N_law_places : List Str := ["_law_many", "_law_first_it", "_law_length_it", "_law_step"]
theorem sc_law_places : FnScope N_law_places ["_law_many", "_law_first_it", "_law_length_it"] (defScope s_law_places) := ⟨rfl, rfl, rfl, by decide +kernel, rfl, by decide +kernel, by decide +kernel⟩
theorem ok_law_places (T : Blt mg) (S : Stands K mg "_law_places" s_law_places ["_law_many", "_law_first_it", "_law_length_it"]) : Has P w K mg base (caOf mg) "_law_places" 1 ["_law_many", "_law_first_it", "_law_length_it"] [] true F_law_places :=
  S.has sc_law_places (by decide) rfl fun f cdv A outer s H E hr hgd => by
    have tk := L2N.takes_of (X := cxOf (L2N.CX P w) P w K mg base N_law_places "_law_places" (defScope s_law_places) f cdv A outer s H E) (E := E) rfl rfl rfl rfl
    have po := passes_of (X := cxOf (L2N.CX P w) P w K mg base N_law_places "_law_places" (defScope s_law_places) f cdv A outer s H E) rfl
    exact dss_one (ds_ret (de_lc (own := [("_law_step", 3)]) rfl sc_law_places.nd (di_range1 (by rfl) T.range (da_cons (de_var (pv 2)) (da_nil))) (blkOk_by (own := [("_law_step", 3)]) (N := N_law_places) (sc := defScope s_law_places) (by decide +kernel)) (fun _ _ _ _ _ => dg_name (pg_name (i := 3) sc_law_places.nd rfl (.inl rfl)) (show 3 ∉ ([] : List Nat) by decide)) (fun _ _ _ _ _ => dts_nil) (fun _ _ _ _ _ => de_op od_mod (de_callTy cd_int rfl T.int (by decide +kernel) (da_cons (de_op od_add (de_var (pv 1)) (de_var (pv 3))) (da_nil))) (de_var (pv 0))) (by decide)))
abbrev s_law_stones : Stmt := topS 55
abbrev N_law_stones : List Str := ["_law_laying_it", "_law_first_it", "_law_length_it", "_law_found", "_law_place"]
theorem sc_law_stones : FnScope N_law_stones ["_law_laying_it", "_law_first_it", "_law_length_it"] (defScope s_law_stones) := ⟨rfl, rfl, rfl, by decide +kernel, rfl, by decide +kernel, by decide +kernel⟩
theorem ok_law_stones (T : Blt mg) (S : Stands K mg "_law_stones" s_law_stones ["_law_laying_it", "_law_first_it", "_law_length_it"]) (h_law_places : Has P w K mg base (caOf mg) "_law_places" 1 ["_law_many", "_law_first_it", "_law_length_it"] [] true F_law_places) : Has P w K mg base (caOf mg) "_law_stones" 2 ["_law_laying_it", "_law_first_it", "_law_length_it"] [] false F_law_stones :=
  S.has sc_law_stones (by decide) rfl fun f cdv A outer s H E hr hgd => by
    have tk := L2N.takes_of (X := cxOf (L2N.CX P w) P w K mg base N_law_stones "_law_stones" (defScope s_law_stones) f cdv A outer s H E) (E := E) rfl rfl rfl rfl
    have po := passes_of (X := cxOf (L2N.CX P w) P w K mg base N_law_stones "_law_stones" (defScope s_law_stones) f cdv A outer s H E) rfl
    exact dss_cons (ds_set (i := 3) sc_law_stones.nd rfl (.inl rfl) (de_int) (show 3 ∉ ([] : List Nat) by decide)) (dss_cons (ds_for po rfl (di_seq (de_callH h_law_places hr (by decide) hgd rfl rfl tk (dc_im (de_callB (cd_len) rfl T.len (by decide +kernel) (da_cons (de_var (pv 0)) (da_nil))) (dc_im (de_var (pv 1)) (dc_im (de_var (pv 2)) (dc_nil)))))) (dg_name (pg_name (i := 4) sc_law_stones.nd rfl (.inl rfl)) (show 4 ∉ ([] : List Nat) by decide)) (dss_one (ds_set (i := 3) sc_law_stones.nd rfl (.inl rfl) (de_op od_add (de_var (pv 3)) (de_ix xd_ix (de_var (pv 0)) (de_var (pv 4)) (fun _ _ => rfl))) (show 3 ∉ ([] : List Nat) by decide)))) (dss_one (ds_ret (de_var (pv 3)))))
abbrev s_law_drawn : Stmt := topS 56
abbrev N_law_drawn : List Str := ["_law_pile_here", "_law_many", "_law_total_it", "_law_found", "_law_stone"]
theorem sc_law_drawn : FnScope N_law_drawn ["_law_pile_here", "_law_many", "_law_total_it"] (defScope s_law_drawn) := ⟨rfl, rfl, rfl, by decide +kernel, rfl, by decide +kernel, by decide +kernel⟩
theorem ok_law_drawn (T : Blt mg) (S : Stands K mg "_law_drawn" s_law_drawn ["_law_pile_here", "_law_many", "_law_total_it"]) (h_law_take : Has P w K mg base (caOf mg) "_law_take" 1 ["_law_pile_here", "_law_size"] [0] false F_law_take) : Has P w K mg base (caOf mg) "_law_drawn" 2 ["_law_pile_here", "_law_many", "_law_total_it"] [0] true F_law_drawn :=
  S.has sc_law_drawn (by decide) rfl fun f cdv A outer s H E hr hgd => by
    have tk := L2N.takes_of (X := cxOf (L2N.CX P w) P w K mg base N_law_drawn "_law_drawn" (defScope s_law_drawn) f cdv A outer s H E) (E := E) rfl rfl rfl rfl
    have po := passes_of (X := cxOf (L2N.CX P w) P w K mg base N_law_drawn "_law_drawn" (defScope s_law_drawn) f cdv A outer s H E) rfl
    exact dss_cons (ds_setO (i := 3) sc_law_drawn.nd rfl (.inl rfl) (de_rep (de_lst (da_cons (de_int) (da_nil))) (de_var (pv 1))) (show 3 ∉ ([0] : List Nat) by decide)) (dss_cons (ds_for po rfl (di_range1 (by rfl) T.range (da_cons (de_var (pv 2)) (da_nil))) (dg_name (pg_name (i := 4) sc_law_drawn.nd rfl (.inl rfl)) (show 4 ∉ ([0] : List Nat) by decide)) (dss_one (ds_augS (pv 3) (de_callH h_law_take hr (by decide) hgd rfl rfl tk (dc_sl (pv 0) (dc_im (de_var (pv 1)) (dc_nil)))) (de_int) ip_add))) (dss_frz (i := 3) (dss_one (ds_ret (de_callTy cd_tuple rfl T.tuple (by decide +kernel) (da_cons (de_var (pv 3)) (da_nil))))) (show 3 ∉ ([0] : List Nat) by decide)))
abbrev s_law_ring : Stmt := topS 57
abbrev N_law_ring : List Str := ["_law_pile_here", "_law_places_here", "_law_count", "_law_wide", "_law_many", "_law_way", "_law_base", "_law_terms", "_law_k", "_law_first_it", "_law_length_it", "_law_here", "_law_least", "_law_most", "_law_term"]
theorem sc_law_ring : FnScope N_law_ring ["_law_pile_here", "_law_places_here", "_law_count", "_law_wide"] (defScope s_law_ring) := ⟨rfl, rfl, rfl, by decide +kernel, rfl, by decide +kernel, by decide +kernel⟩
theorem ok_law_ring (T : Blt mg) (S : Stands K mg "_law_ring" s_law_ring ["_law_pile_here", "_law_places_here", "_law_count", "_law_wide"]) (h_law_take : Has P w K mg base (caOf mg) "_law_take" 1 ["_law_pile_here", "_law_size"] [0] false F_law_take) (h_law_drawn : Has P w K mg base (caOf mg) "_law_drawn" 2 ["_law_pile_here", "_law_many", "_law_total_it"] [0] true F_law_drawn) (h_law_stones : Has P w K mg base (caOf mg) "_law_stones" 2 ["_law_laying_it", "_law_first_it", "_law_length_it"] [] false F_law_stones) : Has P w K mg base (caOf mg) "_law_ring" 3 ["_law_pile_here", "_law_places_here", "_law_count", "_law_wide"] [0] true F_law_ring :=
  S.has sc_law_ring (by decide) rfl fun f cdv A outer s H E hr hgd => by
    have tk := L2N.takes_of (X := cxOf (L2N.CX P w) P w K mg base N_law_ring "_law_ring" (defScope s_law_ring) f cdv A outer s H E) (E := E) rfl rfl rfl rfl
    have po := passes_of (X := cxOf (L2N.CX P w) P w K mg base N_law_ring "_law_ring" (defScope s_law_ring) f cdv A outer s H E) rfl
    exact dss_cons (ds_set (i := 4) sc_law_ring.nd rfl (.inl rfl) (de_op od_add (de_int) (de_callH h_law_take hr (by decide) hgd rfl rfl tk (dc_sl (pv 0) (dc_im (de_var (pv 1)) (dc_nil))))) (show 4 ∉ ([0] : List Nat) by decide)) (dss_cons (ds_set (i := 5) sc_law_ring.nd rfl (.inl rfl) (de_callH h_law_take hr (by decide) hgd rfl rfl tk (dc_sl (pv 0) (dc_im (de_int) (dc_nil)))) (show 5 ∉ ([0] : List Nat) by decide)) (dss_cons (ds_set (i := 6) sc_law_ring.nd rfl (.inl rfl) (de_callH h_law_drawn hr (by decide) hgd rfl rfl tk (dc_sl (pv 0) (dc_im (de_var (pv 4)) (dc_im (de_callH h_law_take hr (by decide) hgd rfl rfl tk (dc_sl (pv 0) (dc_im (de_op od_add (de_var (pv 3)) (de_int)) (dc_nil)))) (dc_nil))))) (show 6 ∉ ([0] : List Nat) by decide)) (dss_cons (ds_setO (i := 7) sc_law_ring.nd rfl (.inl rfl) (de_lst (da_nil)) (show 7 ∉ ([0] : List Nat) by decide)) (dss_cons (ds_for po rfl (di_range1 (by rfl) T.range (da_cons (de_callH h_law_take hr (by decide) hgd rfl rfl tk (dc_sl (pv 0) (dc_im (de_op od_add (de_var (pv 2)) (de_int)) (dc_nil)))) (da_nil))) (dg_name (pg_name (i := 8) sc_law_ring.nd rfl (.inl rfl)) (show 8 ∉ ([0] : List Nat) by decide)) (dss_cons (ds_par (i := 9) (j := 10) rfl sc_law_ring.nd rfl rfl (by decide) rfl rfl (da_cons (de_callH h_law_take hr (by decide) hgd rfl rfl tk (dc_sl (pv 0) (dc_im (de_var (pv 4)) (dc_nil)))) (da_cons (de_op od_add (de_int) (de_callH h_law_take hr (by decide) hgd rfl rfl tk (dc_sl (pv 0) (dc_im (de_var (pv 4)) (dc_nil))))) (da_nil))) (show 9 ∉ ([0] : List Nat) by decide) (show 10 ∉ ([0] : List Nat) by decide)) (dss_cons (ds_set (i := 11) sc_law_ring.nd rfl (.inl rfl) (de_callH h_law_stones hr (by decide) hgd rfl rfl tk (dc_im (de_var (pv 6)) (dc_im (de_var (pv 9)) (dc_im (de_var (pv 10)) (dc_nil))))) (show 11 ∉ ([0] : List Nat) by decide)) (dss_cons (ds_par (i := 12) (j := 13) rfl sc_law_ring.nd rfl rfl (by decide) rfl rfl (da_cons (de_op od_sub (de_var (pv 11)) (de_callH h_law_take hr (by decide) hgd rfl rfl tk (dc_sl (pv 0) (dc_im (de_int) (dc_nil))))) (da_cons (de_op od_add (de_var (pv 11)) (de_callH h_law_take hr (by decide) hgd rfl rfl tk (dc_sl (pv 0) (dc_im (de_int) (dc_nil))))) (da_nil))) (show 12 ∉ ([0] : List Nat) by decide) (show 13 ∉ ([0] : List Nat) by decide)) (dss_cons (ds_if (dt_cmp (od_eq hr.units) (de_var (pv 5)) (de_int) (nomark _)) (dss_one (ds_par (i := 12) (j := 13) rfl sc_law_ring.nd rfl rfl (by decide) rfl rfl (da_cons (de_callH h_law_take hr (by decide) hgd rfl rfl tk (dc_sl (pv 0) (dc_im (de_var (pv 3)) (dc_nil)))) (da_cons (de_callH h_law_take hr (by decide) hgd rfl rfl tk (dc_sl (pv 0) (dc_im (de_op od_add (de_var (pv 3)) (de_int)) (dc_nil)))) (da_nil))) (show 12 ∉ ([0] : List Nat) by decide) (show 13 ∉ ([0] : List Nat) by decide))) (dss_nil)) (dss_cons (ds_if (PW.pt (dw_and (dt_cmp (od_eq hr.units) (de_var (pv 5)) (de_int) (nomark _)) (dw_and1 (dt_cmp (od_eq hr.units) (de_callH h_law_take hr (by decide) hgd rfl rfl tk (dc_sl (pv 0) (dc_im (de_int) (dc_nil)))) (de_int) (nomark _))))) (dss_one (ds_set (i := 12) sc_law_ring.nd rfl (.inl rfl) (de_op od_add (de_var (pv 11)) (de_int)) (show 12 ∉ ([0] : List Nat) by decide))) (dss_nil)) (dss_cons (ds_if (dt_cmp (od_eq hr.units) (de_callH h_law_take hr (by decide) hgd rfl rfl tk (dc_sl (pv 0) (dc_im (de_int) (dc_nil)))) (de_int) (nomark _)) (dss_one (ds_set (i := 13) sc_law_ring.nd rfl (.inl rfl) (de_non) (show 13 ∉ ([0] : List Nat) by decide))) (dss_nil)) (dss_cons (ds_if (dt_cmp (od_eq hr.units) (de_callH h_law_take hr (by decide) hgd rfl rfl tk (dc_sl (pv 0) (dc_im (de_int) (dc_nil)))) (de_int) (nomark _)) (dss_one (ds_set (i := 12) sc_law_ring.nd rfl (.inl rfl) (de_int) (show 12 ∉ ([0] : List Nat) by decide))) (dss_nil)) (dss_one (ds_app (pv 7) (de_tup (da_cons (de_var (pv 9)) (da_cons (de_var (pv 10)) (da_cons (de_ix xd_ix (de_lst (da_cons (de_int) (da_cons (de_var (pv 12)) (da_nil)))) (de_callTy cd_int rfl T.int (by decide +kernel) (da_cons (de_cmp od_gt (de_var (pv 12)) (de_int) (nomark _)) (da_nil))) (fun _ _ => rfl)) (da_cons (de_var (pv 13)) (da_nil)))))))))))))))) (dss_frz (i := 7) (dss_one (ds_ret (de_tup (da_cons (de_var (pv 4)) (da_cons (de_callTy cd_tuple rfl T.tuple (by decide +kernel) (da_cons (de_lc (own := [("_law_term", 14)]) rfl sc_law_ring.nd (di_seq (de_var (pv 7))) (blkOk_by (own := [("_law_term", 14)]) (N := N_law_ring) (sc := defScope s_law_ring) (by decide +kernel)) (fun _ _ _ _ _ => dg_name (pg_name (i := 14) sc_law_ring.nd rfl (.inl rfl)) (show 14 ∉ ([0] : List Nat) by decide)) (fun _ _ _ _ _ => dts_one (PW.pt (dw_or (dt_cmp od_is (de_ix xd_ix (de_var (pv 14)) (de_int) (fun _ _ => rfl)) (de_non) (nomark _)) (dw_or1 (dt_cmp od_ge (de_ix xd_ix (de_var (pv 14)) (de_int) (fun _ _ => rfl)) (de_int) (nomark _)))))) (fun _ _ _ _ _ => de_var (pv 14)) (by decide)) (da_nil))) (da_nil)))))) (show 7 ∉ ([0] : List Nat) by decide))))))
abbrev s_law_rings_good : Stmt := topS 58
abbrev N_law_rings_good : List Str := ["_law_loop", "_law_spot", "_law_wide", "_law_stones_of"]
theorem sc_law_rings_good : FnScope N_law_rings_good ["_law_loop", "_law_spot", "_law_wide", "_law_stones_of"] (defScope s_law_rings_good) := ⟨rfl, rfl, rfl, by decide +kernel, rfl, by decide +kernel, by decide +kernel⟩
theorem ok_law_rings_good (T : Blt mg) (S : Stands K mg "_law_rings_good" s_law_rings_good ["_law_loop", "_law_spot", "_law_wide", "_law_stones_of"]) (sS_is_ring : Stands K mg "is_ring" s_is_ring ["thing"]) (sS_is_laying : Stands K mg "is_laying" s_is_laying ["ring", "thing"]) (sS_stretch : Stands K mg "stretch" s_stretch ["ring", "first", "length"]) (sS_broken : Stands K mg "broken" s_broken ["ring", "laying"]) (h_is_ring : Has P w K mg base (caOf mg) "is_ring" 5 ["thing"] [] true F_is_ring) (h_is_laying : Has P w K mg base (caOf mg) "is_laying" 6 ["ring", "thing"] [] true F_is_laying) (h_stretch : Has P w K mg base (caOf mg) "stretch" 6 ["ring", "first", "length"] [] true F_stretch) (h_broken : Has P w K mg base (caOf mg) "broken" 6 ["ring", "laying"] [] true F_broken) : Has P w K mg base (caOf mg) "_law_rings_good" 7 ["_law_loop", "_law_spot", "_law_wide", "_law_stones_of"] [] true F_law_rings_good :=
  S.has sc_law_rings_good (by decide) rfl fun f cdv A outer s H E hr hgd => by
    have tk := L2N.takes_of (X := cxOf (L2N.CX P w) P w K mg base N_law_rings_good "_law_rings_good" (defScope s_law_rings_good) f cdv A outer s H E) (E := E) rfl rfl rfl rfl
    have po := passes_of (X := cxOf (L2N.CX P w) P w K mg base N_law_rings_good "_law_rings_good" (defScope s_law_rings_good) f cdv A outer s H E) rfl
    exact dss_cons (ds_if (PW.pt (dw_or (dt_cmp od_isnt (de_callKw (ks := ["thing"]) sS_is_ring h_is_ring (fun _ _ _ _ _ _ us ws h1 h2 => match us, h1, ws, h2 with | [], _, [_], _ => rfl) hr (by decide) hgd rfl tk (dk_one (de_var (pv 0))) (len_cons len_nil) (fun zs h => match zs, h with | [_], _ => rfl)) (de_bl) (nomark _)) (dw_or1 (dt_cmp od_isnt (de_callKw (ks := ["thing", "ring"]) sS_is_laying h_is_laying (fun _ _ _ _ _ _ us ws h1 h2 => match us, h1, ws, h2 with | [], _, [_, _], _ => rfl) hr (by decide) hgd rfl tk (dk_cons (de_var (pv 3)) (dk_one (de_var (pv 0)))) (len_cons (len_cons len_nil)) (fun zs h => match zs, h with | [_, _], _ => rfl)) (de_bl) (nomark _))))) (dss_one (ds_ret (de_bl))) (dss_nil)) (dss_cons (ds_if (dt_cmp (od_ne hr.units) (de_callKw (ks := ["length", "first", "ring"]) sS_stretch h_stretch (fun _ _ _ _ _ _ us ws h1 h2 => match us, h1, ws, h2 with | [], _, [_, _, _], _ => rfl) hr (by decide) hgd rfl tk (dk_cons (de_var (pv 2)) (dk_cons (de_var (pv 1)) (dk_one (de_var (pv 0))))) (len_cons (len_cons (len_cons len_nil))) (fun zs h => match zs, h with | [_, _, _], _ => rfl)) (de_callH h_stretch hr (by decide) hgd rfl rfl tk (dc_im (de_var (pv 0)) (dc_im (de_var (pv 1)) (dc_im (de_var (pv 2)) (dc_nil))))) (nomark _)) (dss_one (ds_ret (de_bl))) (dss_nil)) (dss_one (ds_ret (de_cmp (od_eq hr.units) (de_callKw (ks := ["laying", "ring"]) sS_broken h_broken (fun _ _ _ _ _ _ us ws h1 h2 => match us, h1, ws, h2 with | [], _, [_, _], _ => rfl) hr (by decide) hgd rfl tk (dk_cons (de_var (pv 3)) (dk_one (de_var (pv 0)))) (len_cons (len_cons len_nil)) (fun zs h => match zs, h with | [_, _], _ => rfl)) (de_callH h_broken hr (by decide) hgd rfl rfl tk (dc_im (de_var (pv 0)) (dc_im (de_var (pv 3)) (dc_nil)))) (nomark _)))))
abbrev s_law_laying_good : Stmt := topS 59
abbrev N_law_laying_good : List Str := ["_law_loop", "_law_sum_of", "_law_told"]
theorem sc_law_laying_good : FnScope N_law_laying_good ["_law_loop", "_law_sum_of"] (defScope s_law_laying_good) := ⟨rfl, rfl, rfl, by decide +kernel, rfl, by decide +kernel, by decide +kernel⟩
theorem ok_law_laying_good (T : Blt mg) (S : Stands K mg "_law_laying_good" s_law_laying_good ["_law_loop", "_law_sum_of"]) (sS_lay : Stands K mg "lay" s_lay ["ring", "total"]) (sS_totals : Stands K mg "totals" s_totals ["ring"]) (sS_is_bar : Stands K mg "is_bar" s_is_bar ["ring", "total", "thing"]) (h_lay : Has P w K mg base (caOf mg) "lay" 6 ["ring", "total"] [] true F_lay) (h_totals : Has P w K mg base (caOf mg) "totals" 6 ["ring"] [] true F_totals) (h_is_bar : Has P w K mg base (caOf mg) "is_bar" 6 ["ring", "total", "thing"] [] true F_is_bar) : Has P w K mg base (caOf mg) "_law_laying_good" 7 ["_law_loop", "_law_sum_of"] [] true F_law_laying_good :=
  S.has sc_law_laying_good (by decide) rfl fun f cdv A outer s H E hr hgd => by
    have tk := L2N.takes_of (X := cxOf (L2N.CX P w) P w K mg base N_law_laying_good "_law_laying_good" (defScope s_law_laying_good) f cdv A outer s H E) (E := E) rfl rfl rfl rfl
    have po := passes_of (X := cxOf (L2N.CX P w) P w K mg base N_law_laying_good "_law_laying_good" (defScope s_law_laying_good) f cdv A outer s H E) rfl
    exact dss_cons (ds_set (i := 2) sc_law_laying_good.nd rfl (.inl rfl) (de_callKw (ks := ["total", "ring"]) sS_lay h_lay (fun _ _ _ _ _ _ us ws h1 h2 => match us, h1, ws, h2 with | [], _, [_, _], _ => rfl) hr (by decide) hgd rfl tk (dk_cons (de_var (pv 1)) (dk_one (de_var (pv 0)))) (len_cons (len_cons len_nil)) (fun zs h => match zs, h with | [_, _], _ => rfl)) (show 2 ∉ ([] : List Nat) by decide)) (dss_cons (ds_if (PW.pt (dw_or (dt_cmp (od_ne hr.units) (de_var (pv 2)) (de_callH h_lay hr (by decide) hgd rfl rfl tk (dc_im (de_var (pv 0)) (dc_im (de_var (pv 1)) (dc_nil)))) (nomark _)) (dw_or1 (dt_cmp (od_ne hr.units) (de_callKw (ks := ["ring"]) sS_totals h_totals (fun _ _ _ _ _ _ us ws h1 h2 => match us, h1, ws, h2 with | [], _, [_], _ => rfl) hr (by decide) hgd rfl tk (dk_one (de_var (pv 0))) (len_cons len_nil) (fun zs h => match zs, h with | [_], _ => rfl)) (de_callH h_totals hr (by decide) hgd rfl rfl tk (dc_im (de_var (pv 0)) (dc_nil))) (nomark _))))) (dss_one (ds_ret (de_bl))) (dss_nil)) (dss_one (ds_ret (de_cmp (od_eq hr.units) (de_callKw (ks := ["thing", "total", "ring"]) sS_is_bar h_is_bar (fun _ _ _ _ _ _ us ws h1 h2 => match us, h1, ws, h2 with | [], _, [_, _, _], _ => rfl) hr (by decide) hgd rfl tk (dk_cons (de_ix xd_ix (de_var (pv 2)) (de_int) (fun _ _ => rfl)) (dk_cons (de_var (pv 1)) (dk_one (de_var (pv 0))))) (len_cons (len_cons (len_cons len_nil))) (fun zs h => match zs, h with | [_, _, _], _ => rfl)) (de_callH h_is_bar hr (by decide) hgd rfl rfl tk (dc_im (de_var (pv 0)) (dc_im (de_var (pv 1)) (dc_im (de_ix xd_ix (de_var (pv 2)) (de_int) (fun _ _ => rfl)) (dc_nil))))) (nomark _)))))
abbrev s_law_spans_good : Stmt := topS 60
abbrev N_law_spans_good : List Str := ["_law_loop", "_law_sum_of", "_law_spot", "_law_wide", "e"]
theorem sc_law_spans_good : FnScope N_law_spans_good ["_law_loop", "_law_sum_of", "_law_spot", "_law_wide"] (defScope s_law_spans_good) := ⟨rfl, rfl, rfl, by decide +kernel, rfl, by decide +kernel, by decide +kernel⟩
theorem ok_law_spans_good (T : Blt mg) (S : Stands K mg "_law_spans_good" s_law_spans_good ["_law_loop", "_law_sum_of", "_law_spot", "_law_wide"]) (XA : ExA K mg) (sS_needless : Stands K mg "needless" s_needless ["ring", "total"]) (sS_core : Stands K mg "core" s_core ["ring", "total"]) (sS_ease : Stands K mg "ease" s_ease ["ring", "total"]) (sS_span : Stands K mg "span" s_span ["ring", "total", "first", "length"]) (hH_is_bar : HasH P w K mg base (caOf mg) "is_bar" 6 ["ring", "total", "thing"] [] true F_is_bar) (h_needless : Has P w K mg base (caOf mg) "needless" 6 ["ring", "total"] [] true F_needless) (h_core : Has P w K mg base (caOf mg) "core" 6 ["ring", "total"] [] true F_core) (h_ease : Has P w K mg base (caOf mg) "ease" 6 ["ring", "total"] [] true F_ease) (h_is_bar : Has P w K mg base (caOf mg) "is_bar" 6 ["ring", "total", "thing"] [] true F_is_bar) (h_span : Has P w K mg base (caOf mg) "span" 6 ["ring", "total", "first", "length"] [] true F_span) : Has P w K mg base (caOf mg) "_law_spans_good" 7 ["_law_loop", "_law_sum_of", "_law_spot", "_law_wide"] [] true F_law_spans_good :=
  S.has sc_law_spans_good (by decide) rfl fun f cdv A outer s H E hr hgd => by
    have tk := L2N.takes_of (X := cxOf (L2N.CX P w) P w K mg base N_law_spans_good "_law_spans_good" (defScope s_law_spans_good) f cdv A outer s H E) (E := E) rfl rfl rfl rfl
    have po := passes_of (X := cxOf (L2N.CX P w) P w K mg base N_law_spans_good "_law_spans_good" (defScope s_law_spans_good) f cdv A outer s H E) rfl
    exact dss_cons (ds_if (dt_cmp (od_ne hr.units) (de_callKw (ks := ["total", "ring"]) sS_needless h_needless (fun _ _ _ _ _ _ us ws h1 h2 => match us, h1, ws, h2 with | [], _, [_, _], _ => rfl) hr (by decide) hgd rfl tk (dk_cons (de_var (pv 1)) (dk_one (de_var (pv 0)))) (len_cons (len_cons len_nil)) (fun zs h => match zs, h with | [_, _], _ => rfl)) (de_callH h_needless hr (by decide) hgd rfl rfl tk (dc_im (de_var (pv 0)) (dc_im (de_var (pv 1)) (dc_nil)))) (nomark _)) (dss_one (ds_ret (de_bl))) (dss_nil)) (dss_cons (ds_if (dt_cmp (od_ne hr.units) (de_callKw (ks := ["total", "ring"]) sS_core h_core (fun _ _ _ _ _ _ us ws h1 h2 => match us, h1, ws, h2 with | [], _, [_, _], _ => rfl) hr (by decide) hgd rfl tk (dk_cons (de_var (pv 1)) (dk_one (de_var (pv 0)))) (len_cons (len_cons len_nil)) (fun zs h => match zs, h with | [_, _], _ => rfl)) (de_callH h_core hr (by decide) hgd rfl rfl tk (dc_im (de_var (pv 0)) (dc_im (de_var (pv 1)) (dc_nil)))) (nomark _)) (dss_one (ds_ret (de_bl))) (dss_nil)) (dss_cons (ds_if (dt_cmp (od_ne hr.units) (de_callKw (ks := ["total", "ring"]) sS_ease h_ease (fun _ _ _ _ _ _ us ws h1 h2 => match us, h1, ws, h2 with | [], _, [_, _], _ => rfl) hr (by decide) hgd rfl tk (dk_cons (de_var (pv 1)) (dk_one (de_var (pv 0)))) (len_cons (len_cons len_nil)) (fun zs h => match zs, h with | [_, _], _ => rfl)) (de_callH h_ease hr (by decide) hgd rfl rfl tk (dc_im (de_var (pv 0)) (dc_im (de_var (pv 1)) (dc_nil)))) (nomark _)) (dss_one (ds_ret (de_bl))) (dss_nil)) (dss_one (ds_tryBar (i := 4) (i0 := 0) (i1 := 1) XA (by decide) rfl rfl rfl rfl tk rfl sc_law_spans_good.nd rfl rfl (fun a oe cls d pn zn fld => pss_suite XA (by decide) (.inl rfl) zn fld hH_is_bar (L2H.roomH_of hr) (by decide) rfl rfl (pv 0) (pv 1) (pv 4)) (fun W pn xe tk po => dss_one (ds_ret (de_cmp (od_eq hr.units) (de_callKw (ks := ["length", "first", "total", "ring"]) sS_span h_span (fun _ _ _ _ _ _ us ws h1 h2 => match us, h1, ws, h2 with | [], _, [_, _, _, _], _ => rfl) hr (by decide) hgd rfl tk (dk_cons (de_var (pv 3)) (dk_cons (de_var (pv 2)) (dk_cons (de_var (pv 1)) (dk_one (de_var (pv 0)))))) (len_cons (len_cons (len_cons (len_cons len_nil)))) (fun zs h => match zs, h with | [_, _, _, _], _ => rfl)) (de_callH h_span hr (by decide) hgd rfl rfl tk (dc_im (de_var (pv 0)) (dc_im (de_var (pv 1)) (dc_im (de_var (pv 2)) (dc_im (de_var (pv 3)) (dc_nil)))))) (nomark _))))))))
abbrev s_law : Stmt := topS 61
abbrev N_law : List Str := ["_law_script", "_law_number", "_law_pile_here", "_law_loop", "_law_sum_of", "_law_spot", "_law_wide"]
theorem sc_law : FnScope N_law ["_law_script"] (defScope s_law) := ⟨rfl, rfl, rfl, by decide +kernel, rfl, by decide +kernel, by decide +kernel⟩
theorem ok_law (T : Blt mg) (S : Stands K mg "law" s_law ["_law_script"]) (h_law_pile : Has P w K mg base (caOf mg) "_law_pile" 2 ["_law_script", "_law_k"] [] true F_law_pile) (h_law_ring : Has P w K mg base (caOf mg) "_law_ring" 3 ["_law_pile_here", "_law_places_here", "_law_count", "_law_wide"] [0] true F_law_ring) (h_law_take : Has P w K mg base (caOf mg) "_law_take" 1 ["_law_pile_here", "_law_size"] [0] false F_law_take) (h_law_rings_good : Has P w K mg base (caOf mg) "_law_rings_good" 7 ["_law_loop", "_law_spot", "_law_wide", "_law_stones_of"] [] true F_law_rings_good) (h_law_drawn : Has P w K mg base (caOf mg) "_law_drawn" 2 ["_law_pile_here", "_law_many", "_law_total_it"] [0] true F_law_drawn) (h_law_laying_good : Has P w K mg base (caOf mg) "_law_laying_good" 7 ["_law_loop", "_law_sum_of"] [] true F_law_laying_good) (h_law_spans_good : Has P w K mg base (caOf mg) "_law_spans_good" 7 ["_law_loop", "_law_sum_of", "_law_spot", "_law_wide"] [] true F_law_spans_good) : Has P w K mg base (caOf mg) "law" 8 ["_law_script"] [] true F_law :=
  S.has sc_law (by decide) rfl fun f cdv A outer s H E hr hgd => by
    have tk := L2N.takes_of (X := cxOf (L2N.CX P w) P w K mg base N_law "law" (defScope s_law) f cdv A outer s H E) (E := E) rfl rfl rfl rfl
    have po := passes_of (X := cxOf (L2N.CX P w) P w K mg base N_law "law" (defScope s_law) f cdv A outer s H E) rfl
    exact dss_cons (ds_for po rfl (di_range1 (by rfl) T.range (da_cons (de_callB (cd_max rfl) rfl T.max (by decide +kernel) (da_cons (de_int) (da_cons (de_callB (cd_min rfl) rfl T.min (by decide +kernel) (da_cons (de_callB (cd_len) rfl T.len (by decide +kernel) (da_cons (de_var (pv 0)) (da_nil))) (da_cons (de_int) (da_nil)))) (da_nil)))) (da_nil))) (dg_name (pg_name (i := 1) sc_law.nd rfl (.inl rfl)) (show 1 ∉ ([] : List Nat) by decide)) (dss_cons (ds_setO (i := 2) sc_law.nd rfl (.inl rfl) (de_callH h_law_pile hr (by decide) hgd rfl rfl tk (dc_im (de_var (pv 0)) (dc_im (de_var (pv 1)) (dc_nil)))) (show 2 ∉ ([] : List Nat) by decide)) (dss_cons (ds_set (i := 3) sc_law.nd rfl (.inl rfl) (de_callH h_law_ring hr (by decide) hgd rfl rfl tk (dc_sl (pv 2) (dc_im (de_int) (dc_im (de_int) (dc_im (de_int) (dc_nil)))))) (show 3 ∉ ([] : List Nat) by decide)) (dss_cons (ds_set (i := 4) sc_law.nd rfl (.inl rfl) (de_callH h_law_take hr (by decide) hgd rfl rfl tk (dc_sl (pv 2) (dc_im (de_int) (dc_nil)))) (show 4 ∉ ([] : List Nat) by decide)) (dss_cons (ds_par (i := 5) (j := 6) rfl sc_law.nd rfl rfl (by decide) rfl rfl (da_cons (de_callH h_law_take hr (by decide) hgd rfl rfl tk (dc_sl (pv 2) (dc_im (de_ix xd_ix (de_var (pv 3)) (de_int) (fun _ _ => rfl)) (dc_nil)))) (da_cons (de_op od_add (de_int) (de_callH h_law_take hr (by decide) hgd rfl rfl tk (dc_sl (pv 2) (dc_im (de_ix xd_ix (de_var (pv 3)) (de_int) (fun _ _ => rfl)) (dc_nil))))) (da_nil))) (show 5 ∉ ([] : List Nat) by decide) (show 6 ∉ ([] : List Nat) by decide)) (dss_cons (ds_if (dt_not (dt_val (de_callH h_law_rings_good hr (by decide) hgd rfl rfl tk (dc_im (de_var (pv 3)) (dc_im (de_var (pv 5)) (dc_im (de_var (pv 6)) (dc_im (de_callH h_law_drawn hr (by decide) hgd rfl rfl tk (dc_sl (pv 2) (dc_im (de_ix xd_ix (de_var (pv 3)) (de_int) (fun _ _ => rfl)) (dc_im (de_var (pv 4)) (dc_nil))))) (dc_nil)))))))) (dss_one (ds_ret (de_bl))) (dss_nil)) (dss_one (ds_if (PW.pt (dw_or (dt_not (dt_val (de_callH h_law_laying_good hr (by decide) hgd rfl rfl tk (dc_im (de_var (pv 3)) (dc_im (de_var (pv 4)) (dc_nil)))))) (dw_or1 (dt_not (dt_val (de_callH h_law_spans_good hr (by decide) hgd rfl rfl tk (dc_im (de_var (pv 3)) (dc_im (de_var (pv 4)) (dc_im (de_var (pv 5)) (dc_im (de_var (pv 6)) (dc_nil))))))))))) (dss_one (ds_ret (de_bl))) (dss_nil))))))))) (dss_one (ds_ret (de_bl)))
end
end DL
namespace DL
open PySem PySem.Spec PyProof.Rows L2
local macro_rules | `(tactic| walk_at "mir0") => `(tactic| first
  | with_reducible refine es_seq ?_
  | with_reducible refine es_set ?_
  | with_reducible refine es_ret ?_
  | with_reducible refine ev_var rfl ?_
  | with_reducible refine ev_c ?_
  | with_reducible refine ev_op ?_
  | with_reducible refine ev_nil ?_
  | with_reducible refine ev_ok ?_
  | with_reducible refine ev_cons ?_
  | with_reducible refine ev_star ?_
  | with_reducible refine ev_ca ?_
  | with_reducible refine ev_cNil ?_
  | with_reducible refine ev_cIm ?_
  | with_reducible refine ev_cSl rfl rfl ?_
  | with_reducible refine ev_call ?_
  | (with_reducible apply callAs_mk); (focus repeat (first | exact res_nil | apply res_im | ((apply res_sl); rfl; rfl))); rfl; exact of_decide_eq_true rfl; rfl
  | with_reducible refine ev_bool ?_
  | with_reducible refine ev_notT ?_
  | with_reducible refine ev_andT ?_
  | with_reducible refine ev_orT ?_
  | with_reducible refine ev_andV ?_
  | with_reducible refine ev_orV ?_
  | with_reducible refine ev_if ?_
  | with_reducible refine ev_un ?_
  | with_reducible refine ev_chain ?_
  | with_reducible refine ev_tup ?_
  | with_reducible refine ev_lst ?_
  | with_reducible refine ⟨Nat.le_trans (Nat.le_of_ble_eq_true rfl) (sizeLine_lt 1000 (by decide)), ?_⟩
  | with_reducible refine ev_isi ?_
  | with_reducible refine ev_isE ?_
  | with_reducible refine ev_mt ?_
  | with_reducible refine ev_ixO rfl ?_
  | with_reducible refine ev_lenO rfl ?_
  | with_reducible refine ev_reprO rfl ?_
  | with_reducible refine ev_isiO rfl ?_
  | with_reducible refine ev_opL rfl ?_
  | with_reducible refine ev_opR ?_
  | with_reducible refine ev_items ?_
  | with_reducible refine ev_lend rfl ?_
  | with_reducible refine ev_lendF rfl ?_
  | with_reducible refine ev_walk ?_
  | with_reducible refine ev_sl ?_
  | with_reducible refine ev_part ?_
  | with_reducible refine es_nil ?_
  | with_reducible refine es_expr ?_
  | with_reducible refine es_retN ?_
  | with_reducible refine es_retO rfl ?_
  | with_reducible refine es_asg ?_
  | with_reducible refine es_setO ?_
  | with_reducible refine es_frz rfl ?_
  | with_reducible refine es_app rfl ?_
  | with_reducible refine es_sto ?_
  | with_reducible refine es_augS rfl ?_
  | with_reducible refine es_aug rfl ?_
  | with_reducible refine es_par ?_
  | with_reducible refine es_par3 ?_
  | with_reducible refine es_for ?_
  | with_reducible refine es_raise ?_
  | with_reducible refine es_while ?_
  | with_reducible refine Par2.mk ?_
  | with_reducible refine Par3.mk ?_
  | with_reducible refine tt_mk ?_
  | with_reducible refine nt_mk ?_
  | with_reducible refine nf_mk ?_
  | with_reducible refine ff_mk ?_)
local macro_rules | `(tactic| walk_at "mir2") => `(tactic| first
  | with_reducible refine ev_o (addD_int _ _) ?_
  | with_reducible refine ev_o (subD_int _ _) ?_
  | with_reducible refine ev_o (negD_int _) ?_
  | with_reducible refine ev_o (intD_int _) ?_
  | with_reducible refine ev_o (ltD_int _ _) ?_
  | with_reducible refine ev_o (leD_int _ _) ?_
  | with_reducible refine ev_o (gtD_int _ _) ?_
  | with_reducible refine ev_o (geD_int _ _) ?_
  | with_reducible refine ev_o (neD_int _ _) ?_
  | with_reducible refine ev_o (eqD_int _ _) ?_
  | with_reducible refine ev_o (lenD_lmap _ _) ?_
  | with_reducible refine ev_o (lenD_tmap _ _) ?_
  | with_reducible refine ev_o (lenD_list _) ?_
  | with_reducible refine ev_o (lenD_tuple _) ?_
  | with_reducible refine ev_o (itemsD_list _) ?_
  | with_reducible refine ev_o (itemsD_tuple _) ?_
  | with_reducible refine ev_o (notD_bool _) ?_
  | with_reducible refine ev_o (modD_pos (by omega)) ?_
  | with_reducible refine ev_o (fdivD_pos (by omega) (by omega)) ?_
  | with_reducible refine ev_o (mulD_l (by omega) (by omega)) ?_
  | with_reducible refine ev_o (mulD_r (by omega) (by omega)) ?_
  | with_reducible refine ev_o (rangeD1_int (by omega) (by omega)) ?_
  | with_reducible refine ev_o (rangeD2_int (by omega) (by omega) (by omega) (by omega)) ?_
  | with_reducible refine ev_o (tupleD_list _) ?_
  | with_reducible refine ev_o (listD_list _) ?_
  | with_reducible refine ev_o (listD_tuple _) ?_
  | with_reducible refine ev_o (maxD2 _ _) ?_
  | with_reducible refine ev_o (minD2 _ _) ?_
  | refine ev_o rfl ?_
  | (with_reducible apply ex_mk); rfl)
local macro_rules | `(tactic| walk_at "mir1") => `(tactic| first | walk_at "mir0" | with_reducible refine es_if ?_ | with_reducible refine es_tryK ?_)
local macro_rules | `(tactic| walk_at "mir") => `(tactic| repeat' (first | walk_at "mir1" | walk_at "mir2"))
local macro_rules | `(tactic| walk_at "mirn") => `(tactic| repeat' (first | walk_at "mir0" | walk_at "mir2"))
def wholeD : D → Bool
  | .int _ => true
  | _ => false
def withinD (d : D) (lo hi : Int) : Bool := match d with
  | .int i => decide (lo ≤ i) && decide (i ≤ hi)
  | _ => false
def fromD (d : D) (lo : Int) : Bool := match d with
  | .int i => decide (lo ≤ i)
  | _ => false
theorem F_is_whole_eq (d : D) : F_is_whole [.im d] = .ok (.bool (wholeD d), [.im d]) := by cases d <;> rfl
theorem F_is_within_eq (d : D) (lo hi : Int) : F_is_within [.im d, .im (.int lo), .im (.int hi)] = .ok (.bool (withinD d lo hi), [.im d, .im (.int lo), .im (.int hi)]) := by
  refine ev_eqs (ev_fun ?_)
  unfold g_is_within
  walk_at "mir"
  refine ev_of (F_is_whole_eq d) ?_
  walk_at "mir"
  cases d with
  | int i =>
    refine ⟨fun _ => ?_, fun h => nomatch h⟩
    walk_at "mir"
    refine ⟨fun h => ?_, fun h => ?_⟩
    · walk_at "mir"
      simp only [withinD, h, Bool.true_and, true_and]; rfl
    · simp only [withinD, h, Bool.false_and, true_and]; rfl
  | _ => exact ⟨(fun h => nomatch h), fun _ => ⟨rfl, rfl⟩⟩
theorem F_is_within_true {i lo hi : Int} (h1 : lo ≤ i) (h2 : i ≤ hi) : F_is_within [.im (.int i), .im (.int lo), .im (.int hi)] = .ok (.bool true, [.im (.int i), .im (.int lo), .im (.int hi)]) := by
  rw [F_is_within_eq]; simp only [withinD, decide_eq_true h1, decide_eq_true h2, Bool.and_self]
theorem F_is_from_eq (d : D) (lo : Int) : F_is_from [.im d, .im (.int lo)] = .ok (.bool (fromD d lo), [.im d, .im (.int lo)]) := by
  refine ev_eqs (ev_fun ?_)
  unfold g_is_from
  walk_at "mir"
  refine ev_of (F_is_whole_eq d) ?_
  walk_at "mir"
  cases d with
  | int i =>
    refine ⟨fun _ => ?_, fun h => nomatch h⟩
    walk_at "mir"
    exact ⟨rfl, rfl⟩
  | _ => exact ⟨(fun h => nomatch h), fun _ => ⟨rfl, rfl⟩⟩
/-- a term, for m places -/
def termD (m : Int) (d : D) : Bool := match d with
  | .tuple [a, b, c, e] => withinD a 0 (m - 1) && withinD b 1 m && fromD c 0 && (match e with | .none => true | _ => fromD e 0)
  | _ => false
theorem isTy_tuple_of {d : D} : isTy "tuple" d = some (.bool (match d with | .tuple _ => true | _ => false)) := by cases d <;> rfl
theorem F_is_term_eq (m : Int) (d : D) : ∃ s, F_is_term [.im (.int m), .im d] = .ok (.bool (termD m d), s) := by
  suffices h : Ev (F_is_term [.im (.int m), .im d]) (fun x t => x = .bool (termD m d)) fun _ _ => False by
    obtain ⟨x, t, e, rfl⟩ := ev_eq h; exact ⟨t, e⟩
  refine ev_fun ?_
  unfold g_is_term
  walk_at "mir"
  refine ev_o isTy_tuple_of ?_
  walk_at "mir"
  cases d with
  | tuple xs =>
    refine ⟨(fun h => nomatch h), fun _ => ?_⟩
    walk_at "mir"
    refine ⟨fun h => ?_, fun h => ?_⟩
    · walk_at "mir"
      match xs, h with
      | [], _ => rfl
      | [_], _ => rfl
      | [_, _], _ => rfl
      | [_, _, _], _ => rfl
      | [_, _, _, _], h => simp at h
      | _ :: _ :: _ :: _ :: _ :: _, _ => rfl
    · have hl : (xs.length : Int) = 4 := by simpa using h
      match xs, hl with
      | [], hl => simp at hl
      | [_], hl => simp at hl
      | [_, _], hl => simp at hl
      | [_, _, _], hl => simp at hl
      | _ :: _ :: _ :: _ :: _ :: r, hl => simp at hl; omega
      | [a, b, c, e], _ =>
      walk_at "mir"
      refine ev_of (F_is_within_eq _ _ _) ?_
      walk_at "mir"
      refine ⟨fun h1 => ?_, fun h1 => ?_⟩
      · walk_at "mir"
        simp only [termD]
        rw [Bool.not_eq_true'] at h1
        rw [h1]; rfl
      · rw [Bool.not_eq_false'] at h1
        walk_at "mir"
        refine ev_of (F_is_within_eq _ _ _) ?_
        walk_at "mir"
        refine ⟨fun h2 => ?_, fun h2 => ?_⟩
        · walk_at "mir"
          rw [Bool.not_eq_true'] at h2
          simp only [termD]
          rw [h1, h2]; rfl
        · rw [Bool.not_eq_false'] at h2
          walk_at "mir"
          refine ev_of (F_is_from_eq _ _) ?_
          walk_at "mir"
          simp only [termD, h1, h2, Bool.true_and]
          refine ⟨fun h3 => ?_, fun h3 => ?_⟩
          · walk_at "mir"
            simp only [h3, Bool.true_and]
            cases e <;> (walk_at "mir"; first | rfl | exact ev_of (F_is_from_eq _ _) rfl)
          · simp only [h3, Bool.false_and]
  | _ =>
    refine ⟨(fun h => ?_), fun h => nomatch h⟩
    walk_at "mir"
    rfl
/-- a ring -/
def ringD (d : D) : Bool := match d with
  | .tuple [.int m, .tuple xs] => decide (1 ≤ m) && decide (m ≤ 40) && xs.all (termD m)
  | _ => false
theorem allD_map (f : D → Bool) (ds : List D) : allD [.list (ds.map fun x => .bool (f x))] = some (.bool (ds.all f)) := by
  rw [show (ds.map fun x => PyData.bool (f x)) = (ds.map f).map .bool by rw [List.map_map]; rfl, allD_list, List.all_map]; rfl
theorem F_is_right_ring_eq (d : D) (hs : ∀ m xs, d = .tuple [m, .tuple xs] → xs.length ≤ sizeLine) : ∃ s, F_is_right_ring [.im d] = .ok (.bool (ringD d), s) := by
  suffices h : Ev (F_is_right_ring [.im d]) (fun x t => x = .bool (ringD d)) fun _ _ => False by
    obtain ⟨x, t, e, rfl⟩ := ev_eq h; exact ⟨t, e⟩
  refine ev_fun ?_
  unfold g_is_right_ring
  walk_at "mir"
  refine ev_o isTy_tuple_of ?_
  walk_at "mir"
  cases d with
  | tuple xs =>
    refine ⟨(fun h => nomatch h), fun _ => ?_⟩
    walk_at "mir"
    refine ⟨fun h => ?_, fun h => ?_⟩
    · walk_at "mir"
      match xs, h with
      | [], _ => rfl
      | [_], _ => simp [ringD]
      | [_, _], h => simp at h
      | _ :: _ :: _ :: _, _ => simp [ringD]
    · have hl : (xs.length : Int) = 2 := by simpa using h
      match xs, hl, hs with
      | [], hl, _ => simp at hl
      | [_], hl, _ => simp at hl
      | _ :: _ :: _ :: r, hl, _ => simp at hl; omega
      | [m, ts], _, hs =>
      walk_at "mir"
      refine ev_of (F_is_within_eq _ _ _) ?_
      walk_at "mir"
      refine ⟨fun h1 => ?_, fun h1 => ?_⟩
      · walk_at "mir"
        rw [Bool.not_eq_true'] at h1
        cases m with
        | int i => cases ts <;> simp only [ringD]
                   simp only [withinD] at h1
                   rw [h1]; rfl
        | _ => rfl
      · rw [Bool.not_eq_false'] at h1
        walk_at "mir"
        refine ev_o isTy_tuple_of ?_
        walk_at "mir"
        cases m with
        | int i =>
          cases ts with
          | tuple xs =>
            refine ⟨fun _ => ?_, (fun h => nomatch h)⟩
            walk_at "mir"
            refine ev_lcm (v := fun x => .bool (termD i x)) ?_
            walk_at "mir"
            refine ⟨rfl, hs _ _ rfl, fun d hd => ?_, ?_⟩
            · walk_at "mir"
              obtain ⟨s, e⟩ := F_is_term_eq i d
              refine ev_of e ?_
              rw [back_ims rfl]
              exact ⟨rfl, rfl, rfl⟩
            · refine ev_ok (ev_o (allD_map _ _) ?_)
              simp only [withinD] at h1
              simp only [ringD, h1, Bool.true_and]
          | _ => exact ⟨(fun h => nomatch h), fun _ => rfl⟩
        | _ => exact nomatch h1
  | _ =>
    refine ⟨(fun h => ?_), fun h => nomatch h⟩
    walk_at "mir"
    rfl
/-- a laying on m places -/
def layD (m : Int) (d : D) : Bool := match d with
  | .tuple xs => decide ((xs.length : Int) = m) && xs.all fun x => fromD x 0
  | _ => false
theorem F_is_right_laying_eq (m : Int) (ts : D) (d : D) (hs : ∀ xs, d = .tuple xs → xs.length ≤ sizeLine) : ∃ s, F_is_right_laying [.im (.tuple [.int m, ts]), .im d] = .ok (.bool (layD m d), s) := by
  suffices h : Ev (F_is_right_laying [.im (.tuple [.int m, ts]), .im d]) (fun x t => x = .bool (layD m d)) fun _ _ => False by
    obtain ⟨x, t, e, rfl⟩ := ev_eq h; exact ⟨t, e⟩
  refine ev_fun ?_
  unfold g_is_right_laying
  walk_at "mir"
  refine ev_o isTy_tuple_of ?_
  walk_at "mir"
  cases d with
  | tuple xs =>
    refine ⟨fun _ => ?_, (fun h => nomatch h)⟩
    walk_at "mir"
    refine ⟨fun h => ?_, fun h => ?_⟩
    · walk_at "mir"
      refine ev_lcm (v := fun x => .bool (fromD x 0)) ?_
      walk_at "mir"
      refine ⟨rfl, hs _ rfl, fun d hd => ?_, ?_⟩
      · walk_at "mir"
        refine ev_of (F_is_from_eq _ _) ?_
        exact ⟨rfl, rfl, rfl⟩
      · refine ev_ok (ev_o (allD_map _ _) ?_)
        simp only [layD, h, Bool.true_and]
    · simp only [layD, h, Bool.false_and]
  | _ => exact ⟨(fun h => nomatch h), fun _ => rfl⟩
theorem F_look_at_ring_ok {d : D} (hs : ∀ m xs, d = .tuple [m, .tuple xs] → xs.length ≤ sizeLine) (h : ringD d = true) : F_look_at_ring [.im d] = .ok (.none, [.im d]) := by
  refine ev_eqs (ev_fun ?_)
  unfold g_look_at_ring
  walk_at "mir"
  obtain ⟨s, e⟩ := F_is_right_ring_eq d hs
  rw [h] at e
  refine ev_of e ?_
  walk_at "mir"
  exact ⟨rfl, by rw [back_ims rfl]; rfl⟩
theorem F_look_at_laying_ok {m : Int} {ts d : D} (hs : ∀ xs, d = .tuple xs → xs.length ≤ sizeLine) (h : layD m d = true) : F_look_at_laying [.im (.tuple [.int m, ts]), .im d] = .ok (.none, [.im (.tuple [.int m, ts]), .im d]) := by
  refine ev_eqs (ev_fun ?_)
  unfold g_look_at_laying
  walk_at "mir"
  obtain ⟨s, e⟩ := F_is_right_laying_eq m ts d hs
  rw [h] at e
  refine ev_of e ?_
  walk_at "mir"
  exact ⟨rfl, by rw [back_ims rfl]; rfl⟩
/-- a term -/
structure Tm where
  s : Int
  l : Int
  lo : Int
  hi : Option Int
def oI : Option Int → D
  | none => .none
  | some i => .int i
def Tm.d (t : Tm) : D := .tuple [.int t.s, .int t.l, .int t.lo, oI t.hi]
structure Tm.ok (m : Int) (t : Tm) : Prop where
  s0 : 0 ≤ t.s
  s1 : t.s < m
  l0 : 1 ≤ t.l
  l1 : t.l ≤ m
  lo0 : 0 ≤ t.lo
  hi0 : ∀ h, t.hi = some h → 0 ≤ h
def rgD (m : Int) (ts : List Tm) : D := .tuple [.int m, .tuple (ts.map Tm.d)]
def vI (xs : List Int) : D := .tuple (xs.map .int)
def lI (xs : List Int) : D := .list (xs.map .int)
theorem termD_ok {m : Int} {t : Tm} (h : t.ok m) : termD m t.d = true := by
  obtain ⟨a, b, c, d, e, f⟩ := h
  simp only [Tm.d, termD, withinD, fromD, decide_eq_true (show (0 : Int) ≤ t.s from a), decide_eq_true (show t.s ≤ m - 1 by omega), decide_eq_true (show 1 ≤ t.l from c), decide_eq_true d, decide_eq_true e, Bool.true_and]
  cases hh : t.hi with
  | none => rfl
  | some h => simp only [oI, fromD, decide_eq_true (f h hh)]
theorem ringD_ok {m : Int} {ts : List Tm} (h1 : 1 ≤ m) (h2 : m ≤ 40) (h : ∀ t ∈ ts, t.ok m) : ringD (rgD m ts) = true := by
  simp only [ringD, rgD, decide_eq_true h1, decide_eq_true h2, Bool.true_and, List.all_eq_true, List.mem_map]
  rintro _ ⟨t, ht, rfl⟩
  exact termD_ok (h t ht)
theorem layD_ok {m : Int} {xs : List Int} (h1 : (xs.length : Int) = m) (h : ∀ x ∈ xs, 0 ≤ x) : layD m (vI xs) = true := by
  simp only [layD, vI, List.length_map, decide_eq_true h1, Bool.true_and, List.all_eq_true, List.mem_map]
  rintro _ ⟨t, ht, rfl⟩
  simp only [fromD, decide_eq_true (h t ht)]
/-- the places of a stretch -/
def plc (n s l : Int) : List Int := (List.range l.toNat).map fun k => (s + (k : Nat)) % n
theorem plc_lt {n s l p : Int} (hn : 0 < n) (h : p ∈ plc n s l) : 0 ≤ p ∧ p < n := by
  simp only [plc, List.mem_map] at h
  obtain ⟨k, _, rfl⟩ := h
  exact ⟨Int.emod_nonneg _ (by omega), Int.emod_lt_of_pos _ hn⟩
theorem plc_length (n s l : Int) : (plc n s l).length = l.toNat := by simp [plc]
theorem rangeL_map (g : Int → D) (lo : Int) (n : Nat) (v : D → D) (hv : ∀ i : Nat, i < n → v (.int (lo + i)) = g (lo + i)) : (rangeL lo n).map v = ((List.range n).map fun i => g (lo + (i : Nat))) := by
  simp only [rangeL, List.map_map]
  apply List.map_congr_left
  intro i hi
  exact hv i (List.mem_range.mp hi)
theorem rangeL_mem {lo : Int} {n : Nat} {d : D} (h : d ∈ rangeL lo n) : ∃ i : Nat, i < n ∧ d = .int (lo + i) := by
  simp only [rangeL, List.mem_map, List.mem_range] at h
  obtain ⟨i, hi, rfl⟩ := h
  exact ⟨i, hi, rfl⟩
theorem rangeL_get {lo : Int} {n k : Nat} {d : D} (h : (rangeL lo n)[k]? = some d) : k < n ∧ d = .int (lo + k) := by
  simp only [rangeL, List.getElem?_map, Option.map_eq_some_iff] at h
  obtain ⟨a, ha, rfl⟩ := h
  rw [List.getElem?_eq_some_iff] at ha
  obtain ⟨h1, h2⟩ := ha
  simp only [List.length_range] at h1
  simp only [List.getElem_range] at h2
  subst h2
  exact ⟨h1, rfl⟩
theorem rangeL_length (lo : Int) (n : Nat) : (rangeL lo n).length = n := by simp [rangeL]
def modAt (n s : Int) : D → D
  | .int i => .int ((s + i) % n)
  | _ => .none
theorem F_places_of_eq {n s l : Int} (hn : 0 < n) (hl : l ≤ 1000000) (hl0 : 0 ≤ l) : ∃ t, F_places_of [.im (.int n), .im (.int s), .im (.int l)] = .ok (lI (plc n s l), t) := by
  suffices h : Ev (F_places_of [.im (.int n), .im (.int s), .im (.int l)]) (fun x t => x = lI (plc n s l)) fun _ _ => False by
    obtain ⟨x, t, e, rfl⟩ := ev_eq h; exact ⟨t, e⟩
  refine ev_fun ?_
  unfold g_places_of
  walk_at "mir"
  refine ev_lcm (v := modAt n s) ?_
  walk_at "mir"
  refine ⟨rfl, ?_, fun d hd => ?_, ?_⟩
  · rw [rangeL_length]; exact sizeLine_lt _ (by omega)
  · obtain ⟨i, hi, rfl⟩ := rangeL_mem hd
    walk_at "mir"
    exact ⟨rfl, rfl, rfl⟩
  · rw [rangeL_map (fun i => .int ((s + i) % n)) 0 l.toNat _ fun _ _ => rfl]
    simp only [lI, plc, List.map_map]
    congr 1
    apply List.map_congr_left
    intro i _
    simp only [Function.comp, Int.zero_add]
theorem F_look_at_stretch_ok {m a b : Int} {ts : D} (h1 : 0 ≤ a) (h2 : a < m) (h3 : 1 ≤ b) (h4 : b ≤ m) : ∃ t, F_look_at_stretch [.im (.tuple [.int m, ts]), .im (.int a), .im (.int b)] = .ok (.none, t) := by
  suffices h : Ev (F_look_at_stretch [.im (.tuple [.int m, ts]), .im (.int a), .im (.int b)]) (fun x t => x = .none) fun _ _ => False by
    obtain ⟨x, t, e, rfl⟩ := ev_eq h; exact ⟨t, e⟩
  refine ev_fun ?_
  unfold g_look_at_stretch
  walk_at "mir"
  refine ev_of (F_is_within_true h1 (by omega)) ?_
  walk_at "mir"
  refine ev_of (F_is_within_true h3 h4) ?_
  walk_at "mir"
  rfl
theorem short_of {m : Int} {ts : List Tm} (hs : ts.length ≤ 1000000) : ∀ m' xs, rgD m ts = .tuple [m', .tuple xs] → xs.length ≤ sizeLine := by
  intro m' xs h
  simp only [rgD, PyData.tuple.injEq, List.cons.injEq, and_true] at h
  rw [← h.2, List.length_map]
  exact sizeLine_lt _ (by omega)
theorem shortI_of {xs : List Int} (hs : xs.length ≤ 1000000) : ∀ ys, vI xs = .tuple ys → ys.length ≤ sizeLine := by
  intro ys h
  simp only [vI, PyData.tuple.injEq] at h
  rw [← h, List.length_map]
  exact sizeLine_lt _ (by omega)
theorem F_stretch_ok {m a b : Int} {ts : List Tm} (hr : ringD (rgD m ts) = true) (hs : ts.length ≤ 1000000) (h1 : 0 ≤ a) (h2 : a < m) (h3 : 1 ≤ b) (h4 : b ≤ m) (h5 : m ≤ 40) :
    ∃ t, F_stretch [.im (rgD m ts), .im (.int a), .im (.int b)] = .ok (lI (plc m a b), t) := by
  suffices h : Ev (F_stretch [.im (rgD m ts), .im (.int a), .im (.int b)]) (fun x t => x = lI (plc m a b)) fun _ _ => False by
    obtain ⟨x, t, e, rfl⟩ := ev_eq h; exact ⟨t, e⟩
  refine ev_fun ?_
  unfold g_stretch
  walk_at "mir"
  refine ev_of (F_look_at_ring_ok (short_of hs) hr) ?_
  walk_at "mir"
  obtain ⟨t, e⟩ := F_look_at_stretch_ok (m := m) (ts := .tuple (ts.map Tm.d)) h1 h2 h3 h4
  refine ev_of e ?_
  rw [back_ims rfl]
  unfold rgD
  walk_at "mir"
  obtain ⟨t, e⟩ := F_places_of_eq (n := m) (s := a) (l := b) (by omega) (by omega) (by omega)
  refine ev_of e ?_
  rfl
/-- the stones in a stretch -/
def stn (xs : List Int) (s l : Int) : Int := ((plc xs.length s l).map fun p => xs.getD p.toNat 0).sum
def atD (xs : List Int) : D → D
  | .int i => .int (xs.getD i.toNat 0)
  | _ => .none
theorem atI_int {xs : List Int} {p : Int} (h0 : 0 ≤ p) (h1 : p < xs.length) : atI (xs.map PyData.int) p = some (.int (xs.getD p.toNat 0)) := by
  refine atI_nat' h0 ?_
  rw [List.getElem?_map, List.getElem?_eq_getElem (by omega), List.getD_eq_getElem?_getD, List.getElem?_eq_getElem (by omega)]
  rfl
theorem F_stones_in_eq {xs : List Int} {s l : Int} (hn : xs ≠ []) (hl : l ≤ 1000000) (hl0 : 0 ≤ l) : ∃ t, F_stones_in [.im (vI xs), .im (.int s), .im (.int l)] = .ok (.int (stn xs s l), t) := by
  suffices h : Ev (F_stones_in [.im (vI xs), .im (.int s), .im (.int l)]) (fun x t => x = .int (stn xs s l)) fun _ _ => False by
    obtain ⟨x, t, e, rfl⟩ := ev_eq h; exact ⟨t, e⟩
  have hp : (0 : Int) < xs.length := by have := List.length_pos_iff.mpr hn; omega
  refine ev_fun ?_
  unfold g_stones_in vI
  walk_at "mir"
  refine ev_lcm (v := atD xs) ?_
  walk_at "mir"
  obtain ⟨t, e⟩ := F_places_of_eq (n := (xs.length : Int)) (s := s) (l := l) hp hl hl0
  refine ev_of e ?_
  rw [back_ims rfl]
  unfold lI
  walk_at "mir"
  refine ⟨rfl, ?_, fun d hd => ?_, ?_⟩
  · rw [List.length_map, plc_length]; exact sizeLine_lt _ (by omega)
  · obtain ⟨p, hp', rfl⟩ := List.mem_map.mp hd
    have := plc_lt hp hp'
    walk_at "mir"
    refine ev_o (atI_int this.1 this.2) ?_
    exact ⟨rfl, rfl, rfl⟩
  · rw [show ((plc (xs.length : Int) s l).map PyData.int).map (atD xs) = ((plc (xs.length : Int) s l).map fun p => xs.getD p.toNat 0).map .int by rw [List.map_map, List.map_map]; rfl]
    refine ev_ok (ev_o (sumD_list _) ?_)
    rfl
def badT (t : Tm) (v : Int) : Bool := decide (v < t.lo) || (match t.hi with | some h => decide (h < v) | none => false)
def brk1 (xs : List Int) (ts : List Tm) (k : Nat) : List D := match ts[k]? with
  | some t => if badT t (stn xs t.s t.l) = true then [.tuple [.int k, .int (stn xs t.s t.l)]] else []
  | none => []
def brkN (xs : List Int) (ts : List Tm) (k : Nat) : List D := (List.range k).flatMap (brk1 xs ts)
def brk (xs : List Int) (ts : List Tm) : List D := brkN xs ts ts.length
theorem brk1_length (xs : List Int) (ts : List Tm) (k : Nat) : (brk1 xs ts k).length ≤ 1 := by
  unfold brk1; split
  · split <;> simp
  · simp
theorem brkN_succ (xs : List Int) (ts : List Tm) (k : Nat) : brkN xs ts (k + 1) = brkN xs ts k ++ brk1 xs ts k := by
  simp only [brkN, List.range_succ, List.flatMap_append, List.flatMap_cons, List.flatMap_nil, List.append_nil]
theorem brkN_length (xs : List Int) (ts : List Tm) : ∀ k : Nat, (brkN xs ts k).length ≤ k
  | 0 => by simp [brkN]
  | k + 1 => by
    have := brkN_length xs ts k
    have := brk1_length xs ts k
    rw [brkN_succ, List.length_append]; omega
theorem es_badIf {N : En → Prop} {P : D → En → Prop} {B C : En → Prop} {E : Exn → En → Prop} {r x : Option Sl} {acc : List D} {k s l v : Int} {t : Tm} (ha : acc.length < 1000000)
    (q : N [r, x, some (.ow (acc ++ if badT t v = true then [.tuple [.int k, .int v]] else [])), some (.im (.int k)), some (.im (.int s)), some (.im (.int l)), some (.im (.int t.lo)), some (.im (oI t.hi)), some (.im (.int v))]) :
    Es (sIf (fOrT (fBool (fOp ltD (fVar 8) (fVar 6))) (fAndT (fBool (fOp isntD (fVar 7) (fC .none))) (fBool (fOp gtD (fVar 8) (fVar 7))))) (sApp 2 (fTup (fCons (fVar 3) (fCons (fVar 8) ((fun env => .ok ([], env))))))) (sNil)
      [r, x, some (.ow acc), some (.im (.int k)), some (.im (.int s)), some (.im (.int l)), some (.im (.int t.lo)), some (.im (oI t.hi)), some (.im (.int v))]) N P B C E := by
  have ha : acc.length < sizeLine := Nat.lt_of_lt_of_le ha (sizeLine_lt _ (by decide))
  by_cases hb : badT t v = true
  · rw [if_pos hb] at q
    unfold badT at hb
    walk_at "mir"
    refine ⟨fun h => ?_, fun h => ?_⟩
    · walk_at "mir"
      exact ⟨ha, q⟩
    · rw [h, Bool.false_or] at hb
      cases hh : t.hi with
      | none => rw [hh] at hb; exact nomatch hb
      | some i =>
        rw [hh] at hb q
        have hb : decide (i < v) = true := hb
        unfold oI
        walk_at "mir"
        refine ⟨fun _ => ?_, fun h => ?_⟩
        · walk_at "mir"
          exact ⟨ha, q⟩
        · rw [h] at hb; exact nomatch hb
  · rw [if_neg hb, List.append_nil] at q
    rw [Bool.not_eq_true] at hb
    unfold badT at hb
    rw [Bool.or_eq_false_iff] at hb
    walk_at "mir"
    rw [hb.1]
    walk_at "mir"
    cases hh : t.hi with
    | none =>
      rw [hh] at q
      unfold oI
      walk_at "mir"
      exact q
    | some i =>
      rw [hh] at hb q
      unfold oI
      walk_at "mir"
      have h2 : decide (i < v) = false := hb.2
      rw [h2]
      walk_at "mir"
      exact q
theorem F_broken_by_eq {m : Int} {xs : List Int} {ts : List Tm} (hn : xs ≠ []) (hs : ts.length < 1000000) (hl : ∀ t ∈ ts, 0 ≤ t.l ∧ t.l ≤ 1000000) : ∃ t, F_broken_by [.im (rgD m ts), .im (vI xs)] = .ok (.list (brk xs ts), t) := by
  suffices h : Ev (F_broken_by [.im (rgD m ts), .im (vI xs)]) (fun x t => x = .list (brk xs ts)) fun _ _ => False by
    obtain ⟨x, t, e, rfl⟩ := ev_eq h; exact ⟨t, e⟩
  refine ev_fun ?_
  unfold g_broken_by rgD
  walk_at "mir"
  refine es_forK (fun k e => ∃ a b c d f g, e = [some (.im (rgD m ts)), some (.im (vI xs)), some (.ow (brkN xs ts k)), a, b, c, d, f, g]) ⟨_, _, _, _, _, _, rfl⟩ ?_ ?_
  · rintro k d e hk ⟨a, b, c, d1, f, g, rfl⟩
    obtain ⟨t0, ht, rfl⟩ := enumL_get hk
    rw [List.getElem?_map, Option.map_eq_some_iff] at ht
    obtain ⟨t, ht, rfl⟩ := ht
    have hm := hl t (List.mem_of_getElem? ht)
    have hk1 : k < ts.length := by
      rw [List.getElem?_eq_some_iff] at ht; exact ht.1
    unfold Tm.d
    walk_at "mir"
    obtain ⟨t1, e1⟩ := F_stones_in_eq (xs := xs) (s := t.s) (l := t.l) hn hm.2 hm.1
    refine ev_of e1 ?_
    rw [back_ims rfl]
    refine es_badIf (t := t) (acc := brkN xs ts k) (by have := brkN_length xs ts k; omega) ?_
    have e2 : brkN xs ts (k + 1) = brkN xs ts k ++ if badT t (stn xs t.s t.l) = true then [PyData.tuple [PyData.int k, PyData.int (stn xs t.s t.l)]] else [] := by
      rw [brkN_succ]
      unfold brk1
      rw [ht]
    rw [e2]
    exact ⟨_, _, _, _, _, _, rfl⟩
  · rintro e ⟨a, b, c, d, f, g, rfl⟩
    walk_at "mir"
    rw [enumL_length, List.length_map]; rfl
theorem F_broken_ok {m : Int} {xs : List Int} {ts : List Tm} (h1 : 1 ≤ m) (h2 : m ≤ 40) (ht : ∀ t ∈ ts, t.ok m) (hx : (xs.length : Int) = m) (hx0 : ∀ x ∈ xs, 0 ≤ x) (hs : ts.length < 1000000) :
    ∃ t, F_broken [.im (rgD m ts), .im (vI xs)] = .ok (.list (brk xs ts), t) := by
  suffices h : Ev (F_broken [.im (rgD m ts), .im (vI xs)]) (fun x t => x = .list (brk xs ts)) fun _ _ => False by
    obtain ⟨x, t, e, rfl⟩ := ev_eq h; exact ⟨t, e⟩
  refine ev_fun ?_
  unfold g_broken
  walk_at "mir"
  refine ev_of (F_look_at_ring_ok (short_of (by omega)) (ringD_ok h1 h2 ht)) ?_
  walk_at "mir"
  refine ev_of (F_look_at_laying_ok (m := m) (ts := .tuple (ts.map Tm.d)) (shortI_of (by omega)) (layD_ok hx hx0)) ?_
  walk_at "mir"
  obtain ⟨t1, e1⟩ := F_broken_by_eq (m := m) (xs := xs) (ts := ts) (by rintro rfl; simp at hx; omega) hs fun t h => ⟨by have := (ht t h).l0; omega, by have := (ht t h).l1; omega⟩
  refine ev_of e1 ?_
  rfl
theorem F_law_mixed_eq (v s : Int) : ∃ r t, 0 ≤ r ∧ F_law_mixed [.im (.int v), .im (.int s)] = .ok (.int r, t) := by
  suffices h : Ev (F_law_mixed [.im (.int v), .im (.int s)]) (fun x t => ∃ r, x = .int r ∧ 0 ≤ r) fun _ _ => False by
    obtain ⟨x, t, e, r, rfl, h⟩ := ev_eq h; exact ⟨r, t, h, e⟩
  refine ev_fun ?_
  unfold g_law_mixed
  walk_at "mir"
  exact Int.emod_nonneg _ (by decide)
theorem F_law_pile_eq (ns : List Int) {k : Int} (hk : 0 ≤ k) : ∃ p t, 0 ≤ p ∧ F_law_pile [.im (lI ns), .im (.int k)] = .ok (.list [.int p], t) := by
  suffices h : Ev (F_law_pile [.im (lI ns), .im (.int k)]) (fun x t => ∃ p, x = .list [.int p] ∧ 0 ≤ p) fun _ _ => False by
    obtain ⟨x, t, e, r, rfl, h⟩ := ev_eq h; exact ⟨r, t, h, e⟩
  refine ev_fun ?_
  unfold g_law_pile lI
  have hcut : ∀ v, Es (sSeq (sIf (fBool (fOp geD (fVar 2) (fOp powD (fC (.int 10)) (fC (.int 18))))) (sRet (fLst (fCons (fOp modD (fCall intD (fCons (fOp subD (fVar 2) (fOp powD (fC (.int 10)) (fC (.int 18)))) ((fun env => .ok ([], env))))) (fOp mulD (fOp mulD (fOp mulD (fOp powD (fC (.int 10)) (fC (.int 60))) (fOp powD (fC (.int 10)) (fC (.int 60)))) (fOp powD (fC (.int 10)) (fC (.int 60)))) (fOp powD (fC (.int 10)) (fC (.int 60))))) ((fun env => .ok ([], env)))))) (sNil)) (sSeq (sSet 3 (fC (.int 0))) (sSeq (sFor (fWalk rangeD1 (fCons (fC (.int 24)) ((fun env => .ok ([], env))))) (tN 4) (sSet 3 (fOp addD (fOp mulD (fVar 3) (fC (.int 2147483579))) (fCallF 2 [] F_law_mixed (cIm (fVar 2) (cIm (fOp addD (fOp addD (fOp mulD (fC (.int 7)) (fVar 1)) (fOp mulD (fC (.int 100)) (fVar 4))) (fOp mulD (fVar 4) (fVar 4))) (cNil))))))) (sRet (fLst (fCons (fVar 3) ((fun env => .ok ([], env)))))))) [some (.im (lI ns)), some (.im (.int k)), some (.im (.int v)), none, none])
      (fun _ => ∃ p, PyData.none = .list [.int p] ∧ 0 ≤ p) (fun x e => ∃ p, x = .list [.int p] ∧ 0 ≤ p) (fun _ => False) (fun _ => False) fun _ _ => False := by
    intro v
    walk_at "mir"
    refine ⟨fun h => ?_, fun h => ?_⟩
    · walk_at "mir"
      have hp : (0 : Int) < 10 ^ Int.toNat 60 := by decide
      have hq := Int.mul_pos (Int.mul_pos (Int.mul_pos hp hp) hp) hp
      rw [Int.fmod_eq_emod_of_nonneg _ (Int.le_of_lt hq)]
      exact Int.emod_nonneg _ (by omega)
    · walk_at "mir"
      refine es_forK (fun j e => ∃ a c, 0 ≤ a ∧ e = [some (.im (lI ns)), some (.im (.int k)), some (.im (.int v)), some (.im (.int a)), c]) ⟨0, _, by decide, rfl⟩ ?_ ?_
      · rintro j d e hj ⟨a, c, ha, rfl⟩
        obtain ⟨hj, rfl⟩ := rangeL_get hj
        walk_at "mir"
        obtain ⟨r, t, hr, e⟩ := F_law_mixed_eq v (7 * k + 100 * (0 + (j : Int)) + (0 + (j : Int)) * (0 + (j : Int)))
        refine ev_of e ?_
        rw [back_ims rfl]
        walk_at "mir"
        exact ⟨_, _, by omega, rfl⟩
      · rintro e ⟨a, c, ha, rfl⟩
        walk_at "mir"
        exact ha
  walk_at "mir"
  refine ⟨fun h => ?_, fun h => ?_⟩
  · rw [decide_eq_true_eq] at h
    walk_at "mir"
    refine ev_o (atI_int hk h) ?_
    exact hcut _
  · exact es_nil (hcut _)
theorem F_law_take_eq {p k : Int} (h1 : 0 < k) (h2 : k < 1073741824) : F_law_take [.ow [.int p], .im (.int k)] = .ok (.int (p % k), [.ow [.int (p / k)], .im (.int k)]) := by
  refine ev_eqs (ev_fun ?_)
  unfold g_law_take
  walk_at "mir"
  exact ⟨rfl, rfl⟩
theorem F_law_places_eq {n s l : Int} (hn : 0 < n) (hl : l ≤ 1000000) (hl0 : 0 ≤ l) : ∃ t, F_law_places [.im (.int n), .im (.int s), .im (.int l)] = .ok (lI (plc n s l), t) := by
  suffices h : Ev (F_law_places [.im (.int n), .im (.int s), .im (.int l)]) (fun x t => x = lI (plc n s l)) fun _ _ => False by
    obtain ⟨x, t, e, rfl⟩ := ev_eq h; exact ⟨t, e⟩
  refine ev_fun ?_
  unfold g_law_places
  walk_at "mir"
  refine ev_lcm (v := modAt n s) ?_
  walk_at "mir"
  refine ⟨rfl, ?_, fun d hd => ?_, ?_⟩
  · rw [rangeL_length]; exact sizeLine_lt _ (by omega)
  · obtain ⟨i, hi, rfl⟩ := rangeL_mem hd
    walk_at "mir"
    exact ⟨rfl, rfl, rfl⟩
  · rw [rangeL_map (fun i => .int ((s + i) % n)) 0 l.toNat _ fun _ _ => rfl]
    simp only [lI, plc, List.map_map]
    congr 1
    apply List.map_congr_left
    intro i _
    simp only [Function.comp, Int.zero_add]
theorem take_succ_sum (xs : List Int) (k : Nat) (h : k < xs.length) : (xs.take (k + 1)).sum = (xs.take k).sum + xs[k] := by
  rw [List.take_succ_eq_append_getElem h, List.sum_append, List.sum_cons, List.sum_nil]; omega
theorem F_law_stones_eq {xs : List Int} {s l : Int} (hn : xs ≠ []) (hl : l ≤ 1000000) (hl0 : 0 ≤ l) : ∃ t, F_law_stones [.im (vI xs), .im (.int s), .im (.int l)] = .ok (.int (stn xs s l), t) := by
  suffices h : Ev (F_law_stones [.im (vI xs), .im (.int s), .im (.int l)]) (fun x t => x = .int (stn xs s l)) fun _ _ => False by
    obtain ⟨x, t, e, rfl⟩ := ev_eq h; exact ⟨t, e⟩
  have hp : (0 : Int) < xs.length := by have := List.length_pos_iff.mpr hn; omega
  refine ev_fun ?_
  unfold g_law_stones vI
  walk_at "mir"
  obtain ⟨t, e⟩ := F_law_places_eq (n := (xs.length : Int)) (s := s) (l := l) hp hl hl0
  refine ev_of e ?_
  rw [back_ims rfl]
  unfold lI
  walk_at "mir"
  refine es_forK (fun j e => ∃ c, e = [some (.im (vI xs)), some (.im (.int s)), some (.im (.int l)), some (.im (.int (((plc xs.length s l).map fun p => xs.getD p.toNat 0).take j).sum)), c]) ⟨_, rfl⟩ ?_ ?_
  · rintro j d e hj ⟨c, rfl⟩
    rw [List.getElem?_map, Option.map_eq_some_iff] at hj
    obtain ⟨p, hj, rfl⟩ := hj
    have hm := plc_lt hp (List.mem_of_getElem? hj)
    unfold vI
    walk_at "mir"
    refine ev_o (atI_int hm.1 hm.2) ?_
    walk_at "mir"
    rw [List.getElem?_eq_some_iff] at hj
    obtain ⟨h1, h2⟩ := hj
    rw [take_succ_sum _ _ (by rw [List.length_map]; exact h1), List.getElem_map, h2]
    exact ⟨_, rfl⟩
  · rintro e ⟨c, rfl⟩
    walk_at "mir"
    rw [List.length_map, List.take_of_length_le (by rw [List.length_map]; exact Nat.le_refl _)]
    rfl
theorem rep_zero (k : Nat) : (List.replicate k ([PyData.int 0] : List D)).flatten = (List.replicate k (0 : Int)).map PyData.int := by
  induction k with
  | zero => rfl
  | succ n ih => rw [List.replicate_succ, List.flatten_cons, ih, List.replicate_succ, List.map_cons]; rfl
theorem repD_zero {n : Int} (h0 : 0 ≤ n) (h1 : n ≤ 1000000) : repD (.list [.int 0]) (.int n) = some (.list ((List.replicate n.toNat (0 : Int)).map .int)) := by
  simp only [repD]
  rw [if_pos ⟨by omega, by omega, by simp only [List.length_cons, List.length_nil]; exact sizeLine_lt _ (by omega)⟩, rep_zero]
theorem sum_set_add : ∀ (xs : List Int) (i : Nat) (h : i < xs.length), (xs.set i (xs[i] + 1)).sum = xs.sum + 1
  | [], _, h => nomatch h
  | x :: xs, 0, _ => by simp only [List.set_cons_zero, List.sum_cons, List.getElem_cons_zero]; omega
  | x :: xs, i + 1, h => by
    have := sum_set_add xs i (by simpa using h)
    simp only [List.set_cons_succ, List.sum_cons, List.getElem_cons_succ, this]; omega
theorem sum_rep0 (n : Nat) : (List.replicate n (0 : Int)).sum = 0 := by induction n with
  | zero => rfl
  | succ n ih => rw [List.replicate_succ, List.sum_cons, ih]; rfl
theorem le_sum_of : ∀ {xs : List Int}, (∀ x ∈ xs, 0 ≤ x) → (0 ≤ xs.sum ∧ ∀ x ∈ xs, x ≤ xs.sum)
  | [], _ => ⟨by simp, by simp⟩
  | y :: ys, h => by
    obtain ⟨h1, h2⟩ := le_sum_of (xs := ys) fun x hx => h x (by simp [hx])
    have hy := h y (by simp)
    simp only [List.sum_cons]
    refine ⟨by omega, fun x hx => ?_⟩
    rcases List.mem_cons.mp hx with rfl | hx
    · omega
    · have := h2 x hx; omega
theorem F_law_drawn_eq {p n c : Int} (hp : 0 ≤ p) (hn : 0 < n) (hn1 : n ≤ 1000000) (hc : 0 ≤ c) (hc1 : c ≤ 1000000) :
    ∃ p' xs, 0 ≤ p' ∧ xs.length = n.toNat ∧ (∀ x ∈ xs, 0 ≤ x) ∧ xs.sum = c ∧ F_law_drawn [.ow [.int p], .im (.int n), .im (.int c)] = .ok (vI xs, [.ow [.int p'], .im (.int n), .im (.int c)]) := by
  suffices h : Ev (F_law_drawn [.ow [.int p], .im (.int n), .im (.int c)]) (fun x t => ∃ p' xs, 0 ≤ p' ∧ xs.length = n.toNat ∧ (∀ x ∈ xs, 0 ≤ x) ∧ xs.sum = c ∧ x = vI xs ∧ t = [.ow [.int p'], .im (.int n), .im (.int c)]) fun _ _ => False by
    obtain ⟨x, t, e, p', xs, h1, h2, h3, h4, rfl, rfl⟩ := ev_eq h; exact ⟨p', xs, h1, h2, h3, h4, e⟩
  refine ev_fun ?_
  unfold g_law_drawn
  walk_at "mir"
  refine ev_o (repD_zero (by omega) hn1) ?_
  walk_at "mir"
  refine es_forK (fun k e => ∃ p' xs a, 0 ≤ p' ∧ xs.length = n.toNat ∧ (∀ x ∈ xs, 0 ≤ x) ∧ xs.sum = (k : Int) ∧ e = [some (.ow [.int p']), some (.im (.int n)), some (.im (.int c)), some (.ow (xs.map .int)), a])
    ⟨p, List.replicate n.toNat 0, _, hp, by simp, by simp only [List.mem_replicate]; omega, sum_rep0 _, rfl⟩ ?_ ?_
  · rintro k d e hk ⟨p', xs, a, h1, h2, h3, h4, rfl⟩
    obtain ⟨hk, rfl⟩ := rangeL_get hk
    walk_at "mir"
    refine ev_of (F_law_take_eq hn (by omega)) ?_
    walk_at "mir"
    have hi0 : 0 ≤ p' % n := Int.emod_nonneg _ (by omega)
    have hi1 : p' % n < n := Int.emod_lt_of_pos _ hn
    have hl : (p' % n).toNat < xs.length := by omega
    refine ⟨hi0, xs[(p' % n).toNat], by rw [List.getElem?_map, List.getElem?_eq_getElem hl]; rfl, ?_⟩
    walk_at "mir"
    refine ⟨by rw [List.length_map]; exact hl, ?_⟩
    refine ⟨p' / n, xs.set (p' % n).toNat (xs[(p' % n).toNat] + 1), _, Int.ediv_nonneg h1 (by omega), by rw [List.length_set]; exact h2, ?_, ?_, by rw [List.map_set]; rfl⟩
    · intro x hx
      rcases List.mem_or_eq_of_mem_set hx with hx | rfl
      · exact h3 x hx
      · have := h3 _ (List.getElem_mem hl); omega
    · rw [sum_set_add _ _ hl, h4]; omega
  · rintro e ⟨p', xs, a, h1, h2, h3, h4, rfl⟩
    rw [rangeL_length] at h4
    walk_at "mir"
    exact ⟨p', xs, h1, h2, h3, by omega, rfl, rfl⟩
/-- the stones of a stretch are not more than so many -/
theorem sum_le_of : ∀ {xs : List Int} {b : Int}, 0 ≤ b → (∀ x ∈ xs, x ≤ b) → xs.sum ≤ b * xs.length
  | [], b, _, _ => by simp
  | y :: ys, b, hb, h => by
    have h1 := sum_le_of (xs := ys) hb fun x hx => h x (by simp [hx])
    have h2 := h y (by simp)
    simp only [List.sum_cons, List.length_cons]
    rw [Int.natCast_add, Int.mul_add]
    omega
theorem stn_bound {xs : List Int} {s l b : Int} (h0 : ∀ x ∈ xs, 0 ≤ x) (hb : 0 ≤ b) (h1 : ∀ x ∈ xs, x ≤ b) (hl : 0 ≤ l) : 0 ≤ stn xs s l ∧ stn xs s l ≤ b * l := by
  have hg : ∀ p : Int, 0 ≤ xs.getD p.toNat 0 ∧ xs.getD p.toNat 0 ≤ b := by
    intro p
    rw [List.getD_eq_getElem?_getD]
    cases h : xs[p.toNat]? with
    | none => exact ⟨Int.le_refl _, hb⟩
    | some x => exact ⟨h0 x (List.mem_of_getElem? h), h1 x (List.mem_of_getElem? h)⟩
  constructor
  · exact (le_sum_of (xs := (plc xs.length s l).map fun p => xs.getD p.toNat 0) (by
      intro x hx
      obtain ⟨p, _, rfl⟩ := List.mem_map.mp hx
      exact (hg p).1)).1
  · have := sum_le_of (xs := (plc xs.length s l).map fun p => xs.getD p.toNat 0) hb (by
      intro x hx
      obtain ⟨p, _, rfl⟩ := List.mem_map.mp hx
      exact (hg p).2)
    rw [List.length_map, plc_length, Int.toNat_of_nonneg hl] at this
    exact this
structure RawT (m : Int) (t : Tm) : Prop where
  s0 : 0 ≤ t.s
  s1 : t.s < m
  l0 : 1 ≤ t.l
  l1 : t.l ≤ m
  lo0 : 0 ≤ t.lo
  lo1 : t.lo ≤ 1000000
  hi0 : ∀ h, t.hi = some h → -1000000 ≤ h ∧ h ≤ 1000000
def hiOk (t : Tm) : Bool := match t.hi with
  | none => true
  | some h => decide (0 ≤ h)
theorem RawT.ok {m : Int} {t : Tm} (h : RawT m t) (q : hiOk t = true) : t.ok m := by
  refine ⟨h.s0, h.s1, h.l0, h.l1, h.lo0, fun i hi => ?_⟩
  unfold hiOk at q
  rw [hi] at q
  exact of_decide_eq_true q
def hiD : D → Bool
  | .tuple [_, _, _, .int h] => decide (0 ≤ h)
  | _ => true
theorem hiD_d (t : Tm) : hiD t.d = hiOk t := by
  unfold Tm.d hiOk
  cases t.hi <;> rfl
theorem filter_hi (ts : List Tm) : (ts.map Tm.d).filter hiD = (ts.filter hiOk).map Tm.d := by
  rw [List.filter_map]
  congr 1
  apply List.filter_congr
  intro t _
  exact hiD_d t
theorem F_law_ring_eq {p a b c : Int} (hp : 0 ≤ p) (ha : 1 ≤ a) (ha1 : a ≤ 40) (hb : 0 ≤ b) (hb1 : b ≤ 1000) (hc : 1 ≤ c) (hc1 : c ≤ 1000) :
    ∃ p' m ts, 0 ≤ p' ∧ 1 ≤ m ∧ m ≤ a ∧ (ts.length : Int) ≤ b ∧ (∀ t ∈ ts, RawT m t ∧ hiOk t = true) ∧ F_law_ring [.ow [.int p], .im (.int a), .im (.int b), .im (.int c)] = .ok (rgD m ts, [.ow [.int p'], .im (.int a), .im (.int b), .im (.int c)]) := by
  suffices h : Ev (F_law_ring [.ow [.int p], .im (.int a), .im (.int b), .im (.int c)]) (fun x t => ∃ p' m ts, 0 ≤ p' ∧ 1 ≤ m ∧ m ≤ a ∧ (ts.length : Int) ≤ b ∧ (∀ t ∈ ts, RawT m t ∧ hiOk t = true) ∧ x = rgD m ts ∧ t = [.ow [.int p'], .im (.int a), .im (.int b), .im (.int c)]) fun _ _ => False by
    obtain ⟨x, t, e, p', m, ts, h1, h2, h3, h4, h5, rfl, rfl⟩ := ev_eq h; exact ⟨p', m, ts, h1, h2, h3, h4, h5, e⟩
  refine ev_fun ?_
  unfold g_law_ring
  walk_at "mirn"
  refine ev_of (F_law_take_eq (by omega) (by omega)) ?_
  walk_at "mirn"
  refine ev_of (F_law_take_eq (by omega) (by omega)) ?_
  walk_at "mirn"
  refine ev_of (F_law_take_eq (by omega) (by omega)) ?_
  walk_at "mirn"
  have q0 : 0 ≤ p % a := Int.emod_nonneg _ (by omega)
  have q1 : p % a < a := Int.emod_lt_of_pos _ (by omega)
  generalize p % a = r at q0 q1
  have q2 : 0 ≤ p / a := Int.ediv_nonneg hp (by omega)
  generalize p / a = p1 at q2
  have q3 : 0 ≤ p1 / 4 := Int.ediv_nonneg q2 (by omega)
  generalize p1 % 4 = v
  generalize p1 / 4 = p2 at q3
  have q4 : 0 ≤ p2 / (c + 1) := Int.ediv_nonneg q3 (by omega)
  have q5 : 0 ≤ p2 % (c + 1) := Int.emod_nonneg _ (by omega)
  have q6 : p2 % (c + 1) < c + 1 := Int.emod_lt_of_pos _ (by omega)
  generalize p2 / (c + 1) = p3 at q4
  generalize p2 % (c + 1) = tot at q5 q6
  obtain ⟨p4, xs, x1, x2, x3, x4, e⟩ := F_law_drawn_eq (p := p3) (n := 1 + r) (c := tot) q4 (by omega) (by omega) (by omega) (by omega)
  refine ev_of e ?_
  walk_at "mirn"
  refine ev_of (F_law_take_eq (by omega) (by omega)) ?_
  walk_at "mirn"
  have y1 : 0 ≤ p4 / (b + 1) := Int.ediv_nonneg x1 (by omega)
  have y2 : 0 ≤ p4 % (b + 1) := Int.emod_nonneg _ (by omega)
  have y3 : p4 % (b + 1) < b + 1 := Int.emod_lt_of_pos _ (by omega)
  generalize p4 / (b + 1) = p5 at y1
  generalize p4 % (b + 1) = n at y2 y3
  refine ev_o (rangeD1_int (by omega) (by omega)) ?_
  have hxl : (xs.length : Int) = 1 + r := by omega
  have hxn : xs ≠ [] := by rintro rfl; simp at hxl; omega
  have hxb : ∀ x ∈ xs, x ≤ 1000 := fun x hx => by have := (le_sum_of x3).2 x hx; omega
  have hm0 : 1 ≤ 1 + r := by omega
  have hm2 : 1 + r ≤ a := by omega
  generalize 1 + r = m at hxl x2 hm0 hm2
  have hm1 : m ≤ 40 := by omega
  refine es_forK (fun k e => ∃ p' ts a8 a9 a10 a11 a12 a13, 0 ≤ p' ∧ ts.length = k ∧ (∀ t ∈ ts, RawT m t) ∧ e = [some (.ow [.int p']), some (.im (.int a)), some (.im (.int b)), some (.im (.int c)), some (.im (.int m)), some (.im (.int v)), some (.im (vI xs)), some (.ow (ts.map Tm.d)), a8, a9, a10, a11, a12, a13, none])
    ⟨p5, [], _, _, _, _, _, _, y1, rfl, by simp, rfl⟩ ?_ ?_
  · rintro k d e hk ⟨p', ts, a8, a9, a10, a11, a12, a13, h1, h2, h3, rfl⟩
    obtain ⟨hk, rfl⟩ := rangeL_get hk
    walk_at "mirn"
    refine ev_of (F_law_take_eq (by omega) (by omega)) ?_
    walk_at "mirn"
    refine ev_of (F_law_take_eq (by omega) (by omega)) ?_
    walk_at "mirn"
    have z1 : 0 ≤ p' % m := Int.emod_nonneg _ (by omega)
    have z2 : p' % m < m := Int.emod_lt_of_pos _ (by omega)
    generalize p' % m = s0 at z1 z2
    have z3 : 0 ≤ p' / m := Int.ediv_nonneg h1 (by omega)
    generalize p' / m = p6 at z3
    have z4 : 0 ≤ p6 % m := Int.emod_nonneg _ (by omega)
    have z5 : p6 % m < m := Int.emod_lt_of_pos _ (by omega)
    have z6 : 0 ≤ p6 / m := Int.ediv_nonneg z3 (by omega)
    generalize p6 / m = p7 at z6
    have z7 : 1 ≤ 1 + p6 % m := by omega
    have z8 : 1 + p6 % m ≤ m := by omega
    generalize 1 + p6 % m = l0 at z7 z8
    obtain ⟨t1, e1⟩ := F_law_stones_eq (xs := xs) (s := s0) (l := l0) hxn (by omega) (by omega)
    refine ev_of e1 ?_
    rw [back_ims rfl]
    obtain ⟨w1, w2⟩ := stn_bound (xs := xs) (s := s0) (l := l0) (b := 1000) x3 (by omega) hxb (by omega)
    generalize stn xs s0 l0 = st at w1 w2
    walk_at "mirn"
    refine ev_of (F_law_take_eq (by omega) (by omega)) ?_
    walk_at "mirn"
    refine ev_of (F_law_take_eq (by omega) (by omega)) ?_
    walk_at "mirn"
    have v1 : 0 ≤ p7 % 3 := Int.emod_nonneg _ (by omega)
    have v2 : p7 % 3 < 3 := Int.emod_lt_of_pos _ (by omega)
    have v3 : 0 ≤ p7 / 3 := Int.ediv_nonneg z6 (by omega)
    generalize p7 / 3 = p8 at v3
    have v4 : 0 ≤ p8 % 3 := Int.emod_nonneg _ (by omega)
    have v5 : p8 % 3 < 3 := Int.emod_lt_of_pos _ (by omega)
    have v6 : 0 ≤ p8 / 3 := Int.ediv_nonneg v3 (by omega)
    let Mid : En → Prop := fun e => ∃ p' lo hi, 0 ≤ p' ∧ -1000000 ≤ lo ∧ lo ≤ 1000000 ∧ (∀ h, hi = some h → -1000000 ≤ h ∧ h ≤ 1000000) ∧
      e = [some (.ow [.int p']), some (.im (.int a)), some (.im (.int b)), some (.im (.int c)), some (.im (.int m)), some (.im (.int v)), some (.im (vI xs)), some (.ow (ts.map Tm.d)), some (.im (.int (0 + (k : Int)))), some (.im (.int s0)), some (.im (.int l0)), some (.im (.int st)), some (.im (.int lo)), some (.im (oI hi)), none]
    have hi1 : ∀ {x : Int}, -1000000 ≤ x → x ≤ 1000000 → ∀ h, some x = some h → -1000000 ≤ h ∧ h ≤ 1000000 := by
      intro x u1 u2 h hh; cases hh; exact ⟨u1, u2⟩
    refine es_imp1 (N := Mid) ?_ ?_
    · walk_at "mir"
      refine ⟨fun _ => ?_, fun _ => ?_⟩
      · walk_at "mirn"
        refine ev_of (F_law_take_eq (by omega) (by omega)) ?_
        walk_at "mirn"
        refine ev_of (F_law_take_eq (by omega) (by omega)) ?_
        walk_at "mirn"
        have u1 : 0 ≤ p8 / 3 % c := Int.emod_nonneg _ (by omega)
        have u2 : p8 / 3 % c < c := Int.emod_lt_of_pos _ (by omega)
        have u3 : 0 ≤ p8 / 3 / c := Int.ediv_nonneg v6 (by omega)
        have u4 : 0 ≤ p8 / 3 / c % (c + 2) := Int.emod_nonneg _ (by omega)
        have u5 : p8 / 3 / c % (c + 2) < c + 2 := Int.emod_lt_of_pos _ (by omega)
        exact ⟨p8 / 3 / c / (c + 2), p8 / 3 % c, some (p8 / 3 / c % (c + 2)), Int.ediv_nonneg u3 (by omega), by omega, by omega, hi1 (by omega) (by omega), rfl⟩
      · walk_at "mirn"
        exact ⟨p8 / 3, st - p7 % 3, some (st + p8 % 3), v6, by omega, by omega, hi1 (by omega) (by omega), rfl⟩
    rintro _ ⟨p9, lo, hi, g1, g2, g3, g4, rfl⟩
    walk_at "mirn"
    refine es_imp1 (N := Mid) ?_ ?_
    · walk_at "mir"
      refine ⟨fun _ => ?_, fun _ => ?_⟩
      · walk_at "mir"
        refine ev_of (F_law_take_eq (by omega) (by omega)) ?_
        walk_at "mir"
        have u3 : 0 ≤ p9 / 4 := Int.ediv_nonneg g1 (by omega)
        refine ⟨fun _ => ?_, fun _ => ?_⟩
        · walk_at "mir"
          exact ⟨p9 / 4, st + 1, hi, u3, by omega, by omega, g4, rfl⟩
        · walk_at "mir"
          exact ⟨p9 / 4, lo, hi, u3, by omega, by omega, g4, rfl⟩
      · walk_at "mir"
        exact ⟨p9, lo, hi, g1, by omega, by omega, g4, rfl⟩
    clear g1 g2 g3 g4
    rintro _ ⟨p9, lo, hi, g1, g2, g3, g4, rfl⟩
    walk_at "mirn"
    refine es_imp1 (N := Mid) ?_ ?_
    · walk_at "mir"
      refine ev_of (F_law_take_eq (by omega) (by omega)) ?_
      walk_at "mir"
      have u3 : 0 ≤ p9 / 3 := Int.ediv_nonneg g1 (by omega)
      refine ⟨fun _ => ?_, fun _ => ?_⟩
      · walk_at "mir"
        exact ⟨p9 / 3, lo, none, u3, by omega, by omega, (fun h q => nomatch q), rfl⟩
      · walk_at "mir"
        exact ⟨p9 / 3, lo, hi, u3, by omega, by omega, g4, rfl⟩
    clear g1 g2 g3 g4
    rintro _ ⟨p9, lo, hi, g1, g2, g3, g4, rfl⟩
    walk_at "mirn"
    refine es_imp1 (N := Mid) ?_ ?_
    · walk_at "mir"
      refine ev_of (F_law_take_eq (by omega) (by omega)) ?_
      walk_at "mir"
      have u3 : 0 ≤ p9 / 4 := Int.ediv_nonneg g1 (by omega)
      refine ⟨fun _ => ?_, fun _ => ?_⟩
      · walk_at "mir"
        exact ⟨p9 / 4, 0, hi, u3, by omega, by omega, g4, rfl⟩
      · walk_at "mir"
        exact ⟨p9 / 4, lo, hi, u3, by omega, by omega, g4, rfl⟩
    clear g1 g2 g3 g4
    rintro _ ⟨p9, lo, hi, g1, g2, g3, g4, rfl⟩
    walk_at "mirn"
    by_cases hlo : 0 < lo
    · rw [decide_eq_true hlo]
      walk_at "mirn"
      refine ⟨by rw [List.length_map]; exact Nat.lt_of_lt_of_le (show ts.length < 100000 by omega) (sizeLine_lt _ (by decide)), ?_⟩
      refine ⟨p9, ts ++ [⟨s0, l0, lo, hi⟩], _, _, _, _, _, _, g1, by rw [List.length_append, h2]; rfl, ?_, by rw [List.map_append]; rfl⟩
      intro t ht
      rcases List.mem_append.mp ht with ht | ht
      · exact h3 t ht
      · rw [List.mem_singleton] at ht
        subst ht
        exact ⟨z1, z2, z7, z8, by show 0 ≤ lo; omega, g3, g4⟩
    · rw [decide_eq_false hlo]
      walk_at "mirn"
      refine ⟨by rw [List.length_map]; exact Nat.lt_of_lt_of_le (show ts.length < 100000 by omega) (sizeLine_lt _ (by decide)), ?_⟩
      refine ⟨p9, ts ++ [⟨s0, l0, 0, hi⟩], _, _, _, _, _, _, g1, by rw [List.length_append, h2]; rfl, ?_, by rw [List.map_append]; rfl⟩
      intro t ht
      rcases List.mem_append.mp ht with ht | ht
      · exact h3 t ht
      · rw [List.mem_singleton] at ht
        subst ht
        exact ⟨z1, z2, z7, z8, by show (0 : Int) ≤ 0; omega, by show (0 : Int) ≤ 1000000; omega, g4⟩
  · rintro e ⟨p', ts, a8, a9, a10, a11, a12, a13, h1, h2, h3, rfl⟩
    rw [rangeL_length] at h2
    walk_at "mirn"
    refine ev_lc (b := hiD) (v := id) (P0 := fun _ _ => True) ?_
    walk_at "mirn"
    refine ⟨rfl, by rw [List.length_map]; exact sizeLine_lt _ (by omega), fun d hd => ?_, ?_⟩
    · obtain ⟨t, ht, rfl⟩ := List.mem_map.mp hd
      rw [hiD_d]
      unfold Tm.d hiOk
      cases hh : t.hi with
      | none =>
        unfold oI
        walk_at "mirn"
        exact ⟨rfl, fun _ => ev_var rfl ⟨rfl, rfl, rfl⟩, fun q => nomatch q⟩
      | some i =>
        unfold oI
        walk_at "mirn"
        exact ⟨rfl, fun _ => ev_var rfl ⟨rfl, rfl, rfl⟩, fun _ => ⟨rfl, rfl⟩⟩
    · rw [filter_hi, List.map_id]
      walk_at "mirn"
      refine ⟨p', m, ts.filter hiOk, h1, hm0, hm2, ?_, ?_, rfl, rfl⟩
      · have := List.length_filter_le hiOk ts
        omega
      · intro t ht
        obtain ⟨q1, q2⟩ := List.mem_filter.mp ht
        exact ⟨h3 t q1, q2⟩
structure Eg where
  u : Nat
  v : Nat
  w : Int
  t : Option Nat
  way : Int
  r : Int
def updF {α : Type} (f : Nat → α) (x : Nat) (a : α) : Nat → α := fun y => if y = x then a else f y
theorem updF_same {α : Type} {f : Nat → α} {x : Nat} {a : α} : updF f x a x = a := by unfold updF; rw [if_pos rfl]
theorem updF_ne {α : Type} {f : Nat → α} {x y : Nat} {a : α} (h : y ≠ x) : updF f x a y = f y := by unfold updF; rw [if_neg h]
/-- in round r, when the demands in done were looked at; rd, tm: the round, the time of a place's last rise -/
structure BF (es : List Eg) (r : Nat) (done : List Eg) (h : Nat → Int) (b : Nat → Option Eg) (rd tm : Nat → Nat) (clk : Nat) : Prop where
  rd_le : ∀ x, rd x ≤ r
  mem : ∀ x e, b x = some e → e ∈ es ∧ e.v = x
  one : ∀ x, b x = none → rd x = 0
  back : ∀ x e, b x = some e → rd x ≤ rd e.u + 1
  le : ∀ x e, b x = some e → h x ≤ h e.u + e.w
  lt : ∀ x e, b x = some e → tm x < tm e.u → h x < h e.u + e.w
  self : ∀ x e, b x = some e → e.u = x → 0 < e.w
  time : ∀ x, b x ≠ none → tm x < clk
  old : ∀ x, b x = none → tm x = 0
  pos : ∀ x, b x ≠ none → 0 < tm x
  clk0 : 0 < clk
  inj : ∀ x y, b x ≠ none → b y ≠ none → tm x = tm y → x = y
  prev : ∀ e ∈ es, rd e.u + 1 < r → h e.u + e.w ≤ h e.v
  cur : ∀ e ∈ done, rd e.u < r → h e.u + e.w ≤ h e.v
theorem BF.start (es : List Eg) (h : Nat → Int) : BF es 1 [] h (fun _ => none) (fun _ => 0) (fun _ => 0) 1 where
  rd_le := fun _ => Nat.zero_le _
  mem := fun _ _ q => nomatch q
  one := fun _ _ => rfl
  back := fun _ _ q => nomatch q
  le := fun _ _ q => nomatch q
  lt := fun _ _ q => nomatch q
  self := fun _ _ q => nomatch q
  time := fun _ q => absurd rfl q
  old := fun _ _ => rfl
  pos := fun _ q => absurd rfl q
  clk0 := Nat.one_pos
  inj := fun _ _ q => absurd rfl q
  prev := fun _ _ q => by omega
  cur := fun _ q => by simp at q
theorem BF.next {es done : List Eg} {r : Nat} {h : Nat → Int} {b : Nat → Option Eg} {rd tm : Nat → Nat} {clk : Nat} (I : BF es r done h b rd tm clk) (hd : ∀ e ∈ es, e ∈ done) : BF es (r + 1) [] h b rd tm clk :=
  ⟨fun x => Nat.le_succ_of_le (I.rd_le x), I.mem, I.one, I.back, I.le, I.lt, I.self, I.time, I.old, I.pos, I.clk0, I.inj, fun e he q => I.cur e (hd e he) (by omega), fun e he => by simp at he⟩
theorem BF.skip {es done : List Eg} {r : Nat} {h : Nat → Int} {b : Nat → Option Eg} {rd tm : Nat → Nat} {clk : Nat} {e : Eg} (I : BF es r done h b rd tm clk) (hn : ¬ h e.v < h e.u + e.w) : BF es r (done ++ [e]) h b rd tm clk :=
  ⟨I.rd_le, I.mem, I.one, I.back, I.le, I.lt, I.self, I.time, I.old, I.pos, I.clk0, I.inj, I.prev, fun e' he q => by
    rcases List.mem_append.mp he with he | he
    · exact I.cur e' he q
    · rw [List.mem_singleton] at he
      subst he
      omega⟩
theorem BF.rise {es done : List Eg} {r : Nat} {h : Nat → Int} {b : Nat → Option Eg} {rd tm : Nat → Nat} {clk : Nat} {e : Eg} (I : BF es r done h b rd tm clk) (hr : 1 ≤ r) (he : e ∈ es) (hn : h e.v < h e.u + e.w) :
    BF es r (done ++ [e]) (updF h e.v (h e.u + e.w)) (updF b e.v (some e)) (updF rd e.v r) (updF tm e.v clk) (clk + 1) := by
  have late : r ≤ rd e.u + 1 := by
    apply Nat.le_of_not_lt
    intro q
    have := I.prev e he q
    omega
  have up : ∀ x, h x ≤ updF h e.v (h e.u + e.w) x := fun x => by
    by_cases q : x = e.v
    · rw [q, updF_same]; omega
    · rw [updF_ne q]; exact Int.le_refl _
  have rup : ∀ x, rd x ≤ updF rd e.v r x := fun x => by
    by_cases q : x = e.v
    · rw [q, updF_same]; exact I.rd_le _
    · rw [updF_ne q]; exact Nat.le_refl _
  refine ⟨fun x => ?_, fun x e' q => ?_, fun x q => ?_, fun x e' q => ?_, fun x e' q => ?_, fun x e' q s => ?_, fun x e' q s => ?_, fun x q => ?_, fun x q => ?_, fun x q => ?_, by omega, fun x y q1 q2 s => ?_, fun e' q s => ?_, fun e' q s => ?_⟩
  · by_cases q : x = e.v
    · rw [q, updF_same]; exact Nat.le_refl _
    · rw [updF_ne q]; exact I.rd_le x
  · by_cases k : x = e.v
    · rw [k, updF_same] at q; cases q; exact ⟨he, k.symm⟩
    · rw [updF_ne k] at q; exact I.mem x e' q
  · by_cases k : x = e.v
    · rw [k, updF_same] at q; cases q
    · rw [updF_ne k] at q ⊢; exact I.one x q
  · by_cases k : x = e.v
    · rw [k, updF_same] at q; cases q
      rw [k, updF_same]
      exact Nat.le_trans late (Nat.succ_le_succ (rup _))
    · rw [updF_ne k] at q
      rw [updF_ne k]
      exact Nat.le_trans (I.back x e' q) (Nat.succ_le_succ (rup _))
  · by_cases k : x = e.v
    · rw [k, updF_same] at q; cases q
      rw [k, updF_same]
      have := up e.u
      omega
    · rw [updF_ne k] at q
      rw [updF_ne k]
      have := I.le x e' q
      have := up e'.u
      omega
  · by_cases k : x = e.v
    · rw [k, updF_same] at q; cases q
      rw [k, updF_same] at s ⊢
      by_cases k2 : e.u = e.v
      · rw [k2, updF_same] at s; omega
      · rw [updF_ne k2] at s
        by_cases k3 : b e.u = none
        · have := I.old e.u k3; omega
        · have := I.time e.u k3; omega
    · rw [updF_ne k] at q s ⊢
      by_cases k2 : e'.u = e.v
      · rw [k2, updF_same]
        have := I.le x e' q
        rw [k2] at this
        omega
      · rw [updF_ne k2] at s ⊢
        exact I.lt x e' q s
  · by_cases k : x = e.v
    · rw [k, updF_same] at q; cases q
      rw [k] at s
      rw [s] at hn
      omega
    · rw [updF_ne k] at q
      exact I.self x e' q s
  · by_cases k : x = e.v
    · rw [k, updF_same]; omega
    · rw [updF_ne k] at q ⊢
      have := I.time x q; omega
  · by_cases k : x = e.v
    · rw [k, updF_same] at q; cases q
    · rw [updF_ne k] at q ⊢
      exact I.old x q
  · by_cases k : x = e.v
    · rw [k, updF_same]; exact I.clk0
    · rw [updF_ne k] at q ⊢
      exact I.pos x q
  · by_cases k : x = e.v
    · by_cases k2 : y = e.v
      · rw [k, k2]
      · rw [k, updF_same, updF_ne k2] at s
        rw [updF_ne k2] at q2
        have := I.time y q2; omega
    · by_cases k2 : y = e.v
      · rw [k2, updF_same, updF_ne k] at s
        rw [updF_ne k] at q1
        have := I.time x q1; omega
      · rw [updF_ne k] at q1 s
        rw [updF_ne k2] at q2 s
        exact I.inj x y q1 q2 s
  · have k : e'.u ≠ e.v := fun k => by rw [k, updF_same] at s; omega
    rw [updF_ne k] at s ⊢
    have := I.prev e' q s
    have := up e'.v
    omega
  · have k : e'.u ≠ e.v := fun k => by rw [k, updF_same] at s; omega
    rw [updF_ne k] at s ⊢
    rcases List.mem_append.mp q with q | q
    · have := I.cur e' q s
      have := up e'.v
      omega
    · rw [List.mem_singleton] at q
      subst q
      rw [updF_same]
      exact Int.le_refl _
/-- walking back from a place that rose in the last round -/
def par (b : Nat → Option Eg) (x : Nat) : Nat := match b x with
  | some e => e.u
  | none => x
def bk (b : Nat → Option Eg) (x : Nat) : Nat → Nat
  | 0 => x
  | k + 1 => par b (bk b x k)
theorem bk_add (b : Nat → Option Eg) (x j : Nat) : ∀ k, bk b x (j + k) = bk b (bk b x j) k
  | 0 => rfl
  | k + 1 => by
    show par b (bk b x (j + k)) = par b (bk b (bk b x j) k)
    rw [bk_add b x j k]
theorem pigeon : ∀ {n : Nat} (f : Nat → Nat), (∀ k, k ≤ n → f k < n) → ∃ i j, i < j ∧ j ≤ n ∧ f i = f j := by
  intro n
  induction n with
  | zero => intro f h; exact absurd (h 0 (Nat.le_refl _)) (Nat.not_lt_zero _)
  | succ n ih =>
    intro f h
    by_cases q : ∃ i, i ≤ n ∧ f i = f (n + 1)
    · obtain ⟨i, hi, e⟩ := q
      exact ⟨i, n + 1, by omega, Nat.le_refl _, e⟩
    · have q : ∀ i, i ≤ n → f i ≠ f (n + 1) := fun i hi e => q ⟨i, hi, e⟩
      obtain ⟨i, j, h1, h2, h3⟩ := ih (fun k => if f k = n then f (n + 1) else f k) fun k hk => by
        have a := h k (by omega)
        have c := h (n + 1) (Nat.le_refl _)
        have d := q k hk
        show (if f k = n then f (n + 1) else f k) < n
        split
        · rename_i e; omega
        · omega
      have h3 : (if f i = n then f (n + 1) else f i) = (if f j = n then f (n + 1) else f j) := h3
      refine ⟨i, j, h1, by omega, ?_⟩
      have qi := q i (by omega)
      have qj := q j h2
      split at h3
      · rename_i ei
        split at h3
        · rename_i ej; omega
        · exact absurd h3.symm qj
      · split at h3
        · exact absurd h3 qi
        · exact h3
theorem sum_map_lt {n : Nat} (f g : Nat → Int) (h : ∀ k, k < n → f k ≤ g k) (hs : ∃ k, k < n ∧ f k < g k) : ((List.range n).map f).sum < ((List.range n).map g).sum := by
  have le : ∀ m, m ≤ n → ((List.range m).map f).sum ≤ ((List.range m).map g).sum := by
    intro m
    induction m with
    | zero => intro _; exact Int.le_refl _
    | succ m ih =>
      intro hm
      have := ih (by omega)
      have := h m (by omega)
      rw [List.range_succ, List.map_append, List.map_append, List.sum_append, List.sum_append]
      simp only [List.map_cons, List.map_nil, List.sum_cons, List.sum_nil]
      omega
  obtain ⟨k, hk, hlt⟩ := hs
  have up : ∀ m, m ≤ n → k < m → ((List.range m).map f).sum < ((List.range m).map g).sum := by
    intro m
    induction m with
    | zero => intro _ q; omega
    | succ m ih =>
      intro hm q
      rw [List.range_succ, List.map_append, List.map_append, List.sum_append, List.sum_append]
      simp only [List.map_cons, List.map_nil, List.sum_cons, List.sum_nil]
      by_cases e : k = m
      · have := le m (by omega)
        subst e; omega
      · have := ih (by omega) (by omega)
        have := h m (by omega)
        omega
  exact up n (Nat.le_refl _) hk
theorem tele (f : Nat → Int) : ∀ n, ((List.range n).map fun k => f k - f (k + 1)).sum = f 0 - f n
  | 0 => by simp
  | n + 1 => by
    rw [List.range_succ, List.map_append, List.sum_append, tele f n]
    simp only [List.map_cons, List.map_nil, List.sum_cons, List.sum_nil]
    omega
theorem least_of {P : Nat → Prop} : ∀ d, P d → ∃ p, P p ∧ p ≤ d ∧ ∀ q, q < p → ¬ P q := by
  intro d
  induction d using Nat.strongRecOn with
  | _ d ih =>
    intro h
    by_cases q : ∃ k, k < d ∧ P k
    · obtain ⟨k, hk, hP⟩ := q
      obtain ⟨p, h1, h2, h3⟩ := ih k hk hP
      exact ⟨p, h1, by omega, h3⟩
    · exact ⟨d, h, Nat.le_refl _, fun k hk hP => q ⟨k, hk, hP⟩⟩
/-- what is found by walking back -/
structure Round (n : Nat) (es : List Eg) (b : Nat → Option Eg) (y p : Nat) : Prop where
  one : 1 ≤ p
  le : p ≤ n
  home : bk b y p = y
  first : ∀ q, 1 ≤ q → q < p → bk b y q ≠ y
  edge : ∀ k, ∃ e, b (bk b y k) = some e ∧ e ∈ es ∧ e.v = bk b y k ∧ e.u = bk b y (k + 1) ∧ bk b y k < n
def wOf (b : Nat → Option Eg) (x : Nat) : Int := match b x with
  | some e => e.w
  | none => 0
theorem bk_some {b : Nat → Option Eg} {x k : Nat} {e : Eg} (h : b (bk b x k) = some e) : bk b x (k + 1) = e.u := by
  show par b (bk b x k) = e.u
  unfold par
  rw [h]
theorem BF.walk {n r : Nat} {es done : List Eg} {h : Nat → Int} {b : Nat → Option Eg} {rd tm : Nat → Nat} {clk x : Nat} (I : BF es r done h b rd tm clk) (hn : ∀ e ∈ es, e.u < n ∧ e.v < n) (hx : x < n) (hr : n ≤ rd x) :
    (∀ k, ∃ e, b (bk b x k) = some e) ∧ ∃ p, Round n es b (bk b x n) p ∧ 0 < ((List.range p).map fun k => wOf b (bk b (bk b x n) k)).sum := by
  have some_of : ∀ y, 0 < rd y → ∃ e, b y = some e := fun y hy => by
    cases hb : b y with
    | none => have := I.one y hb; omega
    | some e => exact ⟨e, rfl⟩
  have A : ∀ k, k ≤ n → n ≤ rd (bk b x k) + k ∧ bk b x k < n := by
    intro k
    induction k with
    | zero => exact fun _ => ⟨hr, hx⟩
    | succ k ih =>
      intro hk
      obtain ⟨h1, h2⟩ := ih (by omega)
      obtain ⟨e, he⟩ := some_of _ (show 0 < rd (bk b x k) by omega)
      rw [bk_some he]
      have := I.back _ e he
      exact ⟨by omega, (hn e (I.mem _ e he).1).1⟩
  obtain ⟨i, j, hij, hj, hb⟩ := pigeon (bk b x) fun k hk => (A k hk).2
  have per : ∀ m, bk b x (i + m + (j - i)) = bk b x (i + m) := by
    intro m
    rw [show i + m + (j - i) = j + m by omega, bk_add, bk_add, hb]
  have all : ∀ m, ∃ e, b (bk b x m) = some e := by
    intro m
    induction m using Nat.strongRecOn with
    | _ m ih =>
      by_cases q : m < n
      · exact some_of _ (by have := (A m (by omega)).1; omega)
      · have e := per (m - j)
        rw [show i + (m - j) + (j - i) = m by omega] at e
        rw [e]
        exact ih _ (by omega)
  refine ⟨all, ?_⟩
  have hd : bk b (bk b x n) (j - i) = bk b x n := by
    have e := per (n - i)
    rw [show i + (n - i) + (j - i) = n + (j - i) by omega, show i + (n - i) = n by omega, bk_add] at e
    exact e
  obtain ⟨p, ⟨p1, p2⟩, p3, p4⟩ := least_of (P := fun p => 1 ≤ p ∧ bk b (bk b x n) p = bk b x n) (j - i) ⟨by omega, hd⟩
  generalize hy : bk b x n = y at *
  have edge : ∀ k, ∃ e, b (bk b y k) = some e ∧ e ∈ es ∧ e.v = bk b y k ∧ e.u = bk b y (k + 1) ∧ bk b y k < n := by
    intro k
    obtain ⟨e, he⟩ := all (n + k)
    rw [bk_add, hy] at he
    have m := I.mem _ e he
    exact ⟨e, he, m.1, m.2, (bk_some he).symm, by rw [← m.2]; exact (hn e m.1).2⟩
  refine ⟨p, ⟨p1, by omega, p2, fun q h1 h2 h3 => p4 q h2 ⟨h1, h3⟩, edge⟩, ?_⟩
  have e0 : (0 : Int) = ((List.range p).map fun k => h (bk b y k) - h (bk b y (k + 1))).sum := by
    rw [tele (fun k => h (bk b y k)) p]
    show (0 : Int) = h (bk b y 0) - h (bk b y p)
    rw [p2]
    show (0 : Int) = h y - h y
    omega
  rw [e0]
  refine sum_map_lt _ _ (fun k _ => ?_) ?_
  · obtain ⟨e, he, _, _, hu, _⟩ := edge k
    have := I.le _ e he
    unfold wOf
    rw [he, ← hu]
    simp only
    omega
  · by_cases q : ∃ k, k < p ∧ h (bk b y k) - h (bk b y (k + 1)) < wOf b (bk b y k)
    · exact q
    · exfalso
      have q : ∀ k, k < p → ¬ h (bk b y k) - h (bk b y (k + 1)) < wOf b (bk b y k) := fun k hk z => q ⟨k, hk, z⟩
      have fall : ∀ k, k ≤ p → tm (bk b y k) + k ≤ tm y := by
        intro k
        induction k with
        | zero => intro _; exact Nat.le_refl _
        | succ k ih =>
          intro hk
          have ih := ih (by omega)
          obtain ⟨e, he, _, hv, hu, _⟩ := edge k
          obtain ⟨e', he', _⟩ := edge (k + 1)
          have qk := q k (by omega)
          unfold wOf at qk
          rw [he] at qk
          simp only at qk
          have ne : e.u ≠ bk b y k := fun z => by
            have := I.self _ e he z
            rw [← hu, z] at qk
            omega
          have nl : ¬ tm (bk b y k) < tm e.u := fun z => by
            have := I.lt _ e he z
            rw [hu] at this
            omega
          have nt : tm (bk b y k) ≠ tm (bk b y (k + 1)) := fun z => ne (by
            rw [hu]
            exact (I.inj _ _ (by rw [he]; simp) (by rw [he']; simp) z).symm)
          rw [hu] at nl
          omega
      have := fall p (Nat.le_refl _)
      rw [p2] at this
      omega
def oN : Option Nat → D
  | none => .none
  | some k => .int k
def Eg.d (e : Eg) : D := .tuple [.int e.u, .int e.v, .int e.w, oN e.t, .int e.way, .int e.r]
def oE : Option Eg → D
  | none => .none
  | some e => e.d
def hF (hs : List Int) (x : Nat) : Int := hs.getD x 0
def bF (bs : List (Option Eg)) (x : Nat) : Option Eg := bs.getD x none
theorem hF_set {hs : List Int} {v : Nat} (a : Int) (hv : v < hs.length) : hF (hs.set v a) = updF (hF hs) v a := by
  funext x
  unfold hF updF
  rw [List.getD_eq_getElem?_getD, List.getElem?_set]
  by_cases q : v = x
  · subst q
    rw [if_pos rfl, if_pos hv, if_pos rfl]; rfl
  · rw [if_neg q, if_neg (Ne.symm q)]
    show hs[x]?.getD 0 = hs.getD x 0
    rw [List.getD_eq_getElem?_getD]
theorem bF_set {bs : List (Option Eg)} {v : Nat} (a : Option Eg) (hv : v < bs.length) : bF (bs.set v a) = updF (bF bs) v a := by
  funext x
  unfold bF updF
  rw [List.getD_eq_getElem?_getD, List.getElem?_set]
  by_cases q : v = x
  · subst q
    rw [if_pos rfl, if_pos hv, if_pos rfl]; rfl
  · rw [if_neg q, if_neg (Ne.symm q)]
    show bs[x]?.getD none = bs.getD x none
    rw [List.getD_eq_getElem?_getD]
theorem atI_h {hs : List Int} {x : Nat} (h : x < hs.length) : atI (hs.map PyData.int) (x : Int) = some (.int (hF hs x)) := by
  refine atI_nat' (by omega) ?_
  rw [Int.toNat_natCast, List.getElem?_map, List.getElem?_eq_getElem h]
  unfold hF
  rw [List.getD_eq_getElem?_getD, List.getElem?_eq_getElem h]; rfl
theorem atI_b {bs : List (Option Eg)} {x : Nat} (h : x < bs.length) : atI (bs.map oE) (x : Int) = some (oE (bF bs x)) := by
  refine atI_nat' (by omega) ?_
  rw [Int.toNat_natCast, List.getElem?_map, List.getElem?_eq_getElem h]
  unfold bF
  rw [List.getD_eq_getElem?_getD, List.getElem?_eq_getElem h]; rfl
theorem repD_none {n : Int} (h0 : 0 ≤ n) (h1 : n ≤ 1000000) : repD (.list [.none]) (.int n) = some (.list ((List.replicate n.toNat (none : Option Eg)).map oE)) := by
  simp only [repD]
  rw [if_pos ⟨by omega, by omega, by simp only [List.length_cons, List.length_nil]; exact sizeLine_lt _ (by omega)⟩]
  congr 2
  generalize n.toNat = k
  induction k with
  | zero => rfl
  | succ k ih => rw [List.replicate_succ, List.flatten_cons, ih, List.replicate_succ, List.map_cons]; rfl
theorem hF_rep (n : Nat) : hF (List.replicate n 0) = fun _ => 0 := by
  funext x
  unfold hF
  rw [List.getD_eq_getElem?_getD, List.getElem?_replicate]
  split <;> rfl
theorem bF_rep (n : Nat) : bF (List.replicate n none) = fun _ => none := by
  funext x
  unfold bF
  rw [List.getD_eq_getElem?_getD, List.getElem?_replicate]
  split <;> rfl
theorem atI_end {ds : List D} {d : D} : atI (ds ++ [d]) (-1) = some d := by
  unfold atI ixN
  rw [List.length_append, List.length_singleton, if_neg (by decide), if_pos (by omega)]
  show (ds ++ [d])[((-1 : Int) + ((ds.length + 1 : Nat) : Int)).toNat]? = some d
  rw [show ((-1 : Int) + ((ds.length + 1 : Nat) : Int)).toNat = ds.length by omega]
  simp
def Eb (b : Nat → Option Eg) (y k : Nat) : Eg := (b (bk b y k)).getD ⟨0, 0, 0, none, 0, 0⟩
/-- demands that lead round and demand more than nought -/
structure Loop (n : Nat) (es L : List Eg) : Prop where
  ne : L ≠ []
  len : L.length ≤ n
  mem : ∀ e ∈ L, e ∈ es
  round : ∀ φ : Nat → Int, (L.map fun e => φ e.u - φ e.v).sum = 0
  more : 0 < (L.map fun e => e.w).sum
  nd : (L.map fun e => e.v).Nodup
  up : 2 ≤ L.length → ∃ e ∈ L, e.u < e.v
theorem loop_of {n : Nat} {es : List Eg} {b : Nat → Option Eg} {y p : Nat} (R : Round n es b y p) (hs : 0 < ((List.range p).map fun k => wOf b (bk b y k)).sum) : Loop n es ((List.range p).map (Eb b y)) := by
  have eb : ∀ k, b (bk b y k) = some (Eb b y k) := fun k => by
    obtain ⟨e, he, _⟩ := R.edge k
    unfold Eb; rw [he]; rfl
  have fac : ∀ k, Eb b y k ∈ es ∧ (Eb b y k).v = bk b y k ∧ (Eb b y k).u = bk b y (k + 1) := fun k => by
    obtain ⟨e, he, h1, h2, h3, _⟩ := R.edge k
    unfold Eb; rw [he]; exact ⟨h1, h2, h3⟩
  refine ⟨?_, by rw [List.length_map, List.length_range]; exact R.le, fun e he => ?_, fun φ => ?_, ?_, ?_, fun hp => ?_⟩
  · intro q
    have := R.one
    have z : p = 0 := by simpa using q
    omega
  · obtain ⟨k, _, rfl⟩ := List.mem_map.mp he
    exact (fac k).1
  · rw [List.map_map]
    have e : ((fun e : Eg => φ e.u - φ e.v) ∘ Eb b y) = fun k => (fun j => -φ (bk b y j)) k - (fun j => -φ (bk b y j)) (k + 1) := by
      funext k
      simp only [Function.comp, (fac k).2.1, (fac k).2.2]
      omega
    rw [e, tele (fun j => -φ (bk b y j)) p]
    show -φ (bk b y 0) - -φ (bk b y p) = 0
    rw [R.home]
    show -φ y - -φ y = 0
    omega
  · rw [List.map_map]
    have e : ((fun e : Eg => e.w) ∘ Eb b y) = fun k => wOf b (bk b y k) := by
      funext k
      unfold wOf
      rw [eb k]; rfl
    rw [e]; exact hs
  · rw [List.map_map]
    refine List.pairwise_map.mpr (List.Pairwise.imp_of_mem (R := (· < ·)) ?_ List.pairwise_lt_range)
    intro i j _ hj hij q
    have hj := List.mem_range.mp hj
    simp only [Function.comp, (fac _).2.1] at q
    have e := R.home
    rw [show p = j + (p - j) by omega, bk_add, ← q, ← bk_add] at e
    exact R.first (i + (p - j)) (by omega) (by omega) e
  · rw [List.length_map, List.length_range] at hp
    apply Classical.byContradiction
    intro hno
    have le : ∀ k, k < p → bk b y k ≤ bk b y (k + 1) := fun k hk => by
      apply Classical.byContradiction
      intro hlt
      exact hno ⟨Eb b y k, List.mem_map.mpr ⟨k, List.mem_range.mpr hk, rfl⟩, by rw [(fac k).2.1, (fac k).2.2]; omega⟩
    have mono : ∀ d i, i + d ≤ p → bk b y i ≤ bk b y (i + d) := by
      intro d
      induction d with
      | zero => intro i _; exact Nat.le_refl _
      | succ d ih => intro i hi; exact Nat.le_trans (ih i (by omega)) (le (i + d) (by omega))
    have a1 := mono 1 0 (by omega)
    have a2 := mono (p - 1) 1 (by omega)
    rw [show 1 + (p - 1) = p by omega, R.home] at a2
    have a0 : bk b y 0 = y := rfl
    rw [a0] at a1
    exact R.first 1 (by omega) (by omega) (Nat.le_antisymm a2 a1)
theorem F_contradiction_eq {n : Nat} {es : List Eg} (h1 : 1 ≤ n) (h2 : n ≤ 1000) (hl : es.length ≤ 100000) (hn : ∀ e ∈ es, e.u < n ∧ e.v < n) :
    ∃ t, (F_contradiction [.im (.int n), .im (.list (es.map Eg.d))] = .ok (.none, t) ∧ ∃ h : Nat → Int, ∀ e ∈ es, h e.u + e.w ≤ h e.v) ∨ ∃ L, Loop n es L ∧ F_contradiction [.im (.int n), .im (.list (es.map Eg.d))] = .ok (.list (L.map Eg.d), t) := by
  suffices h : Ev (F_contradiction [.im (.int n), .im (.list (es.map Eg.d))]) (fun x t => (x = .none ∧ ∃ h : Nat → Int, ∀ e ∈ es, h e.u + e.w ≤ h e.v) ∨ ∃ L, Loop n es L ∧ x = .list (L.map Eg.d)) fun _ _ => False by
    obtain ⟨x, t, e, ⟨rfl, q⟩ | ⟨L, q, rfl⟩⟩ := ev_eq h
    · exact ⟨t, .inl ⟨e, q⟩⟩
    · exact ⟨t, .inr ⟨L, q, e⟩⟩
  refine ev_fun ?_
  unfold g_contradiction
  generalize hN : (n : Int) = N
  walk_at "mirn"
  refine ev_o (repD_zero (by omega) (by omega)) ?_
  walk_at "mirn"
  refine ev_o (repD_none (by omega) (by omega)) ?_
  walk_at "mirn"
  rw [show N.toNat = n by omega]
  let A0 : Sl := .im (.int N)
  let A1 : Sl := .im (.list (es.map Eg.d))
  refine es_forK (fun t e => ∃ hs bs last rd tm clk a5 a6, hs.length = n ∧ bs.length = n ∧ BF es (t + 1) [] (hF hs) (bF bs) rd tm clk ∧ (1 ≤ t → last = none → ∀ e ∈ es, hF hs e.u + e.w ≤ hF hs e.v) ∧ (1 ≤ t → ∀ x, last = some x → x < n ∧ rd x = t) ∧
      e = [some A0, some A1, some (.ow (hs.map .int)), some (.ow (bs.map oE)), some (.im (oN last)), a5, a6, none])
    ⟨List.replicate n 0, List.replicate n none, none, _, _, _, _, _, by simp, by simp, by rw [hF_rep, bF_rep]; exact BF.start es _, fun q => by omega, fun q => by omega, rfl⟩ ?_ ?_
  · rintro t d e ht ⟨hs, bs, last, rd, tm, clk, a5, a6, lh, lb, I, _, _, rfl⟩
    obtain ⟨ht, rfl⟩ := rangeL_get ht
    walk_at "mirn"
    let T : D := .int (0 + (t : Int))
    refine es_forK (fun k e => ∃ hs bs last rd tm clk a6, hs.length = n ∧ bs.length = n ∧ BF es (t + 1) (es.take k) (hF hs) (bF bs) rd tm clk ∧ (last = none → ∀ e ∈ es.take k, hF hs e.u + e.w ≤ hF hs e.v) ∧ (∀ x, last = some x → x < n ∧ rd x = t + 1) ∧
        e = [some A0, some A1, some (.ow (hs.map .int)), some (.ow (bs.map oE)), some (.im (oN last)), some (.im T), a6, none]) ⟨hs, bs, none, rd, tm, clk, _, lh, lb, I, (fun _ e he => by simp at he), (fun x q => nomatch q), rfl⟩ ?_ ?_
    · clear I lh lb
      rintro k d e hk ⟨hs, bs, last, rd, tm, clk, a6, lh, lb, I, c1, c2, rfl⟩
      rw [List.getElem?_map, Option.map_eq_some_iff] at hk
      obtain ⟨g, hk, rfl⟩ := hk
      obtain ⟨hk1, hk2⟩ := List.getElem?_eq_some_iff.mp hk
      have hg : g ∈ es := List.mem_of_getElem? hk
      obtain ⟨gu, gv⟩ := hn g hg
      have tk : es.take (k + 1) = es.take k ++ [g] := by rw [List.take_succ_eq_append_getElem hk1, hk2]
      unfold Eg.d
      walk_at "mir"
      refine ev_o (atI_h (by omega)) ?_
      walk_at "mir"
      refine ev_o (atI_h (by omega)) ?_
      walk_at "mir"
      refine ⟨fun q => ?_, fun q => ?_⟩
      · have q := of_decide_eq_true q
        have I2 := I.rise (by omega) hg q
        rw [← tk] at I2
        walk_at "mir"
        refine ev_o (atI_h (by omega)) ?_
        walk_at "mir"
        refine ⟨g.v, ixN_nn (by omega) (by rw [List.length_map]; omega), ?_⟩
        walk_at "mir"
        refine ⟨g.v, ixN_nn (by omega) (by rw [List.length_map]; omega), ?_⟩
        walk_at "mir"
        refine ⟨hs.set g.v (hF hs g.u + g.w), bs.set g.v (some g), some g.v, _, _, _, some (.im g.d), by rw [List.length_set]; exact lh, by rw [List.length_set]; exact lb, by rw [hF_set _ (by omega), bF_set _ (by omega)]; exact I2, (fun z => nomatch z), fun x z => ?_, ?_⟩
        · cases z; exact ⟨gv, updF_same⟩
        · rw [List.map_set, List.map_set]; rfl
      · have q := of_decide_eq_false q
        have I2 := I.skip (e := g) q
        rw [← tk] at I2
        walk_at "mir"
        refine ⟨hs, bs, last, rd, tm, clk, _, lh, lb, I2, fun z e he => ?_, c2, rfl⟩
        rw [tk] at he
        rcases List.mem_append.mp he with he | he
        · exact c1 z e he
        · rw [List.mem_singleton] at he
          subst he
          omega
    · clear I lh lb
      rintro e ⟨hs, bs, last, rd, tm, clk, a6, lh, lb, I, c1, c2, rfl⟩
      rw [List.length_map, List.take_length] at I c1
      exact ⟨hs, bs, last, rd, tm, clk, _, _, lh, lb, I.next fun e he => he, fun _ => c1, fun _ => c2, rfl⟩
  · rintro e ⟨hs, bs, last, rd, tm, clk, a5, a6, lh, lb, I, c1, c2, rfl⟩
    rw [rangeL_length] at I c1 c2
    have e1 : (N + 1).toNat = n + 1 := by omega
    rw [e1] at I c1 c2
    cases last with
    | none =>
      walk_at "mir"
      exact .inl ⟨rfl, hF hs, c1 (by omega) rfl⟩
    | some x =>
      obtain ⟨hx, hr⟩ := c2 (by omega) x rfl
      obtain ⟨all, p, R, hw⟩ := I.walk hn hx (by omega)
      have L := loop_of R hw
      have ub : ∀ k, bk (bF bs) x k < n := fun k => by
        obtain ⟨e, he⟩ := all k
        have m := I.mem _ e he
        rw [← m.2]; exact (hn e m.1).2
      have eb : ∀ k, bF bs (bk (bF bs) (bk (bF bs) x n) k) = some (Eb (bF bs) (bk (bF bs) x n) k) := fun k => by
        obtain ⟨e, he, _⟩ := R.edge k
        unfold Eb; rw [he]; rfl
      have eu : ∀ k, (Eb (bF bs) (bk (bF bs) x n) k).u = bk (bF bs) (bk (bF bs) x n) (k + 1) := fun k => (bk_some (eb k)).symm
      have yb : ∀ k, bk (bF bs) (bk (bF bs) x n) k < n := fun k => by rw [← bk_add]; exact ub _
      walk_at "mir"
      refine es_forK (fun k e => ∃ a5 a6, e = [some A0, some A1, some (.ow (hs.map .int)), some (.ow (bs.map oE)), some (.im (.int (bk (bF bs) x k))), a5, a6, none]) ⟨_, _, rfl⟩ ?_ ?_
      · rintro k d e hk ⟨a5, a6, rfl⟩
        obtain ⟨g, hg⟩ := all k
        walk_at "mir"
        refine ev_o (atI_b (by have := ub k; omega)) ?_
        rw [hg]
        unfold oE Eg.d
        walk_at "mir"
        exact ⟨some (.im d), a6, by rw [bk_some hg]; rfl⟩
      · rintro e ⟨a5, a6, rfl⟩
        rw [rangeL_length, show N.toNat = n by omega]
        generalize hy : bk (bF bs) x n = y at *
        have pl := R.le
        have p1 := R.one
        have get : ∀ k, atI (((List.range (k + 1)).map fun j => (Eb (bF bs) y j).d)) (-1) = some (Eb (bF bs) y k).d := fun k => by
          rw [List.range_succ, List.map_append]; exact atI_end
        walk_at "mir"
        refine ev_o (atI_b (by have := yb 0; have : bk (bF bs) y 0 = y := rfl; omega)) ?_
        rw [show bF bs y = some (Eb (bF bs) y 0) from eb 0]
        walk_at "mir"
        refine es_whileI (I := fun e => ∃ k, k < p ∧ e = [some A0, some A1, some (.ow (hs.map .int)), some (.ow (bs.map oE)), some (.im (.int y)), a5, a6, some (.ow ((List.range (k + 1)).map fun j => (Eb (bF bs) y j).d))])
          (m := fun e : En => match e[7]? with | some (some (Sl.ow ds)) => p + 1 - ds.length | _ => 0) ?_ ⟨0, by omega, rfl⟩ ?_
        · rintro e ⟨k, hk, rfl⟩
          walk_at "mir"
          refine ev_o (get k) ?_
          unfold Eg.d
          walk_at "mir"
          rw [eu k]
          refine ⟨fun q => ?_, fun q => ?_⟩
          · rw [Bool.not_eq_true', decide_eq_false_iff_not] at q
            have hk1 : k + 1 < p := by
              apply Nat.lt_of_not_le
              intro z
              have z : k + 1 = p := by omega
              rw [z, R.home] at q
              exact q rfl
            walk_at "mir"
            refine ev_o (get k) ?_
            unfold Eg.d
            walk_at "mir"
            rw [eu k]
            refine ev_o (atI_b (by have := yb (k + 1); omega)) ?_
            rw [eb (k + 1)]
            walk_at "mir"
            refine ⟨by simp; exact Nat.lt_of_lt_of_le (show k + 1 < 5000 by omega) (sizeLine_lt _ (by decide)), ⟨k + 1, hk1, ?_⟩, ?_⟩
            · rw [List.range_succ (n := k + 1), List.map_append]; rfl
            · simp; omega
          · rw [Bool.not_eq_false', decide_eq_true_eq] at q
            have hk1 : k + 1 = p := by
              apply Nat.le_antisymm hk
              apply Nat.le_of_not_lt
              intro z
              exact R.first (k + 1) (by omega) z (Int.ofNat_inj.mp q)
            walk_at "mir"
            refine .inr ⟨_, L, ?_⟩
            rw [hk1, List.map_map]
            rfl
        · simp
          unfold n_contradiction_0
          omega
def plE (n p : Nat) : Eg := ⟨p, (p + 1) % n, 0, none, 1, (((p + 1) / n : Nat) : Int)⟩
def tV (n : Nat) (t : Tm) : Nat := (t.s.toNat + t.l.toNat) % n
def tR (n : Nat) (t : Tm) : Nat := (t.s.toNat + t.l.toNat) / n
def raw1 (n : Nat) (ts : List Tm) (k : Nat) : List Eg := match ts[k]? with
  | none => []
  | some t => [⟨t.s.toNat, tV n t, t.lo, some k, 1, (tR n t : Nat)⟩] ++ match t.hi with
    | none => []
    | some h => [⟨tV n t, t.s.toNat, -h, some k, -1, (tR n t : Nat)⟩]
def rawN (n : Nat) (ts : List Tm) (k : Nat) : List Eg := (List.range n).map (plE n) ++ (List.range k).flatMap (raw1 n ts)
def lessT (T : Int) (e : Eg) : Eg := { e with w := e.w - e.way * e.r * T }
def dem (n : Nat) (T : Int) (ts : List Tm) : List Eg := (rawN n ts ts.length).map (lessT T)
theorem rawN_succ (n : Nat) (ts : List Tm) (k : Nat) : rawN n ts (k + 1) = rawN n ts k ++ raw1 n ts k := by
  simp only [rawN, List.range_succ, List.flatMap_append, List.flatMap_cons, List.flatMap_nil, List.append_nil, List.append_assoc]
theorem raw1_length (n : Nat) (ts : List Tm) (k : Nat) : (raw1 n ts k).length ≤ 2 := by
  unfold raw1; split
  · simp
  · split <;> simp
theorem rawN_length (n : Nat) (ts : List Tm) : ∀ k : Nat, (rawN n ts k).length ≤ n + 2 * k
  | 0 => by simp [rawN]
  | k + 1 => by
    have := rawN_length n ts k
    have := raw1_length n ts k
    rw [rawN_succ, List.length_append]; omega
theorem dem_length (n : Nat) (T : Int) (ts : List Tm) : (dem n T ts).length ≤ n + 2 * ts.length := by
  unfold dem; rw [List.length_map]; exact rawN_length n ts _
/-- what kind of thing a demand is -/
theorem raw_mem {n : Nat} {ts : List Tm} {k : Nat} {e : Eg} (h : e ∈ rawN n ts k) : (∃ p, p < n ∧ e = plE n p) ∨ ∃ j t, ts[j]? = some t ∧ (e = ⟨t.s.toNat, tV n t, t.lo, some j, 1, (tR n t : Nat)⟩ ∨ ∃ i, t.hi = some i ∧ e = ⟨tV n t, t.s.toNat, -i, some j, -1, (tR n t : Nat)⟩) := by
  unfold rawN at h
  rcases List.mem_append.mp h with h | h
  · obtain ⟨p, hp, rfl⟩ := List.mem_map.mp h
    exact .inl ⟨p, List.mem_range.mp hp, rfl⟩
  · obtain ⟨j, _, h⟩ := List.mem_flatMap.mp h
    unfold raw1 at h
    split at h
    · simp at h
    · rename_i t ht
      refine .inr ⟨j, t, ht, ?_⟩
      rcases List.mem_append.mp h with h | h
      · exact .inl (by simpa using h)
      · split at h
        · simp at h
        · rename_i i hi
          exact .inr ⟨i, hi, by simpa using h⟩
structure EgOk (n m : Nat) (e : Eg) : Prop where
  u : e.u < n
  v : e.v < n
  way : e.way = 1 ∨ e.way = -1
  r0 : 0 ≤ e.r
  r1 : e.r ≤ 2
  t : ∀ j, e.t = some j → j < m
  dn : e.way = -1 → e.t ≠ none
theorem raw_ok {n : Nat} {ts : List Tm} {k : Nat} {e : Eg} (h1 : 1 ≤ n) (ht : ∀ t ∈ ts, t.ok n) (h : e ∈ rawN n ts k) : EgOk n ts.length e := by
  have rr : ∀ t ∈ ts, t.s.toNat < n ∧ tV n t < n ∧ tR n t ≤ 2 := fun t q => by
    have q := ht t q
    have a := q.s0; have b := q.s1; have c := q.l0; have d := q.l1
    refine ⟨by omega, Nat.mod_lt _ (by omega), ?_⟩
    unfold tR
    have : (t.s.toNat + t.l.toNat) / n ≤ (n * 2) / n := Nat.div_le_div_right (by omega)
    rw [Nat.mul_div_cancel_left _ (by omega)] at this
    exact this
  rcases raw_mem h with ⟨p, hp, rfl⟩ | ⟨j, t, hj, rfl | ⟨i, hi, rfl⟩⟩
  · refine ⟨hp, Nat.mod_lt _ (by omega), .inl rfl, Int.natCast_nonneg _, ?_, (fun j q => nomatch q), fun q => by simp [plE] at q⟩
    show (((p + 1) / n : Nat) : Int) ≤ 2
    have : (p + 1) / n ≤ (n * 1) / n := Nat.div_le_div_right (by omega)
    rw [Nat.mul_div_cancel_left _ (by omega)] at this
    omega
  · obtain ⟨a, b, c⟩ := rr t (List.mem_of_getElem? hj)
    exact ⟨a, b, .inl rfl, Int.natCast_nonneg _, by show ((tR n t : Nat) : Int) ≤ 2; omega, fun j' q => by cases q; exact (List.getElem?_eq_some_iff.mp hj).1, fun q => by simp at q⟩
  · obtain ⟨a, b, c⟩ := rr t (List.mem_of_getElem? hj)
    exact ⟨b, a, .inr rfl, Int.natCast_nonneg _, by show ((tR n t : Nat) : Int) ≤ 2; omega, fun j' q => by cases q; exact (List.getElem?_eq_some_iff.mp hj).1, fun _ => by simp⟩
theorem dem_ok {n : Nat} {T : Int} {ts : List Tm} {e : Eg} (h1 : 1 ≤ n) (ht : ∀ t ∈ ts, t.ok n) (h : e ∈ dem n T ts) : EgOk n ts.length e := by
  obtain ⟨g, hg, rfl⟩ := List.mem_map.mp h
  have q := raw_ok h1 ht hg
  exact ⟨q.u, q.v, q.way, q.r0, q.r1, q.t, q.dn⟩
def lessD (T : Int) : D → D
  | .tuple [u, v, .int w, t, .int way, .int r] => .tuple [u, v, .int (w - way * r * T), t, .int way, .int r]
  | _ => .none
def plD (n : Int) : D → D
  | .int p => .tuple [.int p, .int ((p + 1) % n), .int 0, .none, .int 1, .int ((p + 1) / n)]
  | _ => .none
theorem term_nat {n : Nat} {t : Tm} (h : t.ok n) (h1 : 1 ≤ n) : (t.s + t.l) % (n : Int) = (tV n t : Nat) ∧ (t.s + t.l) / (n : Int) = (tR n t : Nat) ∧ t.s = (t.s.toNat : Nat) := by
  have a := h.s0; have c := h.l0
  have e : t.s + t.l = ((t.s.toNat + t.l.toNat : Nat) : Int) := by omega
  refine ⟨?_, ?_, by omega⟩
  · rw [e]; exact (Int.natCast_emod _ _).symm
  · rw [e]; exact (Int.natCast_ediv _ _).symm
theorem F_demands_eq {n : Nat} {T : Int} {ts : List Tm} (h1 : 1 ≤ n) (h2 : n ≤ 1000) (ht : ∀ t ∈ ts, t.ok n) (hs : ts.length ≤ 10000) : ∃ t, F_demands [.im (rgD n ts), .im (.int T)] = .ok (.list ((dem n T ts).map Eg.d), t) := by
  suffices h : Ev (F_demands [.im (rgD n ts), .im (.int T)]) (fun x t => x = .list ((dem n T ts).map Eg.d)) fun _ _ => False by
    obtain ⟨x, t, e, rfl⟩ := ev_eq h; exact ⟨t, e⟩
  refine ev_fun ?_
  unfold g_demands rgD
  walk_at "mirn"
  refine ev_lcm (v := plD n) ?_
  walk_at "mirn"
  refine ⟨rfl, by rw [rangeL_length]; exact sizeLine_lt _ (by omega), fun d hd => ?_, ?_⟩
  · obtain ⟨i, hi, rfl⟩ := rangeL_mem hd
    walk_at "mirn"
    exact ⟨rfl, rfl, rfl⟩
  have e0 : (rangeL 0 (n : Int).toNat).map (plD n) = (rawN n ts 0).map Eg.d := by
    unfold rangeL rawN
    rw [List.map_map, List.range_zero, List.flatMap_nil, List.append_nil, List.map_map, Int.toNat_natCast]
    apply List.map_congr_left
    intro i _
    have a : ((0 + (i : Int)) + 1) % (n : Int) = (((i + 1) % n : Nat) : Int) := by
      rw [show (0 + (i : Int)) + 1 = ((i + 1 : Nat) : Int) by omega]; exact (Int.natCast_emod _ _).symm
    have b : ((0 + (i : Int)) + 1) / (n : Int) = (((i + 1) / n : Nat) : Int) := by
      rw [show (0 + (i : Int)) + 1 = ((i + 1 : Nat) : Int) by omega]; exact (Int.natCast_ediv _ _).symm
    show PyData.tuple [.int (0 + (i : Int)), .int (((0 + (i : Int)) + 1) % (n : Int)), .int 0, .none, .int 1, .int (((0 + (i : Int)) + 1) / (n : Int))] = _
    rw [a, b, Int.zero_add]
    rfl
  rw [e0]
  walk_at "mirn"
  refine es_forK (fun k e => ∃ a4 a5 a6 a7 a8 a9 a10, (a10 = none ∨ ∃ d, a10 = some (.im d)) ∧ e = [some (.im (rgD n ts)), some (.im (.int T)), some (.im (.int n)), some (.ow ((rawN n ts k).map Eg.d)), a4, a5, a6, a7, a8, a9, a10, none, none, none, none, none, none])
    ⟨_, _, _, _, _, _, _, .inl rfl, rfl⟩ ?_ ?_
  · rintro k d e hk ⟨a4, a5, a6, a7, a8, a9, a10, _, rfl⟩
    obtain ⟨t0, hk0, rfl⟩ := enumL_get hk
    clear hk
    rw [List.getElem?_map, Option.map_eq_some_iff] at hk0
    obtain ⟨t, hk, rfl⟩ := hk0
    have ok := ht t (List.mem_of_getElem? hk)
    obtain ⟨q1, q2, q3⟩ := term_nat ok h1
    have hk1 := (List.getElem?_eq_some_iff.mp hk).1
    have hlen := rawN_length n ts k
    have big : (rawN n ts k).length + 1 < sizeLine := Nat.lt_of_lt_of_le (show (rawN n ts k).length + 1 < 100000 by omega) (sizeLine_lt _ (by decide))
    unfold Tm.d
    walk_at "mirn"
    refine ⟨by rw [List.length_map]; omega, ?_⟩
    rw [q1, q2]
    refine es_if ?_
    walk_at "mirn"
    have e1 : rawN n ts (k + 1) = rawN n ts k ++ raw1 n ts k := rawN_succ n ts k
    unfold raw1 at e1
    rw [hk] at e1
    simp only at e1
    have eA : PyData.tuple [.int t.s, .int (tV n t : Nat), .int t.lo, .int (k : Nat), .int 1, .int (tR n t : Nat)] = Eg.d ⟨t.s.toNat, tV n t, t.lo, some k, 1, (tR n t : Nat)⟩ := by
      unfold Eg.d oN
      rw [← q3]
    rw [eA]
    cases hh : t.hi with
    | none =>
      rw [hh] at e1
      have e2 : (rawN n ts k).map Eg.d ++ [Eg.d ⟨t.s.toNat, tV n t, t.lo, some k, 1, (tR n t : Nat)⟩] = (rawN n ts (k + 1)).map Eg.d := by rw [e1, List.map_append]; rfl
      rw [e2]
      unfold oI
      walk_at "mir"
      exact ⟨_, _, _, _, _, _, _, .inr ⟨_, rfl⟩, rfl⟩
    | some i =>
      rw [hh] at e1
      unfold oI
      walk_at "mir"
      refine ⟨by rw [List.length_append, List.length_map]; exact big, ?_⟩
      have eB : PyData.tuple [.int (tV n t : Nat), .int t.s, .int (-i), .int (k : Nat), .int (-1), .int (tR n t : Nat)] = Eg.d ⟨tV n t, t.s.toNat, -i, some k, -1, (tR n t : Nat)⟩ := by
        unfold Eg.d oN
        rw [← q3]
      rw [eB]
      have e2 : (rawN n ts k).map Eg.d ++ [Eg.d ⟨t.s.toNat, tV n t, t.lo, some k, 1, (tR n t : Nat)⟩] ++ [Eg.d ⟨tV n t, t.s.toNat, -i, some k, -1, (tR n t : Nat)⟩] = (rawN n ts (k + 1)).map Eg.d := by rw [e1, List.map_append]; simp
      rw [e2]
      exact ⟨_, _, _, _, _, _, _, .inr ⟨_, rfl⟩, rfl⟩
  · rintro e ⟨a4, a5, a6, a7, a8, a9, a10, ok10, rfl⟩
    rw [enumL_length, List.length_map]
    walk_at "mirn"
    refine ev_lcm (v := lessD T) ?_
    walk_at "mirn"
    refine ⟨by rcases ok10 with rfl | ⟨d, rfl⟩ <;> rfl, by rw [List.length_map]; have := rawN_length n ts ts.length; exact sizeLine_lt _ (by omega), fun d hd => ?_, ?_⟩
    · obtain ⟨g, hg, rfl⟩ := List.mem_map.mp hd
      have ok := raw_ok h1 ht hg
      have w := ok.way; have r0 := ok.r0; have r1 := ok.r1
      unfold Eg.d
      rcases w with w | w
      · rw [w]
        walk_at "mirn"
        exact ⟨rfl, by kernel_rfl, by kernel_rfl⟩
      · rw [w]
        walk_at "mirn"
        exact ⟨rfl, by kernel_rfl, by kernel_rfl⟩
    · unfold dem
      rw [List.map_map, List.map_map]
      rfl
def upsL (L : List Eg) : List Int := (L.filter fun e => e.t.isSome && decide (e.way = 1)).map fun e => ((e.t.getD 0 : Nat) : Int)
def dnL (L : List Eg) : List Int := (L.filter fun e => decide (e.way = -1)).map fun e => ((e.t.getD 0 : Nat) : Int)
def rdL (L : List Eg) : Int := (L.map fun e => e.way * e.r).sum
def barOf (L : List Eg) : D := .tuple [.list ((sortI (upsL L)).map .int), .list ((sortI (dnL L)).map .int), .int (rdL L)]
def bUp : D → Bool
  | .tuple [_, _, _, .int _, .int w, _] => decide (w = 1)
  | _ => false
def bDn : D → Bool
  | .tuple [_, _, _, _, .int w, _] => decide (w = -1)
  | _ => false
def v3 : D → D
  | .tuple [_, _, _, t, _, _] => t
  | _ => .none
def v45 : D → D
  | .tuple [_, _, _, _, .int w, .int r] => .int (w * r)
  | _ => .none
theorem ups_data : ∀ L : List Eg, ((L.map Eg.d).filter bUp).map v3 = (upsL L).map .int
  | [] => rfl
  | e :: L => by
    have ih := ups_data L
    unfold upsL at ih ⊢
    rw [List.map_cons, List.filter_cons, List.filter_cons]
    cases ht : e.t with
    | none =>
      have a : bUp e.d = false := by unfold Eg.d oN; rw [ht]; rfl
      simp only [a, Option.isSome_none, Bool.false_and, Bool.false_eq_true, if_false]
      exact ih
    | some j =>
      have a : bUp e.d = decide (e.way = 1) := by unfold Eg.d oN; rw [ht]; rfl
      have c : v3 e.d = .int (j : Int) := by unfold Eg.d oN; rw [ht]; rfl
      simp only [a, Option.isSome_some, Bool.true_and]
      by_cases q : e.way = 1
      · simp only [q, decide_true, if_true, List.map_cons, c, ht, Option.getD_some]
        rw [← ih]
      · simp only [q, decide_false, Bool.false_eq_true, if_false]
        exact ih
theorem dn_data : ∀ L : List Eg, (∀ e ∈ L, e.way = -1 → e.t ≠ none) → ((L.map Eg.d).filter bDn).map v3 = (dnL L).map .int
  | [], _ => rfl
  | e :: L, h => by
    have ih := dn_data L fun g hg => h g (by simp [hg])
    unfold dnL at ih ⊢
    rw [List.map_cons, List.filter_cons, List.filter_cons]
    have a : bDn e.d = decide (e.way = -1) := rfl
    rw [a]
    by_cases q : e.way = -1
    · cases ht : e.t with
      | none => exact absurd ht (h e (by simp) q)
      | some j =>
        have c : v3 e.d = .int (j : Int) := by unfold Eg.d oN; rw [ht]; rfl
        simp only [q, decide_true, if_true, List.map_cons, c, ht, Option.getD_some]
        rw [← ih]
    · simp only [q, decide_false, Bool.false_eq_true, if_false]
      exact ih
theorem sortedD_ints (ns : List Int) : sortedD [.list (ns.map .int)] = some (.list ((sortI ns).map .int)) := by simp only [sortedD, intsD_map, Option.map_some]
theorem F_found_bar_eq {n : Nat} {T : Int} {ts : List Tm} (h1 : 1 ≤ n) (h2 : n ≤ 1000) (ht : ∀ t ∈ ts, t.ok n) (hs : ts.length ≤ 10000) :
    ∃ t, (F_found_bar [.im (rgD n ts), .im (.int T)] = .ok (.none, t) ∧ ∃ h : Nat → Int, ∀ e ∈ dem n T ts, h e.u + e.w ≤ h e.v) ∨ ∃ L, Loop n (dem n T ts) L ∧ F_found_bar [.im (rgD n ts), .im (.int T)] = .ok (barOf L, t) := by
  suffices h : Ev (F_found_bar [.im (rgD n ts), .im (.int T)]) (fun x t => (x = .none ∧ ∃ h : Nat → Int, ∀ e ∈ dem n T ts, h e.u + e.w ≤ h e.v) ∨ ∃ L, Loop n (dem n T ts) L ∧ x = barOf L) fun _ _ => False by
    obtain ⟨x, t, e, ⟨rfl, q⟩ | ⟨L, q, rfl⟩⟩ := ev_eq h
    · exact ⟨t, .inl ⟨e, q⟩⟩
    · exact ⟨t, .inr ⟨L, q, e⟩⟩
  have dl := dem_length n T ts
  obtain ⟨t1, e1⟩ := F_demands_eq (T := T) h1 h2 ht hs
  obtain ⟨t2, e2⟩ := F_contradiction_eq (es := dem n T ts) h1 h2 (by omega) fun e he => ⟨(dem_ok h1 ht he).u, (dem_ok h1 ht he).v⟩
  refine ev_fun ?_
  unfold g_found_bar rgD
  walk_at "mirn"
  refine ev_of e1 ?_
  rw [back_ims rfl]
  walk_at "mirn"
  rcases e2 with ⟨e2, hp⟩ | ⟨L, hL, e2⟩
  · refine ev_of e2 ?_
    rw [back_ims rfl]
    walk_at "mir"
    exact .inl ⟨rfl, hp⟩
  · refine ev_of e2 ?_
    rw [back_ims rfl]
    have ok : ∀ e ∈ L, EgOk n ts.length e := fun e he => dem_ok h1 ht (hL.mem e he)
    have ll := hL.len
    walk_at "mir"
    refine ev_lc (b := bUp) (v := v3) (P0 := fun _ _ => True) ?_
    walk_at "mir"
    refine ⟨rfl, by rw [List.length_map]; exact sizeLine_lt _ (by omega), fun d hd => ?_, ?_⟩
    · obtain ⟨e, he, rfl⟩ := List.mem_map.mp hd
      unfold Eg.d
      cases hte : e.t with
      | none =>
        unfold oN
        walk_at "mir"
        exact ⟨rfl, (fun q => nomatch q), fun _ => ⟨rfl, rfl⟩⟩
      | some j =>
        unfold oN
        walk_at "mir"
        exact ⟨rfl, fun _ => ⟨rfl, rfl, rfl⟩, fun _ => ⟨rfl, rfl⟩⟩
    rw [ups_data]
    walk_at "mir"
    refine ev_o (sortedD_ints _) ?_
    walk_at "mir"
    refine ev_lc (b := bDn) (v := v3) (P0 := fun _ _ => True) ?_
    walk_at "mir"
    refine ⟨rfl, by rw [List.length_map]; exact sizeLine_lt _ (by omega), fun d hd => ?_, ?_⟩
    · obtain ⟨e, he, rfl⟩ := List.mem_map.mp hd
      unfold Eg.d
      walk_at "mir"
      exact ⟨rfl, fun _ => ⟨rfl, rfl, rfl⟩, fun _ => ⟨rfl, rfl⟩⟩
    rw [dn_data L fun e he => (ok e he).dn]
    walk_at "mir"
    refine ev_o (sortedD_ints _) ?_
    walk_at "mir"
    refine ev_lcm (v := v45) ?_
    walk_at "mir"
    refine ⟨rfl, by rw [List.length_map]; exact sizeLine_lt _ (by omega), fun d hd => ?_, ?_⟩
    · obtain ⟨e, he, rfl⟩ := List.mem_map.mp hd
      have q := (ok e he).way
      unfold Eg.d
      walk_at "mir"
      exact ⟨rfl, rfl, rfl⟩
    have e3 : (L.map Eg.d).map v45 = (L.map fun e => e.way * e.r).map .int := by rw [List.map_map, List.map_map]; rfl
    rw [e3]
    walk_at "mir"
    refine ev_o (sumD_list _) ?_
    walk_at "mir"
    exact .inr ⟨L, hL, rfl⟩
section
variable {N : En → Prop} {P : D → En → Prop} {B C : En → Prop} {E : Exn → En → Prop} {Q : D → En → Prop} {env : En} {f g : EF} {i j : Nat} {d : D} {kvs0 : List (Key × D)}
theorem es_setDk {c : D} (hi : env[i]? = some (some (.im d))) (q : EvO (keyOf d) fun k => N (env.set j (some (.dk [(k, c)])))) : Es (sSetDk j i c env) N P B C E := by
  unfold sSetDk
  rw [hi]
  obtain ⟨k, h, q⟩ := q
  simp only [h]
  exact ⟨q⟩
theorem ev_dix (hi : env[i]? = some (some (.dk kvs0))) (q : Ev (g env) (fun a e => ∃ kvs, e[i]? = some (some (.dk kvs)) ∧ EvO ((keyOf a).bind (valD kvs)) fun r => Q r e) E) : Ev (fDIx i g env) Q E := by
  unfold fDIx
  rw [hi]
  refine ev_bind (ev_imp1 q fun a e q => ?_)
  obtain ⟨kvs, he, q⟩ := q
  simp only [he]
  exact ev_obk q
theorem ev_din (q : Ev (f env) (fun a e => ∃ kvs, e[i]? = some (some (.dk kvs)) ∧ EvO (keyOf a) fun k => Q (.bool (valD kvs k).isSome) e) E) : Ev (fDIn i f env) Q E := by
  unfold fDIn
  refine ev_bind (ev_imp1 q fun a e q => ?_)
  obtain ⟨kvs, he, k, hk, q⟩ := q
  simp only [he, hk]
  exact ⟨q⟩
theorem ev_dget2 (hi : env[i]? = some (some (.dk kvs0))) (q : Ev (g env) (fun a e => Ev (f e) (fun b e => ∃ kvs, e[i]? = some (some (.dk kvs)) ∧ EvO (keyOf a) fun k => Q ((valD kvs k).getD b) e) E) E) : Ev (fDGet2 i g f env) Q E := by
  unfold fDGet2
  rw [hi]
  refine ev_bind (ev_imp1 q fun a e q => ev_bind (ev_imp1 q fun b e q => ?_))
  obtain ⟨kvs, he, k, hk, q⟩ := q
  simp only [he, hk]
  exact ⟨q⟩
theorem es_dsto (q : Ev (f env) (fun v e => (∃ kvs, e[i]? = some (some (.dk kvs))) ∧ Ev (g e) (fun a e => ∃ kvs, e[i]? = some (some (.dk kvs)) ∧ kvs.length < sizeLine ∧ EvO (keyOf a) fun k => N (e.set i (some (.dk (putD kvs k v))))) E) E) : Es (sDSto i g f env) N P B C E := by
  unfold sDSto
  refine es_bind (ev_imp1 q fun v e q => ?_)
  obtain ⟨⟨kvs1, h1⟩, q⟩ := q
  simp only [h1]
  refine es_bind (ev_imp1 q fun a e q => ?_)
  obtain ⟨kvs, he, hl, k, hk, q⟩ := q
  simp only [he, hl, if_true, hk]
  exact ⟨q⟩
end
theorem putD_length (kvs : List (Key × D)) (k : Key) (d : D) : (putD kvs k d).length ≤ kvs.length + 1 := by
  unfold putD
  split
  · rw [List.length_map]; omega
  · rw [List.length_append]; exact Nat.le_refl _
theorem valD_put (kvs : List (Key × D)) (k j : Key) (d : D) : valD (putD kvs k d) j = if j = k then some d else valD kvs j := by
  unfold putD
  split
  · rename_i h
    by_cases e : j = k
    · subst e
      rw [if_pos rfl]
      induction kvs with
      | nil => simp at h
      | cons p r ih =>
        unfold valD
        simp only [List.map_cons, List.find?_cons]
        by_cases q : p.1 = j
        · simp [q]
        · simp only [q, if_false, decide_false]
          rw [List.any_cons] at h
          simp only [q, decide_false, Bool.false_or] at h
          exact ih h
    · rw [if_neg e]
      clear h
      induction kvs with
      | nil => rfl
      | cons p r ih =>
        unfold valD at ih ⊢
        simp only [List.map_cons, List.find?_cons]
        by_cases q : p.1 = k
        · have q2 : ¬ k = j := fun z => e z.symm
          simp only [q, if_true, q2, decide_false]
          exact ih
        · simp only [q, if_false]
          by_cases q3 : p.1 = j
          · simp [q3]
          · simp only [q3, decide_false]
            exact ih
  · rename_i h
    unfold valD
    rw [List.find?_append]
    by_cases e : j = k
    · subst e
      rw [if_pos rfl]
      have : kvs.find? (fun kv => decide (kv.1 = j)) = none := by
        rw [List.find?_eq_none]
        intro x hx
        simp only [List.any_eq_true, decide_eq_true_eq, not_exists, not_and] at h
        simpa using h x hx
      rw [this]
      simp
    · rw [if_neg e]
      have q2 : ¬ k = j := fun z => e z.symm
      cases hf : kvs.find? (fun kv => decide (kv.1 = j)) with
      | some p => rfl
      | none => simp [q2]
def hC (φ : Nat → Int) (C : Int) (val : Nat → Option Int) (x : Nat) : Int := match val x with
  | some a => a
  | none => φ x - C
def Feas (es : List Eg) (g : Nat → Int) : Prop := ∀ e ∈ es, g e.u + e.w ≤ g e.v
structure HS (es : List Eg) (p : Nat) (φ : Nat → Int) (r : Nat) (done : List Eg) (val : Nat → Option Int) (b : Nat → Option Eg) (rd tm : Nat → Nat) (clk : Nat) : Prop where
  bf : ∃ C0, ∀ C, C0 ≤ C → BF es r done (hC φ C val) b rd tm clk
  low : ∀ g, Feas es g → ∀ x a, val x = some a → a ≤ g x - g p
  home : ∃ a, val p = some a ∧ 0 ≤ a
theorem hC_upd (φ : Nat → Int) (C : Int) (val : Nat → Option Int) (v : Nat) (a : Int) : hC φ C (updF val v (some a)) = updF (hC φ C val) v a := by
  funext x
  unfold hC updF
  by_cases q : x = v
  · rw [if_pos q, if_pos q]
  · rw [if_neg q, if_neg q]
theorem HS.start {es : List Eg} {p : Nat} {φ : Nat → Int} : HS es p φ 1 [] (updF (fun _ => none) p (some 0)) (fun _ => none) (fun _ => 0) (fun _ => 0) 1 := by
  refine ⟨⟨0, fun C _ => BF.start es _⟩, fun g _ x a h => ?_, 0, updF_same, Int.le_refl _⟩
  by_cases q : x = p
  · rw [q, updF_same] at h; cases h; rw [q]; omega
  · rw [updF_ne q] at h; cases h
theorem HS.next {es done : List Eg} {p r : Nat} {φ : Nat → Int} {val : Nat → Option Int} {b : Nat → Option Eg} {rd tm : Nat → Nat} {clk : Nat} (I : HS es p φ r done val b rd tm clk) (hd : ∀ e ∈ es, e ∈ done) : HS es p φ (r + 1) [] val b rd tm clk := by
  obtain ⟨C0, h⟩ := I.bf
  exact ⟨⟨C0, fun C hC => (h C hC).next hd⟩, I.low, I.home⟩
/-- a demand that changes nothing -/
theorem HS.skip {es done : List Eg} {p r : Nat} {φ : Nat → Int} {val : Nat → Option Int} {b : Nat → Option Eg} {rd tm : Nat → Nat} {clk : Nat} {e : Eg} (I : HS es p φ r done val b rd tm clk) (hφ : Feas es φ) (he : e ∈ es)
    (hn : ∀ c, val e.u = some c → ∃ a, val e.v = some a ∧ c + e.w ≤ a) : HS es p φ r (done ++ [e]) val b rd tm clk := by
  obtain ⟨C0, h⟩ := I.bf
  have f := hφ e he
  refine ⟨⟨max C0 (φ e.u + e.w - (val e.v).getD 0), fun C hC' => (h C (by omega)).skip ?_⟩, I.low, I.home⟩
  unfold hC
  cases hu : val e.u with
  | some c =>
    obtain ⟨a, ha, q⟩ := hn c hu
    rw [ha]
    simp only
    omega
  | none =>
    cases hv : val e.v with
    | some a =>
      rw [hv, Option.getD_some] at hC'
      simp only
      omega
    | none =>
      simp only
      omega
/-- a demand that lifts -/
theorem HS.rise {es done : List Eg} {p r : Nat} {φ : Nat → Int} {val : Nat → Option Int} {b : Nat → Option Eg} {rd tm : Nat → Nat} {clk : Nat} {e : Eg} {c : Int} (I : HS es p φ r done val b rd tm clk) (hr : 1 ≤ r) (he : e ∈ es) (hu : val e.u = some c)
    (hn : ∀ a, val e.v = some a → a < c + e.w) : HS es p φ r (done ++ [e]) (updF val e.v (some (c + e.w))) (updF b e.v (some e)) (updF rd e.v r) (updF tm e.v clk) (clk + 1) := by
  obtain ⟨C0, h⟩ := I.bf
  have eu : ∀ C, hC φ C val e.u = c := fun C => by unfold hC; rw [hu]
  refine ⟨⟨max C0 (φ e.v - c - e.w + 1), fun C hC' => ?_⟩, fun g hg x a hx => ?_, ?_⟩
  · have q := (h C (by omega)).rise hr he (by
      rw [eu]
      unfold hC
      cases hv : val e.v with
      | some a => exact hn a hv
      | none => simp only; omega)
    rw [eu] at q
    rw [hC_upd]
    exact q
  · by_cases q : x = e.v
    · rw [q, updF_same] at hx
      cases hx
      have a1 := I.low g hg e.u c hu
      have a2 := hg e he
      rw [q]; omega
    · rw [updF_ne q] at hx
      exact I.low g hg x a hx
  · obtain ⟨a, ha, h0⟩ := I.home
    by_cases q : p = e.v
    · have := hn a (by rw [← q]; exact ha)
      exact ⟨c + e.w, by rw [q, updF_same], by omega⟩
    · exact ⟨a, by rw [updF_ne q]; exact ha, h0⟩
/-- behind as many rounds as there are places all demands are met -/
theorem HS.met {es : List Eg} {n p : Nat} {φ : Nat → Int} {val : Nat → Option Int} {b : Nat → Option Eg} {rd tm : Nat → Nat} {clk : Nat} (I : HS es p φ (n + 1) [] val b rd tm clk) (hφ : Feas es φ) (hn : ∀ e ∈ es, e.u < n ∧ e.v < n) :
    ∀ e ∈ es, ∀ c a, val e.u = some c → val e.v = some a → c + e.w ≤ a := by
  intro e he c a hu hv
  obtain ⟨C0, h⟩ := I.bf
  have J := h C0 (Int.le_refl _)
  by_cases q : rd e.u + 1 < n + 1
  · have k := J.prev e he q
    unfold hC at k
    rw [hu, hv] at k
    exact k
  · exfalso
    obtain ⟨_, k, R, hs⟩ := J.walk hn (hn e he).1 (by omega)
    have L := loop_of R hs
    have m := L.more
    have z := L.round φ
    have le : ∀ M : List Eg, (∀ e ∈ M, e ∈ es) → (M.map fun e => e.w).sum + (M.map fun e => φ e.u - φ e.v).sum ≤ 0 := by
      intro M
      induction M with
      | nil => intro _; simp
      | cons g M ih =>
        intro hM
        have a1 := ih fun e he => hM e (by simp [he])
        have a2 := hφ g (hM g (by simp))
        simp only [List.map_cons, List.sum_cons]
        omega
    have := le _ L.mem
    omega
theorem ff_h {b : Bool} {X Y : Prop} (h : b = false) (y : Y) : (b = true → X) ∧ (b = false → Y) := by subst h; exact ff_mk y
theorem tt_h {b : Bool} {X Y : Prop} (h : b = true) (x : X) : (b = true → X) ∧ (b = false → Y) := by subst h; exact tt_mk x
/-- every place is come to -/
structure Way (es : List Eg) (n p : Nat) (sq : Nat → Nat) : Prop where
  zero : sq 0 = p
  lt : ∀ t, sq t < n
  step : ∀ t, t < n → ∃ e ∈ es, e.u = sq t ∧ e.v = sq (t + 1)
  all : ∀ x, x < n → ∃ t, t ≤ n ∧ sq t = x
/-- the least heights from a place that meet all demands -/
structure Hts (es : List Eg) (n p : Nat) (hs : List Int) : Prop where
  len : hs.length = n
  home : hF hs p = 0
  feas : Feas es (hF hs)
  low : ∀ g, Feas es g → ∀ x, x < n → hF hs x ≤ g x - g p
def nameD (kvs : List (Key × D)) (val : Nat → Option Int) : Prop := ∀ x : Nat, valD kvs (.inl (x : Int)) = (val x).map PyData.int
theorem nameD_put {kvs : List (Key × D)} {val : Nat → Option Int} (h : nameD kvs val) (v : Nat) (a : Int) : nameD (putD kvs (.inl (v : Int)) (.int a)) (updF val v (some a)) := by
  intro x
  rw [valD_put]
  by_cases q : x = v
  · subst q
    rw [if_pos rfl, updF_same]; rfl
  · rw [if_neg (fun z => q (by have := Sum.inl.inj z; omega)), updF_ne q]
    exact h x
theorem updF_self {val : Nat → Option Int} {v : Nat} {a : Int} (h : val v = some a) : updF val v (some a) = val := by
  funext x
  unfold updF
  by_cases q : x = v
  · rw [if_pos q, q, h]
  · rw [if_neg q]
theorem F_heights_from_eq {n p : Nat} {es : List Eg} {sq : Nat → Nat} {φ : Nat → Int} (h1 : 1 ≤ n) (h2 : n ≤ 1000) (hl : n * es.length ≤ 1000000) (hl2 : es.length ≤ 100000) (hp : p < n) (hn : ∀ e ∈ es, e.u < n ∧ e.v < n) (hφ : Feas es φ) (W : Way es n p sq) :
    ∃ hs t, Hts es n p hs ∧ F_heights_from [.im (.int n), .im (.list (es.map Eg.d)), .im (.int p)] = .ok (.list (hs.map .int), t) := by
  suffices h : Ev (F_heights_from [.im (.int n), .im (.list (es.map Eg.d)), .im (.int p)]) (fun x t => ∃ hs, Hts es n p hs ∧ x = .list (hs.map .int)) fun _ _ => False by
    obtain ⟨x, t, e, hs, q, rfl⟩ := ev_eq h
    exact ⟨hs, t, q, e⟩
  refine ev_fun ?_
  unfold g_heights_from
  walk_at "mirn"
  refine es_setDk rfl ⟨_, rfl, ?_⟩
  walk_at "mirn"
  let A0 : Sl := .im (.int n)
  let A1 : Sl := .im (.list (es.map Eg.d))
  let A2 : Sl := .im (.int p)
  refine es_forK (fun t e => ∃ kvs val b rd tm clk a4 a5 a6, nameD kvs val ∧ kvs.length ≤ 1 + t * es.length ∧ HS es p φ (t + 1) [] val b rd tm clk ∧ (∀ j, j ≤ t → val (sq j) ≠ none) ∧ (a6 = none ∨ ∃ d, a6 = some (.im d)) ∧
      e = [some A0, some A1, some A2, some (.dk kvs), a4, a5, a6])
    ⟨_, _, _, _, _, _, _, _, _, ?_, ?_, HS.start, ?_, .inl rfl, rfl⟩ ?_ ?_
  · intro x
    unfold valD
    simp only [List.find?_cons, List.find?_nil]
    by_cases q : x = p
    · subst q
      rw [updF_same]; simp
    · rw [updF_ne q]
      have z : ¬ ((Sum.inl (p : Int) : Key) = .inl (x : Int)) := fun z => q (by have := Sum.inl.inj z; omega)
      simp [z]
  · simp
  · intro j hj
    rw [show j = 0 by omega, W.zero, updF_same]; simp
  · rintro t d e ht ⟨kvs, val, b, rd, tm, clk, a4, a5, a6, hk, hlen, I, rch, ok6, rfl⟩
    obtain ⟨ht, rfl⟩ := rangeL_get ht
    have ht : t < n := by omega
    walk_at "mirn"
    let T4 : D := .int (0 + (t : Int))
    refine es_forK (fun k e => ∃ kvs val b rd tm clk a5 a6, nameD kvs val ∧ kvs.length ≤ 1 + t * es.length + k ∧ HS es p φ (t + 1) (es.take k) val b rd tm clk ∧ (∀ j, j ≤ t → val (sq j) ≠ none) ∧ (∀ g ∈ es.take k, g.u = sq t → val g.v ≠ none) ∧ (a6 = none ∨ ∃ d, a6 = some (.im d)) ∧
        e = [some A0, some A1, some A2, some (.dk kvs), some (.im T4), a5, a6]) ⟨kvs, val, b, rd, tm, clk, _, _, hk, by omega, I, rch, fun g hg => by simp at hg, ok6, rfl⟩ ?_ ?_
    · clear I hk hlen rch ok6
      rintro k d e hkk ⟨kvs, val, b, rd, tm, clk, a5, a6, hk, hlen, I, rch, rch2, ok6, rfl⟩
      rw [List.getElem?_map, Option.map_eq_some_iff] at hkk
      obtain ⟨g, hkk, rfl⟩ := hkk
      obtain ⟨hk1, hk2⟩ := List.getElem?_eq_some_iff.mp hkk
      have hg : g ∈ es := List.mem_of_getElem? hkk
      have tk : es.take (k + 1) = es.take k ++ [g] := by rw [List.take_succ_eq_append_getElem hk1, hk2]
      have mulb : t * es.length ≤ 1000000 := Nat.le_trans (Nat.mul_le_mul_right _ (by omega)) hl
      have big : kvs.length < sizeLine := Nat.lt_of_lt_of_le (show kvs.length < 2000000 by omega) (sizeLine_lt _ (by decide))
      unfold Eg.d
      walk_at "mir"
      refine ev_din ?_
      walk_at "mir"
      rw [hk g.u]
      cases hu : val g.u with
      | none =>
        refine ff_h rfl ?_
        walk_at "mir"
        have I2 := I.skip (e := g) hφ hg fun c hc => by rw [hu] at hc; cases hc
        rw [← tk] at I2
        refine ⟨kvs, val, b, rd, tm, clk, _, a6, hk, by omega, I2, rch, fun g' hg' q => ?_, ok6, rfl⟩
        rw [tk] at hg'
        rcases List.mem_append.mp hg' with hg' | hg'
        · exact rch2 g' hg' q
        · rw [List.mem_singleton] at hg'
          subst hg'
          exact absurd hu (by rw [q]; exact rch t (Nat.le_refl _))
      | some c =>
        refine tt_h rfl ?_
        walk_at "mir"
        refine ev_dix rfl ?_
        walk_at "mir"
        refine ev_o (r := .int c) (by show valD kvs (.inl (g.u : Int)) = _; rw [hk g.u, hu]; rfl) ?_
        walk_at "mir"
        refine es_dsto ?_
        walk_at "mir"
        refine ev_dget2 rfl ?_
        walk_at "mir"
        rw [hk g.v]
        cases hv : val g.v with
        | none =>
          have I2 := I.rise (by omega) hg hu fun a ha => by rw [hv] at ha; cases ha
          rw [← tk] at I2
          walk_at "mir"
          refine ⟨⟨kvs, rfl⟩, ?_⟩
          walk_at "mir"
          refine ⟨big, ?_⟩
          walk_at "mir"
          rw [show max (c + g.w) (c + g.w) = c + g.w by omega]
          refine ⟨_, _, _, _, _, _, _, _, nameD_put hk g.v (c + g.w), by have := putD_length kvs (.inl (g.v : Int)) (.int (c + g.w)); omega, I2, fun j hj => ?_, fun g' hg' q => ?_, .inr ⟨_, rfl⟩, rfl⟩
          · by_cases z : sq j = g.v
            · rw [z, updF_same]; simp
            · rw [updF_ne z]; exact rch j hj
          · rw [tk] at hg'
            by_cases z : g'.v = g.v
            · rw [z, updF_same]; simp
            · rw [updF_ne z]
              rcases List.mem_append.mp hg' with hg' | hg'
              · exact rch2 g' hg' q
              · rw [List.mem_singleton] at hg'
                subst hg'
                exact absurd rfl z
        | some a =>
          walk_at "mir"
          refine ⟨⟨kvs, rfl⟩, ?_⟩
          walk_at "mir"
          refine ⟨big, ?_⟩
          walk_at "mir"
          by_cases le : c + g.w ≤ a
          · have I2 := I.skip (e := g) hφ hg fun c' hc => ⟨a, hv, by rw [hu] at hc; cases hc; exact le⟩
            rw [← tk] at I2
            have nm := nameD_put hk g.v a
            rw [updF_self hv] at nm
            rw [show max a (c + g.w) = a by omega]
            refine ⟨_, _, _, _, _, _, _, _, nm, by have := putD_length kvs (.inl (g.v : Int)) (.int a); omega, I2, rch, fun g' hg' q => ?_, .inr ⟨_, rfl⟩, rfl⟩
            rw [tk] at hg'
            rcases List.mem_append.mp hg' with hg' | hg'
            · exact rch2 g' hg' q
            · rw [List.mem_singleton] at hg'
              subst hg'
              rw [hv]; simp
          · have I2 := I.rise (by omega) hg hu fun a' ha => by rw [hv] at ha; cases ha; omega
            rw [← tk] at I2
            rw [show max a (c + g.w) = c + g.w by omega]
            refine ⟨_, _, _, _, _, _, _, _, nameD_put hk g.v (c + g.w), by have := putD_length kvs (.inl (g.v : Int)) (.int (c + g.w)); omega, I2, fun j hj => ?_, fun g' hg' q => ?_, .inr ⟨_, rfl⟩, rfl⟩
            · by_cases z : sq j = g.v
              · rw [z, updF_same]; simp
              · rw [updF_ne z]; exact rch j hj
            · rw [tk] at hg'
              by_cases z : g'.v = g.v
              · rw [z, updF_same]; simp
              · rw [updF_ne z]
                rcases List.mem_append.mp hg' with hg' | hg'
                · exact rch2 g' hg' q
                · rw [List.mem_singleton] at hg'
                  subst hg'
                  exact absurd rfl z
    · clear I hk hlen rch ok6
      rintro e ⟨kvs, val, b, rd, tm, clk, a5, a6, hk, hlen, I, rch, rch2, ok6, rfl⟩
      rw [List.length_map] at hlen
      rw [List.length_map, List.take_length] at I rch2
      refine ⟨kvs, val, b, rd, tm, clk, _, _, _, hk, by rw [Nat.succ_mul]; omega, I.next fun e he => he, fun j hj => ?_, ok6, rfl⟩
      by_cases z : j = t + 1
      · obtain ⟨g, hg, gu, gv⟩ := W.step t ht
        rw [z, ← gv]
        exact rch2 g hg gu
      · exact rch j (by omega)
  · rintro e ⟨kvs, val, b, rd, tm, clk, a4, a5, a6, hk, hlen, I, rch, ok6, rfl⟩
    rw [rangeL_length, Int.toNat_natCast] at I rch
    have there : ∀ x, x < n → ∃ a, val x = some a := fun x hx => by
      obtain ⟨t, ht, e⟩ := W.all x hx
      cases hv : val x with
      | some a => exact ⟨a, rfl⟩
      | none => exact absurd (by rw [e]; exact hv) (rch t ht)
    have met := I.met hφ hn
    let hs : List Int := (List.range n).map fun x => (val x).getD 0
    have hget : ∀ x, x < n → hF hs x = (val x).getD 0 := fun x hx => by
      unfold hF
      rw [List.getD_eq_getElem?_getD, List.getElem?_map, List.getElem?_range hx]; rfl
    have H : Hts es n p hs := by
      refine ⟨by simp [hs], ?_, fun e he => ?_, fun g hg x hx => ?_⟩
      · obtain ⟨a, ha, h0⟩ := I.home
        rw [hget p hp, ha]
        have := I.low φ hφ p a ha
        show a = 0
        omega
      · obtain ⟨q1, q2⟩ := hn e he
        obtain ⟨c, hc⟩ := there e.u q1
        obtain ⟨a, ha⟩ := there e.v q2
        rw [hget _ q1, hget _ q2, hc, ha]
        exact met e he c a hc ha
      · obtain ⟨a, ha⟩ := there x hx
        rw [hget x hx, ha]
        exact I.low g hg x a ha
    walk_at "mir"
    refine ev_lcm (v := fun d => match d with | .int i => .int ((val i.toNat).getD 0) | _ => .none) ?_
    walk_at "mir"
    refine ⟨by rcases ok6 with rfl | ⟨d, rfl⟩ <;> rfl, by rw [rangeL_length]; exact sizeLine_lt _ (by omega), fun d hd => ?_, ?_⟩
    · obtain ⟨i, hi, rfl⟩ := rangeL_mem hd
      have hi : i < n := by omega
      obtain ⟨a, ha⟩ := there i hi
      walk_at "mir"
      refine ev_dix rfl ?_
      walk_at "mir"
      refine ev_o (r := .int a) ?_ ?_
      · rw [Int.zero_add]
        show valD kvs (.inl (i : Int)) = _
        rw [hk i, ha]; rfl
      · refine ⟨?_, rfl, rfl⟩
        show (.int a : D) = .int ((val (0 + (i : Int)).toNat).getD 0)
        rw [show (0 + (i : Int)).toNat = i by omega, ha]; rfl
    · refine ⟨hs, H, ?_⟩
      rw [rangeL_map (fun i => .int ((val i.toNat).getD 0)) 0 _ _ fun _ _ => rfl, Int.toNat_natCast]
      simp only [hs, List.map_map]
      congr 1
      apply List.map_congr_left
      intro i _
      rw [show (0 + (i : Int)).toNat = i by omega]
      rfl
def pre (xs : List Int) (k : Nat) : Int := (xs.take k).sum
theorem pre_zero (xs : List Int) : pre xs 0 = 0 := by simp [pre]
theorem pre_succ {xs : List Int} {k : Nat} (h : k < xs.length) : pre xs (k + 1) = pre xs k + xs[k] := take_succ_sum xs k h
theorem pre_all (xs : List Int) : pre xs xs.length = xs.sum := by simp [pre]
theorem cutD_tail (ds : List D) : cutD ds (some 1) none = ds.drop 1 := by
  unfold cutD
  show (ds.drop (min 1 ds.length)).take (ds.length - min 1 ds.length) = ds.drop 1
  cases ds with
  | nil => rfl
  | cons d r =>
    rw [List.length_cons, show min 1 (r.length + 1) = 1 by omega]
    simp
/-- differences of neighbours -/
def lad (L : List Int) (T : Int) : List Int := (L.zip (L.drop 1 ++ [T])).map fun p => p.2 - p.1
def subPD : D → D
  | .tuple [.int a, .int b] => .int (b - a)
  | _ => .none
theorem zipL_ints (xs ys : List Int) : zipL (xs.map .int) (ys.map .int) = (xs.zip ys).map fun p => .tuple [.int p.1, .int p.2] := by
  unfold zipL
  rw [List.zip_map, List.map_map]
  rfl
theorem zipL_mem {xs ys : List Int} {d : D} (h : d ∈ zipL (xs.map .int) (ys.map .int)) : ∃ a b, d = .tuple [.int a, .int b] := by
  rw [zipL_ints] at h
  obtain ⟨p, _, rfl⟩ := List.mem_map.mp h
  exact ⟨_, _, rfl⟩
theorem F_laid_eq {L : List Int} {T : Int} (hs : L.length ≤ 1000) : ∃ t, F_laid [.im (lI L), .im (.int T)] = .ok (vI (lad L T), t) := by
  suffices h : Ev (F_laid [.im (lI L), .im (.int T)]) (fun x t => x = vI (lad L T)) fun _ _ => False by
    obtain ⟨x, t, e, rfl⟩ := ev_eq h; exact ⟨t, e⟩
  have e1 : cutD (L.map PyData.int) (some 1) none ++ [PyData.int T] = (L.drop 1 ++ [T]).map .int := by
    rw [cutD_tail, List.map_append, List.map_drop]; rfl
  have h1 : (L.drop 1 ++ [T]).length ≤ 1001 := by rw [List.length_append, List.length_drop, List.length_singleton]; omega
  refine ev_fun ?_
  unfold g_laid lI
  walk_at "mir"
  refine ev_lcm (v := subPD) ?_
  walk_at "mir"
  rw [e1]
  refine ⟨by rw [List.length_map]; exact sizeLine_lt _ (by omega), ?_⟩
  walk_at "mir"
  refine ⟨rfl, by rw [zipL_length, List.length_map, List.length_map]; exact sizeLine_lt _ (by omega), fun d hd => ?_, ?_⟩
  · obtain ⟨a, b, rfl⟩ := zipL_mem hd
    walk_at "mir"
    exact ⟨rfl, rfl, rfl⟩
  · rw [zipL_ints, List.map_map]
    walk_at "mir"
    unfold vI lad
    rw [List.map_map]
    rfl
theorem lad_range (f : Nat → Int) (n : Nat) : lad ((List.range n).map f) (f n) = (List.range n).map fun k => f (k + 1) - f k := by
  unfold lad
  apply List.ext_getElem
  · simp only [List.length_map, List.length_zip, List.length_append, List.length_drop, List.length_range, List.length_singleton]; omega
  · intro k h1 h2
    simp only [List.length_map, List.length_range] at h2
    simp only [List.getElem_map, List.getElem_zip, List.getElem_append, List.length_drop, List.length_map, List.length_range, List.getElem_drop, List.getElem_range, List.getElem_singleton]
    by_cases h : k < n - 1
    · rw [dif_pos h, Nat.add_comm 1 k]
    · rw [dif_neg h, show k + 1 = n by omega]
structure Op (op : Int → Int → Int) : Prop where
  one : ∀ a b, op a b = a ∨ op a b = b
  mono : ∀ a b c d, a ≤ c → b ≤ d → op a b ≤ op c d
  comm : ∀ a b, op a b = op b a
  add : ∀ a b c, op (a + c) (b + c) = op a b + c
theorem Op.same {op : Int → Int → Int} (o : Op op) (a : Int) : op a a = a := by rcases o.one a a with h | h <;> exact h
theorem pre_mono {xs : List Int} (h0 : ∀ x ∈ xs, 0 ≤ x) (k : Nat) : pre xs k ≤ pre xs (k + 1) := by
  by_cases h : k < xs.length
  · rw [pre_succ h]; have := h0 _ (List.getElem_mem h); omega
  · unfold pre; rw [List.take_of_length_le (by omega), List.take_of_length_le (by omega)]; exact Int.le_refl _
theorem pre_diff (f : Nat → Int) (h0 : f 0 = 0) (n : Nat) : ∀ k, k ≤ n → pre ((List.range n).map fun k => f (k + 1) - f k) k = f k
  | 0, _ => by rw [pre_zero, h0]
  | k + 1, h => by
    rw [pre_succ (by simp; omega), pre_diff f h0 n k (by omega), List.getElem_map, List.getElem_range]
    omega
/-- going round as often as one likes -/
def gs (xs : List Int) (k : Nat) : Int := pre xs (k % xs.length) + (k / xs.length : Nat) * xs.sum
theorem gs_succ {xs : List Int} (hn : xs ≠ []) (k : Nat) : gs xs (k + 1) = gs xs k + xs.getD (k % xs.length) 0 := by
  have hp : 0 < xs.length := List.length_pos_iff.mpr hn
  have hk : k % xs.length < xs.length := Nat.mod_lt _ hp
  have e := Nat.div_add_mod k xs.length
  unfold gs
  rw [List.getD_eq_getElem?_getD, List.getElem?_eq_getElem hk, Option.getD_some]
  by_cases h : k % xs.length + 1 < xs.length
  · have e1 : (k + 1) % xs.length = k % xs.length + 1 := by
      rw [Nat.add_mod, Nat.mod_eq_of_lt (show 1 < xs.length by omega), Nat.mod_eq_of_lt h]
    have e2 : (k + 1) / xs.length = k / xs.length := by
      rw [Nat.div_eq_of_lt_le]
      · rw [Nat.mul_comm]; omega
      · rw [Nat.mul_comm, Nat.mul_add, Nat.mul_one]; omega
    rw [e1, e2, pre_succ hk]; omega
  · have e0 : k % xs.length + 1 = xs.length := by omega
    have e3 : k + 1 = xs.length * (k / xs.length + 1) := by rw [Nat.mul_add, Nat.mul_one]; omega
    have e1 : (k + 1) % xs.length = 0 := by rw [e3, Nat.mul_mod_right]
    have e2 : (k + 1) / xs.length = k / xs.length + 1 := by rw [e3, Nat.mul_div_cancel_left _ hp]
    rw [e1, e2, pre_zero, ← pre_all xs]
    have e4 := pre_succ hk
    have e5 : pre xs (k % xs.length + 1) = pre xs xs.length := by rw [e0]
    rw [e5] at e4
    rw [e4, Int.natCast_add, Int.add_mul]
    omega
theorem stn_gs {xs : List Int} (hn : xs ≠ []) {s l : Int} (hs : 0 ≤ s) : stn xs s l = gs xs (s.toNat + l.toNat) - gs xs s.toNat := by
  have hp : 0 < xs.length := List.length_pos_iff.mpr hn
  unfold stn plc
  rw [List.map_map]
  generalize l.toNat = n
  induction n with
  | zero => simp
  | succ n ih =>
    rw [List.range_succ, List.map_append, List.sum_append, ih, ← Nat.add_assoc, gs_succ hn]
    simp only [List.map_cons, List.map_nil, List.sum_cons, List.sum_nil, Function.comp]
    have e : ((s + (n : Int)) % (xs.length : Int)).toNat = (s.toNat + n) % xs.length := by
      rw [show s + (n : Int) = ((s.toNat + n : Nat) : Int) by omega, ← Int.natCast_emod, Int.toNat_natCast]
    rw [e]
    omega
def hold (xs : List Int) (ts : List Tm) : Prop := ∀ t ∈ ts, badT t (stn xs t.s t.l) = false
theorem badT_iff (t : Tm) (v : Int) : badT t v = false ↔ t.lo ≤ v ∧ ∀ h, t.hi = some h → v ≤ h := by
  unfold badT
  rw [Bool.or_eq_false_iff, decide_eq_false_iff_not]
  cases t.hi with
  | none => exact ⟨fun ⟨a, _⟩ => ⟨by omega, fun h q => nomatch q⟩, fun ⟨a, _⟩ => ⟨by omega, rfl⟩⟩
  | some i =>
    simp only [decide_eq_false_iff_not]
    exact ⟨fun ⟨a, b⟩ => ⟨by omega, fun h q => by cases q; omega⟩, fun ⟨a, b⟩ => ⟨by omega, by have := b i rfl; omega⟩⟩
def revE (e : Eg) : Eg := ⟨e.v, e.u, e.w, e.t, e.way, e.r⟩
def revD : D → D
  | .tuple [u, v, w, t, way, r] => .tuple [v, u, w, t, way, r]
  | _ => .none
theorem F_turned_eq {es : List Eg} (hl : es.length ≤ 100000) : ∃ t, F_turned [.im (.list (es.map Eg.d))] = .ok (.list ((es.map revE).map Eg.d), t) := by
  suffices h : Ev (F_turned [.im (.list (es.map Eg.d))]) (fun x t => x = .list ((es.map revE).map Eg.d)) fun _ _ => False by
    obtain ⟨x, t, e, rfl⟩ := ev_eq h; exact ⟨t, e⟩
  refine ev_fun ?_
  unfold g_turned
  walk_at "mir"
  refine ev_lcm (v := revD) ?_
  walk_at "mir"
  refine ⟨rfl, by rw [List.length_map]; exact sizeLine_lt _ (by omega), fun d hd => ?_, ?_⟩
  · obtain ⟨e, he, rfl⟩ := List.mem_map.mp hd
    unfold Eg.d
    walk_at "mir"
    exact ⟨rfl, by kernel_rfl, by kernel_rfl⟩
  · rw [List.map_map, List.map_map]
    rfl
theorem dem_place {n p : Nat} {T : Int} {ts : List Tm} (hp : p < n) : ∃ e ∈ dem n T ts, e.u = p ∧ e.v = (p + 1) % n := by
  refine ⟨lessT T (plE n p), List.mem_map_of_mem ?_, rfl, rfl⟩
  unfold rawN
  exact List.mem_append.mpr (.inl (List.mem_map_of_mem (List.mem_range.mpr hp)))
theorem way_dem {n : Nat} (T : Int) (ts : List Tm) (h1 : 1 ≤ n) : Way (dem n T ts) n 0 fun t => t % n where
  zero := Nat.zero_mod _
  lt := fun t => Nat.mod_lt _ (by omega)
  step := fun t ht => by
    obtain ⟨e, he, eu, ev⟩ := dem_place (T := T) (ts := ts) ht
    exact ⟨e, he, by rw [eu, Nat.mod_eq_of_lt ht], ev⟩
  all := fun x hx => ⟨x, by omega, Nat.mod_eq_of_lt hx⟩
theorem way_rev {n : Nat} (T : Int) (ts : List Tm) (h1 : 1 ≤ n) : Way ((dem n T ts).map revE) n 0 fun t => (n - t) % n where
  zero := by rw [Nat.sub_zero, Nat.mod_self]
  lt := fun t => Nat.mod_lt _ (by omega)
  step := fun t ht => by
    obtain ⟨e, he, eu, ev⟩ := dem_place (n := n) (p := n - (t + 1)) (T := T) (ts := ts) (by omega)
    refine ⟨revE e, List.mem_map_of_mem he, ?_, ?_⟩
    · show e.v = _
      rw [ev, show n - (t + 1) + 1 = n - t by omega]
    · show e.u = _
      rw [eu, Nat.mod_eq_of_lt (by omega)]
  all := fun x hx => by
    by_cases q : x = 0
    · exact ⟨0, by omega, by rw [q, Nat.sub_zero, Nat.mod_self]⟩
    · exact ⟨n - x, by omega, by rw [show n - (n - x) = x by omega]; exact Nat.mod_eq_of_lt hx⟩
theorem feas_rev {es : List Eg} {h : Nat → Int} (q : Feas es h) : Feas (es.map revE) fun x => -h x := by
  intro e he
  obtain ⟨g, hg, rfl⟩ := List.mem_map.mp he
  have := q g hg
  show -h g.v + g.w ≤ -h g.u
  omega
/-- what lay tells -/
structure Laid (n : Nat) (T : Int) (ts : List Tm) (xs ys : List Int) : Prop where
  hs : ∃ hs, Hts (dem n T ts) n 0 hs ∧ xs = lad hs T
  gs : ∃ gs, Hts ((dem n T ts).map revE) n 0 gs ∧ ys = lad (gs.map fun i => -i) T
def layD2 (xs ys : List Int) : D := .tuple [.str "laying", vI xs, vI ys]
def barD2 (L : List Eg) : D := .tuple [.str "barred", barOf L]
def Told (n : Nat) (T : Int) (ts : List Tm) (x : D) : Prop := (∃ xs ys, Laid n T ts xs ys ∧ x = layD2 xs ys) ∨ ∃ L, Loop n (dem n T ts) L ∧ x = barD2 L
def negI : D → D
  | .int i => .int (-i)
  | _ => .none
theorem F_found_lay_eq {n : Nat} {T : Int} {ts : List Tm} (h1 : 1 ≤ n) (h2 : n ≤ 40) (ht : ∀ t ∈ ts, t.ok n) (hs : ts.length ≤ 10000) :
    ∃ x t, Told n T ts x ∧ F_found_lay [.im (rgD n ts), .im (.int T)] = .ok (x, t) := by
  suffices h : Ev (F_found_lay [.im (rgD n ts), .im (.int T)]) (fun x t => Told n T ts x) fun _ _ => False by
    obtain ⟨x, t, e, q⟩ := ev_eq h; exact ⟨x, t, q, e⟩
  have dl := dem_length n T ts
  have dok : ∀ e ∈ dem n T ts, e.u < n ∧ e.v < n := fun e he => ⟨(dem_ok h1 ht he).u, (dem_ok h1 ht he).v⟩
  have mulb : n * (dem n T ts).length ≤ 1000000 := Nat.le_trans (Nat.mul_le_mul h2 dl) (by omega)
  obtain ⟨t0, e0⟩ := F_found_bar_eq (T := T) h1 (by omega) ht hs
  obtain ⟨t1, e1⟩ := F_demands_eq (T := T) h1 (by omega) ht hs
  refine ev_fun ?_
  unfold g_found_lay
  walk_at "mirn"
  rcases e0 with ⟨e0, φ, hφ⟩ | ⟨L, hL, e0⟩
  · obtain ⟨hs', t2, H, e2⟩ := F_heights_from_eq (p := 0) h1 (by omega) mulb (by omega) (by omega) dok hφ (way_dem T ts h1)
    obtain ⟨t3, e3⟩ := F_turned_eq (es := dem n T ts) (by omega)
    obtain ⟨gs', t4, G, e4⟩ := F_heights_from_eq (p := 0) (es := (dem n T ts).map revE) h1 (by omega) (by rw [List.length_map]; exact mulb) (by rw [List.length_map]; omega) (by omega) (fun e he => by
      obtain ⟨g, hg, rfl⟩ := List.mem_map.mp he
      exact ⟨(dok g hg).2, (dok g hg).1⟩) (feas_rev hφ) (way_rev T ts h1)
    obtain ⟨t5, e5⟩ := F_laid_eq (L := hs') (T := T) (by rw [H.len]; omega)
    obtain ⟨t6, e6⟩ := F_laid_eq (L := gs'.map fun i => -i) (T := T) (by rw [List.length_map, G.len]; omega)
    refine ev_of e0 ?_
    rw [back_ims rfl]
    walk_at "mir"
    refine ev_of e1 ?_
    rw [back_ims rfl]
    walk_at "mir"
    unfold rgD
    walk_at "mir"
    refine ev_of e2 ?_
    rw [back_ims rfl]
    walk_at "mir"
    refine ev_of e5 ?_
    rw [back_ims rfl]
    walk_at "mir"
    refine ev_lcm (v := negI) ?_
    walk_at "mir"
    refine ev_of e3 ?_
    rw [back_ims rfl]
    walk_at "mir"
    refine ev_of e4 ?_
    rw [back_ims rfl]
    walk_at "mir"
    refine ⟨rfl, by rw [List.length_map, G.len]; exact sizeLine_lt _ (by omega), fun d hd => ?_, ?_⟩
    · obtain ⟨i, _, rfl⟩ := List.mem_map.mp hd
      walk_at "mir"
      exact ⟨rfl, by kernel_rfl, by kernel_rfl⟩
    have e7 : (gs'.map PyData.int).map negI = (gs'.map fun i => -i).map .int := by rw [List.map_map, List.map_map]; rfl
    rw [e7]
    walk_at "mir"
    refine ev_of e6 ?_
    rw [back_ims rfl]
    walk_at "mir"
    exact .inl ⟨_, _, ⟨⟨hs', H, rfl⟩, ⟨gs', G, rfl⟩⟩, rfl⟩
  · refine ev_of e0 ?_
    rw [back_ims rfl]
    unfold barOf
    walk_at "mir"
    exact .inr ⟨L, hL, rfl⟩
theorem F_look_at_total_ok {d : D} (h : fromD d 0 = true) : F_look_at_total [.im d] = .ok (.none, [.im d]) := by
  refine ev_eqs (ev_fun ?_)
  unfold g_look_at_total
  walk_at "mir"
  refine ev_of (F_is_from_eq d 0) ?_
  rw [h]
  walk_at "mir"
  exact ⟨rfl, by rw [back_ims rfl]; rfl⟩
theorem F_lay_eq {n : Nat} {T : Int} {ts : List Tm} (h1 : 1 ≤ n) (h2 : n ≤ 40) (ht : ∀ t ∈ ts, t.ok n) (hs : ts.length ≤ 10000) (hT : 0 ≤ T) :
    ∃ x t, Told n T ts x ∧ F_lay [.im (rgD n ts), .im (.int T)] = .ok (x, t) := by
  suffices h : Ev (F_lay [.im (rgD n ts), .im (.int T)]) (fun x t => Told n T ts x) fun _ _ => False by
    obtain ⟨x, t, e, q⟩ := ev_eq h; exact ⟨x, t, q, e⟩
  obtain ⟨x, t, q, e⟩ := F_found_lay_eq (T := T) h1 h2 ht hs
  refine ev_fun ?_
  unfold g_lay
  walk_at "mirn"
  refine ev_of (F_look_at_ring_ok (short_of (by omega)) (ringD_ok (by omega) (by omega) ht)) ?_
  rw [back_ims rfl]
  walk_at "mirn"
  refine ev_of (F_look_at_total_ok (by simp [fromD, hT])) ?_
  rw [back_ims rfl]
  walk_at "mirn"
  refine ev_of e ?_
  exact q
def whlI : D → Int
  | .int i => i
  | _ => 0
def numD (c : Nat) (d : D) : Bool := match d with
  | .int i => decide (0 ≤ i) && decide (i < (c : Int))
  | _ => false
def ascB (xs : List Int) : Bool := (xs.zip (xs.drop 1)).all fun p => decide (p.1 ≤ p.2)
def numsB (c : Nat) (d : D) : Bool := match d with
  | .list xs => xs.all (numD c) && ascB (xs.map whlI)
  | _ => false
def nI (us : List Nat) : List Int := us.map Int.ofNat
def natsOf (d : D) : List Nat := match d with
  | .list xs => xs.map fun d => (whlI d).toNat
  | _ => []
theorem num_is {c : Nat} {d : D} (h : numD c d = true) : ∃ j : Nat, j < c ∧ d = .int (j : Int) := by
  cases d with
  | int i =>
    have h : (decide (0 ≤ i) && decide (i < (c : Int))) = true := h
    rw [Bool.and_eq_true, decide_eq_true_eq, decide_eq_true_eq] at h
    exact ⟨i.toNat, by omega, by rw [Int.toNat_of_nonneg h.1]⟩
  | _ => exact nomatch h
theorem nums_all {c : Nat} : ∀ {xs : List D}, xs.all (numD c) = true → xs = (nI (natsOf (.list xs))).map .int ∧ (∀ j ∈ natsOf (.list xs), j < c) ∧ xs.map whlI = nI (natsOf (.list xs))
  | [], _ => ⟨rfl, by simp [natsOf], rfl⟩
  | d :: xs, h => by
    rw [List.all_cons, Bool.and_eq_true] at h
    obtain ⟨j, hj, rfl⟩ := num_is h.1
    obtain ⟨h1, h2, h3⟩ := nums_all (xs := xs) h.2
    refine ⟨?_, ?_, ?_⟩
    · show PyData.int (j : Int) :: xs = .int (((j : Int).toNat : Nat) : Int) :: (nI (natsOf (.list xs))).map .int
      rw [← h1, Int.toNat_natCast]
    · intro i hi
      have hi : i ∈ (j : Int).toNat :: natsOf (.list xs) := hi
      rcases List.mem_cons.mp hi with rfl | hi
      · omega
      · exact h2 i hi
    · show (j : Int) :: xs.map whlI = (((j : Int).toNat : Nat) : Int) :: nI (natsOf (.list xs))
      rw [h3, Int.toNat_natCast]
theorem numsB_is {c : Nat} {d : D} (h : numsB c d = true) : d = .list ((nI (natsOf d)).map .int) ∧ (∀ j ∈ natsOf d, j < c) ∧ ascB (nI (natsOf d)) = true := by
  cases d with
  | list xs =>
    have h : (xs.all (numD c) && ascB (xs.map whlI)) = true := h
    rw [Bool.and_eq_true] at h
    obtain ⟨h1, h2, h3⟩ := nums_all h.1
    rw [h3] at h
    exact ⟨congrArg PyData.list h1, h2, h.2⟩
  | _ => exact nomatch h
def leB : D → D
  | .tuple [.int a, .int b] => .bool (decide (a ≤ b))
  | _ => .none
theorem isTy_list_of {d : D} : isTy "list" d = some (.bool (match d with | .list _ => true | _ => false)) := by cases d <;> rfl
theorem F_is_numbers_eq {m : Int} {ts : List Tm} {d : D} (hd : ∀ xs, d = .list xs → xs.length ≤ 1000000) : ∃ t, F_is_numbers [.im (rgD m ts), .im d] = .ok (.bool (numsB ts.length d), t) := by
  suffices h : Ev (F_is_numbers [.im (rgD m ts), .im d]) (fun x t => x = .bool (numsB ts.length d)) fun _ _ => False by
    obtain ⟨x, t, e, rfl⟩ := ev_eq h; exact ⟨t, e⟩
  refine ev_fun ?_
  unfold g_is_numbers rgD
  walk_at "mir"
  refine ev_o isTy_list_of ?_
  walk_at "mir"
  cases d with
  | list xs =>
    have hl := hd xs rfl
    refine ⟨(fun h => nomatch h), fun _ => ?_⟩
    walk_at "mir"
    refine ev_lcm (v := fun d => .bool (numD ts.length d)) ?_
    walk_at "mir"
    refine ⟨rfl, sizeLine_lt _ (by omega), fun d hd => ?_, ?_⟩
    · walk_at "mir"
      refine ev_of (F_is_whole_eq d) ?_
      rw [back_ims rfl]
      walk_at "mir"
      cases d with
      | int i =>
        refine ⟨fun _ => ?_, fun h => nomatch h⟩
        walk_at "mir"
        refine ⟨fun h => ?_, fun h => ?_⟩
        · walk_at "mir"
          refine ⟨?_, rfl, rfl⟩
          simp only [numD, h, Bool.true_and]
        · refine ⟨?_, rfl, rfl⟩
          simp only [numD, h, Bool.false_and]
      | _ => exact ⟨(fun h => nomatch h), fun _ => ⟨rfl, rfl, rfl⟩⟩
    walk_at "mir"
    refine ev_o (allD_map _ _) ?_
    walk_at "mir"
    refine ⟨fun h => ?_, fun h => ?_⟩
    · rw [Bool.not_eq_true'] at h
      walk_at "mir"
      simp only [numsB, h, Bool.false_and]
    · rw [Bool.not_eq_false'] at h
      obtain ⟨e1, e2, e3⟩ := nums_all h
      generalize natsOf (.list xs) = us at e1 e2 e3
      have hn : (nI us).length = xs.length := by rw [e1, List.length_map]
      have e4 : numsB ts.length (.list xs) = ascB (nI us) := by
        show (xs.all _ && ascB (xs.map whlI)) = _
        rw [h, e3, Bool.true_and]
      rw [e4, e1]
      walk_at "mir"
      refine ev_lcm (v := leB) ?_
      walk_at "mir"
      rw [cutD_tail, ← List.map_drop]
      refine ⟨rfl, by rw [zipL_length, List.length_map, List.length_map, hn]; exact sizeLine_lt _ (by omega), fun d hd => ?_, ?_⟩
      · obtain ⟨a, b, rfl⟩ := zipL_mem hd
        walk_at "mir"
        exact ⟨rfl, rfl, rfl⟩
      · rw [zipL_ints, List.map_map]
        walk_at "mir"
        refine ev_o (allD_list (((nI us).zip ((nI us).drop 1)).map fun p => decide (p.1 ≤ p.2)) |> fun q => by rw [List.map_map] at q; exact q) ?_
        walk_at "mir"
        unfold ascB
        rw [List.all_map]
        rfl
  | _ =>
    refine ⟨(fun h => ?_), fun h => nomatch h⟩
    walk_at "mir"
    rfl
def cntP (ps : List Int) (q : Nat) : Int := ((ps.filter fun p => decide (p = (q : Int))).length : Nat)
theorem cntP_app (ps : List Int) (p : Int) (q : Nat) : cntP (ps ++ [p]) q = cntP ps q + (if p = (q : Int) then 1 else 0) := by
  unfold cntP
  rw [List.filter_append, List.length_append]
  by_cases h : p = (q : Int)
  · rw [if_pos h, List.filter_cons, if_pos (decide_eq_true h)]; simp
  · rw [if_neg h, List.filter_cons, if_neg (by simpa using h)]; simp
def covT (m : Int) (ts : List Tm) (q j : Nat) : Int := match ts[j]? with
  | some t => cntP (plc m t.s t.l) q
  | none => 0
def covN (m : Int) (ts : List Tm) (us : List Nat) (q : Nat) : Int := (us.map (covT m ts q)).sum
theorem covN_app (m : Int) (ts : List Tm) (us : List Nat) (j q : Nat) : covN m ts (us ++ [j]) q = covN m ts us q + covT m ts q j := by
  unfold covN
  rw [List.map_append, List.sum_append]; simp
def cL (n : Nat) (f : Nat → Int) : List D := (List.range n).map fun q => .int (f q)
theorem cL_length (n : Nat) (f : Nat → Int) : (cL n f).length = n := by simp [cL]
theorem cL_get {n q : Nat} {f : Nat → Int} (h : q < n) : (cL n f)[q]? = some (.int (f q)) := by
  unfold cL
  rw [List.getElem?_map, List.getElem?_range h]; rfl
theorem cL_congr {n : Nat} {f g : Nat → Int} (h : ∀ q, q < n → f q = g q) : cL n f = cL n g := by
  unfold cL
  apply List.map_congr_left
  intro q hq
  rw [h q (List.mem_range.mp hq)]
theorem cL_zero (n : Nat) : (List.replicate n (0 : Int)).map PyData.int = cL n fun _ => 0 := by
  unfold cL
  apply List.ext_getElem
  · simp
  · intro i h1 h2; simp
theorem cL_set {n p : Nat} {f : Nat → Int} {x : Int} (h : p < n) : (cL n f).set p (.int x) = cL n (updF f p x) := by
  apply List.ext_getElem?
  intro i
  rw [List.getElem?_set, cL_length]
  by_cases hi : i < n
  · rw [cL_get hi]
    by_cases q : p = i
    · subst q
      rw [if_pos rfl, if_pos hi, cL_get hi, updF_same]
    · rw [if_neg q, cL_get hi, updF_ne (fun z => q z.symm)]
  · have a : (cL n f)[i]? = none := List.getElem?_eq_none (by rw [cL_length]; omega)
    have b : (cL n (updF f p x))[i]? = none := List.getElem?_eq_none (by rw [cL_length]; omega)
    rw [a, b, if_neg (by omega)]
theorem cL_step {n : Nat} {f g : Nat → Int} {s p x : Int} {ps : List Int} (h0 : 0 ≤ p) (h1 : p < n) (hx : x = f p.toNat + s) (hk : ∀ q, q < n → f q = g q + s * cntP ps q) :
    ∃ f', (cL n f).set p.toNat (.int x) = cL n f' ∧ ∀ q, q < n → f' q = g q + s * cntP (ps ++ [p]) q := by
  refine ⟨_, cL_set (by omega), fun q hq => ?_⟩
  rw [cntP_app]
  by_cases z : q = p.toNat
  · subst z
    rw [updF_same, hx, hk _ hq, if_pos (by omega), Int.mul_add, Int.mul_one]; omega
  · rw [updF_ne z, hk q hq, if_neg (by omega), Int.add_zero]
theorem ix_term {m : Int} {ts : List Tm} {j : Nat} {t : Tm} (h : ts[j]? = some t) : ixD (.tuple (ts.map Tm.d)) (.int (j : Int)) = some t.d := by
  rw [ixD_tuple]
  refine atI_nat' (by omega) ?_
  rw [Int.toNat_natCast, List.getElem?_map, h]; rfl
theorem ix_termU {m : Int} {ts : List Tm} {j : Nat} {t : Tm} (h : ts[j]? = some t) : ixD (.tuple (ts.map Tm.d)) (.int (j : Int)) = some (.tuple [.int t.s, .int t.l, .int t.lo, oI t.hi]) := ix_term (m := m) h
theorem F_counted_eq {n : Nat} {ts : List Tm} {us : List Nat} (h1 : 1 ≤ n) (h2 : n ≤ 1000) (ht : ∀ t ∈ ts, t.ok n) (hu : ∀ j ∈ us, j < ts.length) :
    ∃ t, F_counted [.im (rgD n ts), .im (.list ((nI us).map .int))] = .ok (.list (cL n (covN n ts us)), t) := by
  suffices h : Ev (F_counted [.im (rgD n ts), .im (.list ((nI us).map .int))]) (fun x t => x = .list (cL n (covN n ts us))) fun _ _ => False by
    obtain ⟨x, t, e, rfl⟩ := ev_eq h; exact ⟨t, e⟩
  refine ev_fun ?_
  unfold g_counted rgD
  generalize hN : (n : Int) = N at *
  walk_at "mir"
  refine ev_o (repD_zero (by omega) (by omega)) ?_
  walk_at "mir"
  rw [show N.toNat = n by omega, cL_zero]
  let A0 : Sl := .im (.tuple [.int N, .tuple (ts.map Tm.d)])
  let A1 : Sl := .im (.list ((nI us).map .int))
  refine es_forK (fun k e => ∃ f a3 a4, (∀ q, q < n → f q = covN N ts (us.take k) q) ∧ e = [some A0, some A1, some (.ow (cL n f)), a3, a4]) ⟨fun _ => 0, _, _, fun q hq => rfl, rfl⟩ ?_ ?_
  · rintro k d e hk ⟨f, a3, a4, hf, rfl⟩
    unfold nI at hk
    rw [List.getElem?_map, List.getElem?_map, Option.map_map, Option.map_eq_some_iff] at hk
    obtain ⟨j, hj, rfl⟩ := hk
    obtain ⟨hk1, hk2⟩ := List.getElem?_eq_some_iff.mp hj
    have tk : us.take (k + 1) = us.take k ++ [j] := by rw [List.take_succ_eq_append_getElem hk1, hk2]
    obtain ⟨t, htj⟩ : ∃ t, ts[j]? = some t := ⟨_, List.getElem?_eq_getElem (hu j (List.mem_of_getElem? hj))⟩
    have tok := ht t (List.mem_of_getElem? htj)
    have q1 := tok.l0; have q2 := tok.l1
    show EvO (tN 3 (.int (j : Int)) _) _
    walk_at "mir"
    refine ev_o (ix_term (m := N) htj) ?_
    unfold Tm.d
    walk_at "mir"
    refine ev_o (ix_term (m := N) htj) ?_
    unfold Tm.d
    walk_at "mir"
    obtain ⟨tt, ee⟩ := F_places_of_eq (n := N) (s := t.s) (l := t.l) (by omega) (by omega) (by omega)
    refine ev_of ee ?_
    rw [back_ims rfl]
    unfold lI
    walk_at "mir"
    refine es_forK (fun i e => ∃ f' a4, (∀ q, q < n → f' q = f q + 1 * cntP ((plc N t.s t.l).take i) q) ∧ e = [some A0, some A1, some (.ow (cL n f')), some (.im (.int (j : Int))), a4]) ⟨f, _, fun q hq => by simp [cntP], rfl⟩ ?_ ?_
    · rintro i d e hi ⟨f', a4, hf', rfl⟩
      rw [List.getElem?_map, Option.map_eq_some_iff] at hi
      obtain ⟨p, hp, rfl⟩ := hi
      obtain ⟨hp1, hp2⟩ := List.getElem?_eq_some_iff.mp hp
      obtain ⟨p0, p1⟩ := plc_lt (n := N) (by omega) (List.mem_of_getElem? hp)
      have tk2 : (plc N t.s t.l).take (i + 1) = (plc N t.s t.l).take i ++ [p] := by rw [List.take_succ_eq_append_getElem hp1, hp2]
      walk_at "mir"
      refine ⟨p0, f' p.toNat, cL_get (by omega), ?_⟩
      walk_at "mir"
      refine ⟨by rw [cL_length]; omega, ?_⟩
      obtain ⟨f2, e2, h2⟩ := cL_step (x := f' p.toNat + 1) p0 (by omega) rfl hf'
      rw [e2]
      rw [← tk2] at h2
      exact ⟨f2, _, h2, rfl⟩
    · rintro e ⟨f', a4, hf', rfl⟩
      rw [List.length_map, List.take_length] at hf'
      refine ⟨f', _, _, fun q hq => ?_, rfl⟩
      rw [hf' q hq, hf q hq, tk, covN_app]
      unfold covT
      rw [htj, Int.one_mul]
  · rintro e ⟨f, a3, a4, hf, rfl⟩
    rw [List.length_map, show (nI us).length = us.length by simp [nI], List.take_length] at hf
    walk_at "mir"
    rw [cL_congr hf]
def hiN (ts : List Tm) (j : Nat) : Option Int := match ts[j]? with
  | some t => t.hi
  | none => none
def loN (ts : List Tm) (j : Nat) : Int := match ts[j]? with
  | some t => t.lo
  | none => 0
def hiV (ts : List Tm) (j : Nat) : Int := (hiN ts j).getD 0
def capB (ts : List Tm) (ws : List Nat) : Bool := ws.all fun j => (hiN ts j).isSome
def fitB (n : Nat) (ts : List Tm) (us ws : List Nat) (r : Int) : Bool := (List.range n).all fun q => decide (covN n ts us q - covN n ts ws q ≤ r)
def sumB (ts : List Tm) (T : Int) (us ws : List Nat) (r : Int) : Bool := decide (r * T < (us.map (loN ts)).sum - (ws.map (hiV ts)).sum)
def restB (n : Nat) (ts : List Tm) (T : Int) (us ws : List Nat) (r : Int) : Bool := capB ts ws && (fitB n ts us ws r && sumB ts T us ws r)
def isBarB (n : Nat) (ts : List Tm) (T : Int) (d : D) : Bool := match d with
  | .tuple [a, b, .int r] => numsB ts.length a && (numsB ts.length b && restB n ts T (natsOf a) (natsOf b) r)
  | _ => false
structure BarSz (d : D) : Prop where
  sz : ∀ a b c, d = .tuple [a, b, c] → (∀ xs, a = .list xs → xs.length ≤ 1000000) ∧ ∀ xs, b = .list xs → xs.length ≤ 1000000
theorem lay_os : ∀ os : List (Option Int), PyData.canLayAll0 (os.map oI) = true ∧ PyData.depthAll (os.map oI) ≤ 1
  | [] => ⟨rfl, by simp [PyData.depthAll]⟩
  | o :: os => by
    obtain ⟨h1, h2⟩ := lay_os os
    cases o with
    | none => exact ⟨by simp only [List.map_cons, oI, PyData.canLayAll0, PyData.canLay0, h1, Bool.and_self], by simp only [List.map_cons, oI, PyData.depthAll, PyData.depth]; omega⟩
    | some i => exact ⟨by simp only [List.map_cons, oI, PyData.canLayAll0, PyData.canLay0, h1, Bool.and_self], by simp only [List.map_cons, oI, PyData.depthAll, PyData.depth]; omega⟩
theorem in_none (os : List (Option Int)) : inD .none (.list (os.map oI)) = some (.bool (!os.all Option.isSome)) := by
  obtain ⟨h1, h2⟩ := lay_os os
  have sh : SeqAt.shaped (.list (os.map oI)) = true := by
    unfold SeqAt.shaped
    rw [Bool.and_eq_true, decide_eq_true_eq]
    exact ⟨by simp only [PyData.canLay0, h1], by simp only [PyData.depth]; omega⟩
  have sn : SeqAt.shaped (PyData.none : D) = true := by simp [SeqAt.shaped, PyData.canLay0, PyData.depth]
  simp only [inD, sh, sn, Bool.and_self, if_true]
  congr 2
  clear h1 h2 sh sn
  induction os with
  | nil => rfl
  | cons o os ih =>
    rw [List.map_cons, List.any_cons, ih, List.all_cons]
    cases o <;> rfl
theorem nI_mem {us : List Nat} {d : D} (h : d ∈ (nI us).map PyData.int) : ∃ j, j ∈ us ∧ d = .int (j : Int) := by
  obtain ⟨i, hi, rfl⟩ := List.mem_map.mp h
  obtain ⟨j, hj, rfl⟩ := List.mem_map.mp hi
  exact ⟨j, hj, rfl⟩
theorem nI_map (us : List Nat) (f : D → D) : ((nI us).map PyData.int).map f = us.map fun j : Nat => f (.int (j : Int)) := by
  unfold nI; rw [List.map_map, List.map_map]; rfl
theorem nI_len (us : List Nat) : ((nI us).map PyData.int).length = us.length := by simp [nI]
theorem zip_cL (n : Nat) (f g : Nat → Int) : zipL (cL n f) (cL n g) = (List.range n).map fun q => .tuple [.int (f q), .int (g q)] := by
  unfold zipL cL
  rw [List.zip_map_left, List.zip_map_right, List.map_map, List.map_map]
  apply List.ext_getElem
  · simp
  · intro i h1 h2; simp
def dfB (r : Int) : D → D
  | .tuple [.int a, .int b] => .bool (decide (a - b ≤ r))
  | _ => .none
theorem sumD_ints (ns : List Int) : sumD [.list (ns.map .int)] = some (.int ns.sum) := by simp only [sumD, intsD_map, Option.map_some]
theorem F_is_bar_eq {n : Nat} {T : Int} {ts : List Tm} {d : D} (h1 : 1 ≤ n) (h2 : n ≤ 40) (ht : ∀ t ∈ ts, t.ok n) (hs : ts.length ≤ 10000) (hT : 0 ≤ T) (hT1 : T ≤ 1000000) (hd : BarSz d) :
    ∃ t, F_is_bar [.im (rgD n ts), .im (.int T), .im d] = .ok (.bool (isBarB n ts T d), t) := by
  suffices h : Ev (F_is_bar [.im (rgD n ts), .im (.int T), .im d]) (fun x t => x = .bool (isBarB n ts T d)) fun _ _ => False by
    obtain ⟨x, t, e, rfl⟩ := ev_eq h; exact ⟨t, e⟩
  refine ev_fun ?_
  unfold g_is_bar
  walk_at "mirn"
  refine ev_of (F_look_at_ring_ok (short_of (by omega)) (ringD_ok (by omega) (by omega) ht)) ?_
  rw [back_ims rfl]
  walk_at "mirn"
  refine ev_of (F_look_at_total_ok (by simp [fromD, hT])) ?_
  rw [back_ims rfl]
  walk_at "mir"
  refine ev_o isTy_tuple_of ?_
  walk_at "mir"
  cases d with
  | tuple ds =>
    refine ⟨(fun h => nomatch h), fun _ => ?_⟩
    walk_at "mir"
    refine ⟨fun h => ?_, fun h => ?_⟩
    · walk_at "mir"
      match ds, h with
      | [], _ => rfl
      | [_], _ => rfl
      | [_, _], _ => rfl
      | [_, _, _], h => simp at h
      | _ :: _ :: c :: _ :: _, _ => cases c <;> rfl
    · have hl : (ds.length : Int) = 3 := by simpa using h
      match ds, hl with
      | [], hl => simp at hl
      | [_], hl => simp at hl
      | [_, _], hl => simp at hl
      | _ :: _ :: _ :: _ :: r, hl => simp at hl; omega
      | [a, b, c], _ =>
      obtain ⟨da, db⟩ := hd.sz a b c rfl
      walk_at "mir"
      refine ev_of (F_is_whole_eq _) ?_
      rw [back_ims rfl]
      walk_at "mir"
      cases c with
      | int r =>
        refine ⟨(fun h => nomatch h), fun _ => ?_⟩
        walk_at "mir"
        obtain ⟨t1, e1⟩ := F_is_numbers_eq (m := n) (ts := ts) da
        refine ev_of e1 ?_
        rw [back_ims rfl]
        walk_at "mir"
        refine ⟨fun ha => ?_, fun ha => ?_⟩
        · rw [Bool.not_eq_true'] at ha
          walk_at "mir"
          simp only [isBarB, ha, Bool.false_and]
        rw [Bool.not_eq_false'] at ha
        walk_at "mir"
        obtain ⟨t1, e1⟩ := F_is_numbers_eq (m := n) (ts := ts) db
        refine ev_of e1 ?_
        rw [back_ims rfl]
        walk_at "mir"
        refine ⟨fun hb => ?_, fun hb => ?_⟩
        · rw [Bool.not_eq_true'] at hb
          walk_at "mir"
          simp only [isBarB, hb, Bool.false_and, Bool.and_false]
        rw [Bool.not_eq_false'] at hb
        walk_at "mir"
        have e0 : isBarB n ts T (.tuple [a, b, .int r]) = restB n ts T (natsOf a) (natsOf b) r := by simp only [isBarB, ha, hb, Bool.true_and]
        rw [e0]
        obtain ⟨ea, ua, _⟩ := numsB_is ha
        obtain ⟨eb, ub, _⟩ := numsB_is hb
        clear e0
        generalize natsOf a = us at ea ua ⊢
        generalize natsOf b = ws at eb ub ⊢
        subst ea eb
        have su : us.length ≤ 1000000 := by have := da _ rfl; rw [nI_len] at this; exact this
        have sw : ws.length ≤ 1000000 := by have := db _ rfl; rw [nI_len] at this; exact this
        have tt : ∀ j, j < ts.length → ∃ t, ts[j]? = some t := fun j hj => ⟨_, List.getElem?_eq_getElem hj⟩
        refine ev_lcm (v := fun d => oI (hiN ts (whlI d).toNat)) ?_
        walk_at "mir"
        refine ⟨rfl, by rw [nI_len]; exact sizeLine_lt _ (by omega), fun d hd => ?_, ?_⟩
        · obtain ⟨j, hj, rfl⟩ := nI_mem hd
          obtain ⟨t, htj⟩ := tt j (ub j hj)
          unfold rgD
          walk_at "mir"
          refine ev_o (ix_termU (m := n) htj) ?_
          walk_at "mir"
          refine ⟨?_, rfl, rfl⟩
          show oI t.hi = oI (hiN ts ((j : Int)).toNat)
          unfold hiN
          rw [Int.toNat_natCast, htj]
        rw [nI_map, show (ws.map fun j : Nat => oI (hiN ts (whlI (.int (j : Int))).toNat)) = (ws.map (hiN ts)).map oI by rw [List.map_map]; rfl]
        walk_at "mir"
        refine ev_o (in_none _) ?_
        have ec : (ws.map (hiN ts)).all Option.isSome = capB ts ws := by unfold capB; rw [List.all_map]; rfl
        rw [ec]
        walk_at "mir"
        refine ⟨fun hc => ?_, fun hc => ?_⟩
        · rw [Bool.not_eq_true'] at hc
          walk_at "mir"
          simp only [restB, hc, Bool.false_and]
        rw [Bool.not_eq_false'] at hc
        walk_at "mir"
        refine ev_lcm (v := dfB r) ?_
        walk_at "mir"
        obtain ⟨t1, e1⟩ := F_counted_eq (ts := ts) (us := us) h1 (by omega) ht ua
        refine ev_of e1 ?_
        rw [back_ims rfl]
        walk_at "mir"
        obtain ⟨t2, e2⟩ := F_counted_eq (ts := ts) (us := ws) h1 (by omega) ht ub
        refine ev_of e2 ?_
        rw [back_ims rfl]
        walk_at "mir"
        rw [zip_cL]
        refine ⟨rfl, by rw [List.length_map, List.length_range]; exact sizeLine_lt _ (by omega), fun d hd => ?_, ?_⟩
        · obtain ⟨q, hq, rfl⟩ := List.mem_map.mp hd
          walk_at "mir"
          exact ⟨rfl, rfl, rfl⟩
        have ef : ((List.range n).map fun q => PyData.tuple [.int (covN n ts us q), .int (covN n ts ws q)]).map (dfB r) = ((List.range n).map fun q => decide (covN n ts us q - covN n ts ws q ≤ r)).map .bool := by
          rw [List.map_map, List.map_map]; rfl
        rw [ef]
        walk_at "mir"
        refine ev_o (allD_list _) ?_
        have eg : ((List.range n).map fun q => decide (covN n ts us q - covN n ts ws q ≤ r)).all id = fitB n ts us ws r := by unfold fitB; rw [List.all_map]; rfl
        rw [eg]
        walk_at "mir"
        refine ⟨fun hf => ?_, fun hf => ?_⟩
        · rw [Bool.not_eq_true'] at hf
          walk_at "mir"
          simp only [restB, hc, hf, Bool.false_and, Bool.and_false]
        rw [Bool.not_eq_false'] at hf
        walk_at "mir"
        refine ev_lcm (v := fun d => .int (loN ts (whlI d).toNat)) ?_
        walk_at "mir"
        refine ⟨rfl, by rw [nI_len]; exact sizeLine_lt _ (by omega), fun d hd => ?_, ?_⟩
        · obtain ⟨j, hj, rfl⟩ := nI_mem hd
          obtain ⟨t, htj⟩ := tt j (ua j hj)
          unfold rgD
          walk_at "mir"
          refine ev_o (ix_termU (m := n) htj) ?_
          walk_at "mir"
          refine ⟨?_, rfl, rfl⟩
          show PyData.int t.lo = .int (loN ts ((j : Int)).toNat)
          unfold loN
          rw [Int.toNat_natCast, htj]
        rw [nI_map, show (us.map fun j : Nat => PyData.int (loN ts (whlI (.int (j : Int))).toNat)) = (us.map (loN ts)).map .int by rw [List.map_map]; rfl]
        walk_at "mir"
        refine ev_lcm (v := fun d => .int (hiV ts (whlI d).toNat)) ?_
        walk_at "mir"
        refine ⟨rfl, by rw [nI_len]; exact sizeLine_lt _ (by omega), fun d hd => ?_, ?_⟩
        · obtain ⟨j, hj, rfl⟩ := nI_mem hd
          obtain ⟨t, htj⟩ := tt j (ub j hj)
          have hs := List.all_eq_true.mp hc j hj
          unfold hiN at hs
          rw [htj] at hs
          obtain ⟨h, hh⟩ := Option.isSome_iff_exists.mp hs
          have hh : t.hi = some h := hh
          unfold rgD
          walk_at "mir"
          refine ev_o (ix_termU (m := n) htj) ?_
          rw [hh]
          unfold oI
          walk_at "mir"
          refine ⟨?_, rfl, rfl⟩
          show PyData.int h = .int (hiV ts ((j : Int)).toNat)
          unfold hiV hiN
          rw [Int.toNat_natCast, htj]
          show PyData.int h = .int (t.hi.getD 0)
          rw [hh]; rfl
        rw [nI_map, show (ws.map fun j : Nat => PyData.int (hiV ts (whlI (.int (j : Int))).toNat)) = (ws.map (hiV ts)).map .int by rw [List.map_map]; rfl]
        walk_at "mir"
        refine ev_o (sumD_ints _) ?_
        walk_at "mir"
        refine ev_o (sumD_ints _) ?_
        walk_at "mir"
        simp only [restB, hc, hf, Bool.true_and]
        rfl
      | _ =>
        refine ⟨(fun h => ?_), fun h => nomatch h⟩
        walk_at "mir"
        rfl
  | _ =>
    refine ⟨(fun h => ?_), fun h => nomatch h⟩
    walk_at "mir"
    rfl
def ind (n q : Nat) : List Int := (List.range n).map fun i => if i = q then 1 else 0
def phi (q x : Nat) : Int := if q < x then 1 else 0
theorem ind_length (n q : Nat) : (ind n q).length = n := by simp [ind]
theorem pre_ind {n q : Nat} : ∀ k, k ≤ n → pre (ind n q) k = phi q k
  | 0, _ => by rw [pre_zero]; simp [phi]
  | k + 1, h => by
    rw [pre_succ (by rw [ind_length]; omega), pre_ind k (by omega)]
    simp only [ind, List.getElem_map, List.getElem_range, phi]
    by_cases h1 : k = q
    · subst h1; rw [if_neg (by omega), if_pos rfl, if_pos (by omega)]; rfl
    · rw [if_neg h1]
      by_cases h2 : q < k
      · rw [if_pos h2, if_pos (by omega)]; rfl
      · rw [if_neg h2, if_neg (by omega)]; rfl
theorem sum_ind {n q : Nat} (hq : q < n) : (ind n q).sum = 1 := by
  rw [← pre_all, ind_length, pre_ind n (Nat.le_refl _)]; unfold phi; rw [if_pos hq]
theorem cnt_stn {n q : Nat} (hn : 0 < n) (s l : Int) : cntP (plc n s l) q = stn (ind n q) s l := by
  unfold stn cntP
  rw [ind_length]
  have H : ∀ ps : List Int, (∀ p ∈ ps, 0 ≤ p ∧ p < n) → (((ps.filter fun p => decide (p = (q : Int))).length : Nat) : Int) = (ps.map fun p => (ind n q).getD p.toNat 0).sum := by
    intro ps
    induction ps with
    | nil => intro _; rfl
    | cons p ps ih =>
      intro h
      have hp := h p (by simp)
      rw [List.filter_cons, List.map_cons, List.sum_cons, ← ih fun x hx => h x (by simp [hx])]
      have e : (ind n q).getD p.toNat 0 = if p = (q : Int) then 1 else 0 := by
        unfold ind
        rw [List.getD_eq_getElem?_getD, List.getElem?_map, List.getElem?_range (by omega), Option.map_some, Option.getD_some]
        by_cases z : p = (q : Int)
        · rw [if_pos z, if_pos (by omega)]
        · rw [if_neg z, if_neg (by omega)]
      rw [e]
      by_cases z : p = (q : Int)
      · rw [if_pos z, if_pos (decide_eq_true z), List.length_cons]; omega
      · rw [if_neg z, if_neg (by simpa using z)]; omega
  exact H _ fun p hp => plc_lt (by omega) hp
theorem stn_pre {n : Nat} {xs : List Int} {t : Tm} (hx : xs.length = n) (h1 : 1 ≤ n) (ht : t.ok n) : stn xs t.s t.l = pre xs (tV n t) + (tR n t : Nat) * xs.sum - pre xs t.s.toNat := by
  have hn : xs ≠ [] := by rintro rfl; simp at hx; omega
  have a := ht.s0; have b := ht.s1
  rw [stn_gs hn ht.s0]
  unfold gs
  rw [hx, Nat.mod_eq_of_lt (show t.s.toNat < n by omega), Nat.div_eq_of_lt (show t.s.toNat < n by omega)]
  unfold tV tR
  simp
theorem cov_phi {n q : Nat} {t : Tm} (h1 : 1 ≤ n) (ht : t.ok n) (hq : q < n) : cntP (plc n t.s t.l) q = (tR n t : Nat) + phi q (tV n t) - phi q t.s.toNat := by
  have a := ht.s0; have b := ht.s1
  have tv : tV n t < n := Nat.mod_lt _ (by omega)
  rw [cnt_stn (by omega), stn_pre (ind_length n q) h1 ht, sum_ind hq, pre_ind (tV n t) (Nat.le_of_lt tv), pre_ind t.s.toNat (by omega)]
  omega
def upE (n : Nat) (T : Int) (j : Nat) (t : Tm) : Eg := ⟨t.s.toNat, tV n t, t.lo - (tR n t : Nat) * T, some j, 1, (tR n t : Nat)⟩
def dnE (n : Nat) (T : Int) (j : Nat) (t : Tm) (h : Int) : Eg := ⟨tV n t, t.s.toNat, -h + (tR n t : Nat) * T, some j, -1, (tR n t : Nat)⟩
def placeE (n : Nat) (T : Int) (p : Nat) : Eg := ⟨p, (p + 1) % n, -(((p + 1) / n : Nat) * T), none, 1, (((p + 1) / n : Nat) : Int)⟩
theorem dem_mem {n : Nat} {T : Int} {ts : List Tm} {e : Eg} (h : e ∈ dem n T ts) : (∃ p, p < n ∧ e = placeE n T p) ∨ ∃ j t, ts[j]? = some t ∧ (e = upE n T j t ∨ ∃ i, t.hi = some i ∧ e = dnE n T j t i) := by
  obtain ⟨g, hg, rfl⟩ := List.mem_map.mp h
  rcases raw_mem hg with ⟨p, hp, rfl⟩ | ⟨j, t, hj, rfl | ⟨i, hi, rfl⟩⟩
  · refine .inl ⟨p, hp, ?_⟩
    unfold lessT plE placeE
    simp
  · refine .inr ⟨j, t, hj, .inl ?_⟩
    unfold lessT upE
    simp only [Eg.mk.injEq, true_and, and_true]
    rw [Int.one_mul]
  · refine .inr ⟨j, t, hj, .inr ⟨i, hi, ?_⟩⟩
    unfold lessT dnE
    simp only [Eg.mk.injEq, true_and, and_true]
    rw [Int.neg_mul, Int.neg_mul, Int.one_mul]; omega
theorem raw_up {n : Nat} {ts : List Tm} {j : Nat} {t : Tm} (h : ts[j]? = some t) : (⟨t.s.toNat, tV n t, t.lo, some j, 1, (tR n t : Nat)⟩ : Eg) ∈ rawN n ts ts.length := by
  unfold rawN
  refine List.mem_append.mpr (.inr (List.mem_flatMap.mpr ⟨j, List.mem_range.mpr (List.getElem?_eq_some_iff.mp h).1, ?_⟩))
  unfold raw1
  rw [h]
  simp
theorem raw_dn {n : Nat} {ts : List Tm} {j : Nat} {t : Tm} {i : Int} (h : ts[j]? = some t) (hi : t.hi = some i) : (⟨tV n t, t.s.toNat, -i, some j, -1, (tR n t : Nat)⟩ : Eg) ∈ rawN n ts ts.length := by
  unfold rawN
  refine List.mem_append.mpr (.inr (List.mem_flatMap.mpr ⟨j, List.mem_range.mpr (List.getElem?_eq_some_iff.mp h).1, ?_⟩))
  unfold raw1
  rw [h]
  simp only [hi]
  simp
theorem dem_up {n : Nat} {T : Int} {ts : List Tm} {j : Nat} {t : Tm} (h : ts[j]? = some t) : upE n T j t ∈ dem n T ts := by
  refine List.mem_map.mpr ⟨_, raw_up (n := n) h, ?_⟩
  unfold lessT upE
  simp only [Eg.mk.injEq, true_and, and_true]
  rw [Int.one_mul]
theorem dem_dn {n : Nat} {T : Int} {ts : List Tm} {j : Nat} {t : Tm} {i : Int} (h : ts[j]? = some t) (hi : t.hi = some i) : dnE n T j t i ∈ dem n T ts := by
  refine List.mem_map.mpr ⟨_, raw_dn (n := n) h hi, ?_⟩
  unfold lessT dnE
  simp only [Eg.mk.injEq, true_and, and_true]
  rw [Int.neg_mul, Int.neg_mul, Int.one_mul]; omega
theorem dem_pl {n p : Nat} {T : Int} {ts : List Tm} (hp : p < n) : placeE n T p ∈ dem n T ts := by
  refine List.mem_map.mpr ⟨plE n p, ?_, ?_⟩
  · unfold rawN
    exact List.mem_append.mpr (.inl (List.mem_map_of_mem (List.mem_range.mpr hp)))
  · unfold lessT plE placeE
    simp
/-- a laying with a total that holds terms -/
structure LayOf (n : Nat) (T : Int) (ts : List Tm) (xs : List Int) : Prop where
  len : xs.length = n
  nn : ∀ x ∈ xs, 0 ≤ x
  sum : xs.sum = T
  hold : hold xs ts
theorem pre_le_all {xs : List Int} (h0 : ∀ x ∈ xs, 0 ≤ x) : ∀ k, pre xs k ≤ xs.sum := by
  intro k
  have up : ∀ d, pre xs k ≤ pre xs (k + d) := by
    intro d
    induction d with
    | zero => exact Int.le_refl _
    | succ d ih => exact Int.le_trans ih (pre_mono h0 _)
  have := up xs.length
  unfold pre at this ⊢
  rw [List.take_of_length_le (show xs.length ≤ k + xs.length by omega)] at this
  exact this
theorem pre_nn {xs : List Int} (h0 : ∀ x ∈ xs, 0 ≤ x) : ∀ k, 0 ≤ pre xs k
  | 0 => by rw [pre_zero]; exact Int.le_refl _
  | k + 1 => Int.le_trans (pre_nn h0 k) (pre_mono h0 k)
theorem LayOf.feas {n : Nat} {T : Int} {ts : List Tm} {xs : List Int} (h : LayOf n T ts xs) (h1 : 1 ≤ n) (ht : ∀ t ∈ ts, t.ok n) : Feas (dem n T ts) (pre xs) := by
  intro e he
  rcases dem_mem he with ⟨p, hp, rfl⟩ | ⟨j, t, hj, rfl | ⟨i, hi, rfl⟩⟩
  · show pre xs p + -(((p + 1) / n : Nat) * T) ≤ pre xs ((p + 1) % n)
    by_cases q : p + 1 < n
    · rw [Nat.mod_eq_of_lt q, Nat.div_eq_of_lt q]
      have := pre_mono h.nn p
      omega
    · rw [show p + 1 = n by omega, Nat.mod_self, Nat.div_self (by omega), pre_zero]
      have := pre_le_all h.nn p
      rw [h.sum] at this
      omega
  · have tm := List.mem_of_getElem? hj
    have a := (badT_iff _ _).mp (h.hold t tm)
    rw [stn_pre h.len h1 (ht t tm), h.sum] at a
    show pre xs t.s.toNat + (t.lo - (tR n t : Nat) * T) ≤ pre xs (tV n t)
    omega
  · have tm := List.mem_of_getElem? hj
    have a := (badT_iff _ _).mp (h.hold t tm)
    rw [stn_pre h.len h1 (ht t tm), h.sum] at a
    have := a.2 i hi
    show pre xs (tV n t) + (-i + (tR n t : Nat) * T) ≤ pre xs t.s.toNat
    omega
/-- heights that meet the demands are those of a laying -/
theorem feas_lay {n : Nat} {T : Int} {ts : List Tm} {hs : List Int} (h1 : 1 ≤ n) (ht : ∀ t ∈ ts, t.ok n) (hl : hs.length = n) (h0 : hF hs 0 = 0) (hf : Feas (dem n T ts) (hF hs)) :
    LayOf n T ts (lad hs T) ∧ ∀ k, k < n → pre (lad hs T) k = hF hs k := by
  let f : Nat → Int := fun k => if k < n then hF hs k else T
  have fn : f n = T := if_neg (Nat.lt_irrefl _)
  have fk : ∀ k, k < n → f k = hF hs k := fun k hk => if_pos hk
  have e1 : hs = (List.range n).map f := by
    apply List.ext_getElem
    · simp [hl]
    · intro k a b
      rw [List.getElem_map, List.getElem_range, fk k (by omega)]
      unfold hF
      rw [List.getD_eq_getElem?_getD, List.getElem?_eq_getElem a]; rfl
  have e2 : lad hs T = (List.range n).map fun k => f (k + 1) - f k := by
    have := lad_range f n
    rw [fn, ← e1] at this
    exact this
  have f0 : f 0 = 0 := by rw [fk 0 h1]; exact h0
  have pk : ∀ k, k ≤ n → pre (lad hs T) k = f k := fun k hk => by rw [e2]; exact pre_diff f f0 n k hk
  have ln : (lad hs T).length = n := by rw [e2]; simp
  have sm : (lad hs T).sum = T := by rw [← pre_all, ln, pk n (Nat.le_refl _), fn]
  refine ⟨⟨ln, fun x hx => ?_, sm, fun t tm => ?_⟩, fun k hk => by rw [pk k (Nat.le_of_lt hk), fk k hk]⟩
  · rw [e2] at hx
    obtain ⟨p, hp, rfl⟩ := List.mem_map.mp hx
    have hp := List.mem_range.mp hp
    have q := hf _ (dem_pl (T := T) (ts := ts) hp)
    have q : hF hs p + -(((p + 1) / n : Nat) * T) ≤ hF hs ((p + 1) % n) := q
    rw [← fk p hp, ← fk _ (Nat.mod_lt _ (by omega))] at q
    show 0 ≤ f (p + 1) - f p
    by_cases z : p + 1 < n
    · rw [Nat.mod_eq_of_lt z, Nat.div_eq_of_lt z] at q
      omega
    · rw [show p + 1 = n by omega, Nat.mod_self, Nat.div_self (by omega), f0] at q
      rw [show p + 1 = n by omega, fn]
      omega
  · obtain ⟨j, hj, rfl⟩ := List.getElem_of_mem tm
    have hj2 : ts[j]? = some ts[j] := List.getElem?_eq_getElem hj
    generalize ts[j] = t at hj2 tm
    have ok := ht t tm
    have a := ok.s0; have b := ok.s1
    have tv : tV n t < n := Nat.mod_lt _ (by omega)
    rw [badT_iff, stn_pre ln h1 ok, sm, pk _ (Nat.le_of_lt tv), pk _ (by omega), fk _ tv, fk _ (by omega)]
    refine ⟨?_, fun i hi => ?_⟩
    · have q := hf _ (dem_up (n := n) (T := T) hj2)
      have q : hF hs t.s.toNat + (t.lo - (tR n t : Nat) * T) ≤ hF hs (tV n t) := q
      omega
    · have q := hf _ (dem_dn (n := n) (T := T) hj2 hi)
      have q : hF hs (tV n t) + (-i + (tR n t : Nat) * T) ≤ hF hs t.s.toNat := q
      omega
theorem loop_feas {n : Nat} {es L : List Eg} {φ : Nat → Int} (hL : Loop n es L) (hφ : Feas es φ) : False := by
  have m := hL.more
  have z := hL.round φ
  have le : ∀ M : List Eg, (∀ e ∈ M, e ∈ es) → (M.map fun e => e.w).sum + (M.map fun e => φ e.u - φ e.v).sum ≤ 0 := by
    intro M
    induction M with
    | nil => intro _; simp
    | cons g M ih =>
      intro hM
      have a1 := ih fun e he => hM e (by simp [he])
      have a2 := hφ g (hM g (by simp))
      simp only [List.map_cons, List.sum_cons]
      omega
  have := le _ hL.mem
  omega
theorem loop_bars {n : Nat} {T : Int} {ts : List Tm} {L : List Eg} {xs : List Int} (h1 : 1 ≤ n) (ht : ∀ t ∈ ts, t.ok n) (hL : Loop n (dem n T ts) L) : ¬ LayOf n T ts xs :=
  fun h => loop_feas hL (h.feas h1 ht)
/-- the latest and the earliest of all layings -/
structure Ends (n : Nat) (T : Int) (ts : List Tm) (xs ys : List Int) : Prop where
  a : LayOf n T ts xs
  b : LayOf n T ts ys
  low : ∀ zs, LayOf n T ts zs → ∀ k, pre xs k ≤ pre zs k
  up : ∀ zs, LayOf n T ts zs → ∀ k, pre zs k ≤ pre ys k
theorem pre_past {xs : List Int} {k : Nat} (h : xs.length ≤ k) : pre xs k = xs.sum := by
  unfold pre; rw [List.take_of_length_le h]
theorem hF_neg (gs : List Int) (x : Nat) : hF (gs.map fun i => -i) x = -hF gs x := by
  unfold hF
  rw [List.getD_eq_getElem?_getD, List.getD_eq_getElem?_getD, List.getElem?_map]
  cases gs[x]? <;> rfl
theorem Laid.ends {n : Nat} {T : Int} {ts : List Tm} {xs ys : List Int} (h : Laid n T ts xs ys) (h1 : 1 ≤ n) (ht : ∀ t ∈ ts, t.ok n) : Ends n T ts xs ys := by
  obtain ⟨⟨hs, H, rfl⟩, gs, G, rfl⟩ := h
  obtain ⟨A, pa⟩ := feas_lay h1 ht H.len H.home H.feas
  have gf : Feas (dem n T ts) (hF (gs.map fun i => -i)) := by
    intro e he
    have := G.feas (revE e) (List.mem_map_of_mem he)
    have : hF gs e.v + e.w ≤ hF gs e.u := this
    rw [hF_neg, hF_neg]
    omega
  obtain ⟨B, pb⟩ := feas_lay h1 ht (hs := gs.map fun i => -i) (by rw [List.length_map]; exact G.len) (by rw [hF_neg, G.home]; rfl) gf
  refine ⟨A, B, fun zs hz k => ?_, fun zs hz k => ?_⟩
  · by_cases q : k < n
    · rw [pa k q]
      have := H.low _ (hz.feas h1 ht) k q
      rw [pre_zero] at this
      omega
    · rw [pre_past (xs := lad hs T) (by rw [A.len]; omega), pre_past (xs := zs) (by rw [hz.len]; omega), A.sum, hz.sum]
      exact Int.le_refl _
  · by_cases q : k < n
    · rw [pb k q, hF_neg]
      have := G.low _ (feas_rev (hz.feas h1 ht)) k q
      rw [pre_zero] at this
      omega
    · rw [pre_past (xs := lad (gs.map fun i => -i) T) (by rw [B.len]; omega), pre_past (xs := zs) (by rw [hz.len]; omega), B.sum, hz.sum]
      exact Int.le_refl _
def upsN (L : List Eg) : List Nat := (L.filter fun e => e.t.isSome && decide (e.way = 1)).map fun e => e.t.getD 0
def dnsN (L : List Eg) : List Nat := (L.filter fun e => decide (e.way = -1)).map fun e => e.t.getD 0
theorem upsL_eq (L : List Eg) : upsL L = nI (upsN L) := by unfold upsL upsN nI; rw [List.map_map]; rfl
theorem dnL_eq (L : List Eg) : dnL L = nI (dnsN L) := by unfold dnL dnsN nI; rw [List.map_map]; rfl
def srtN (us : List Nat) : List Nat := (sortI (nI us)).map Int.toNat
theorem nI_toNat (us : List Nat) : (nI us).map Int.toNat = us := by
  unfold nI; rw [List.map_map]
  exact (List.map_congr_left (g := id) fun i _ => rfl).trans (List.map_id us)
theorem srtN_perm (us : List Nat) : (srtN us).Perm us := by
  have := (sortI_perm (nI us)).map Int.toNat
  rw [nI_toNat] at this
  exact this
theorem nI_srt (us : List Nat) : nI (srtN us) = sortI (nI us) := by
  unfold srtN nI
  rw [List.map_map]
  refine (List.map_congr_left (g := id) fun i hi => ?_).trans (List.map_id _)
  have := (sortI_perm (us.map Int.ofNat)).mem_iff.mp hi
  obtain ⟨j, _, rfl⟩ := List.mem_map.mp this
  rfl
def barD (us ws : List Nat) (r : Int) : D := .tuple [.list ((nI us).map .int), .list ((nI ws).map .int), .int r]
theorem barOf_eq (L : List Eg) : barOf L = barD (srtN (upsN L)) (srtN (dnsN L)) (rdL L) := by
  unfold barOf barD
  rw [nI_srt, nI_srt, upsL_eq, dnL_eq]
theorem ascB_cons2 (x y : Int) (r : List Int) : ascB (x :: y :: r) = (decide (x ≤ y) && ascB (y :: r)) := by
  unfold ascB
  simp only [List.drop_succ_cons, List.drop_zero, List.zip_cons_cons, List.all_cons]
theorem ascB_of : ∀ {xs : List Int}, xs.Pairwise (· ≤ ·) → ascB xs = true
  | [], _ => rfl
  | [_], _ => rfl
  | x :: y :: r, h => by
    rw [List.pairwise_cons] at h
    rw [ascB_cons2, ascB_of h.2, decide_eq_true (h.1 y (by simp))]; rfl
theorem isum_perm {xs ys : List Int} (h : xs.Perm ys) : xs.sum = ys.sum := by
  induction h with
  | nil => rfl
  | cons x _ ih => simp only [List.sum_cons, ih]
  | swap x y l => simp only [List.sum_cons]; omega
  | trans _ _ h1 h2 => rw [h1, h2]
theorem covN_perm {m : Int} {ts : List Tm} {us ws : List Nat} (h : us.Perm ws) (q : Nat) : covN m ts us q = covN m ts ws q := isum_perm (h.map _)
theorem rdL_cons (e : Eg) (M : List Eg) : rdL (e :: M) = e.way * e.r + rdL M := rfl
theorem cov_loop {n q : Nat} {T : Int} {ts : List Tm} (h1 : 1 ≤ n) (ht : ∀ t ∈ ts, t.ok n) (hq : q < n) : ∀ M : List Eg, (∀ e ∈ M, e ∈ dem n T ts) →
    covN n ts (upsN M) q - covN n ts (dnsN M) q ≤ rdL M - (M.map fun e => phi q e.u - phi q e.v).sum
  | [], _ => by simp [upsN, dnsN, covN, rdL]
  | e :: M, h => by
    have ih := cov_loop h1 ht hq M fun e he => h e (by simp [he])
    rw [rdL_cons, List.map_cons, List.sum_cons]
    rcases dem_mem (h e (by simp)) with ⟨p, hp, rfl⟩ | ⟨j, t, hj, rfl | ⟨i, hi, rfl⟩⟩
    · have a : upsN (placeE n T p :: M) = upsN M := by simp [upsN, placeE]
      have b : dnsN (placeE n T p :: M) = dnsN M := by simp [dnsN, placeE]
      rw [a, b]
      show _ ≤ 1 * (((p + 1) / n : Nat) : Int) + rdL M - (phi q p - phi q ((p + 1) % n) + _)
      have k : 0 ≤ (((p + 1) / n : Nat) : Int) + phi q ((p + 1) % n) - phi q p := by
        unfold phi
        by_cases z : p + 1 < n
        · rw [Nat.mod_eq_of_lt z, Nat.div_eq_of_lt z]
          by_cases w : q < p
          · rw [if_pos w, if_pos (by omega)]; omega
          · rw [if_neg w]; split <;> omega
        · rw [show p + 1 = n by omega, Nat.mod_self, Nat.div_self (by omega)]
          split <;> split <;> omega
      omega
    · have a : upsN (upE n T j t :: M) = j :: upsN M := by simp [upsN, upE]
      have b : dnsN (upE n T j t :: M) = dnsN M := by simp [dnsN, upE]
      rw [a, b]
      have c : covN n ts (j :: upsN M) q = covT n ts q j + covN n ts (upsN M) q := by simp [covN]
      have d : covT n ts q j = (tR n t : Nat) + phi q (tV n t) - phi q t.s.toNat := by
        unfold covT
        rw [hj]
        exact cov_phi h1 (ht t (List.mem_of_getElem? hj)) hq
      rw [c, d]
      show _ ≤ 1 * ((tR n t : Nat) : Int) + rdL M - (phi q t.s.toNat - phi q (tV n t) + _)
      omega
    · have a : upsN (dnE n T j t i :: M) = upsN M := by simp [upsN, dnE]
      have b : dnsN (dnE n T j t i :: M) = j :: dnsN M := by simp [dnsN, dnE]
      rw [a, b]
      have c : covN n ts (j :: dnsN M) q = covT n ts q j + covN n ts (dnsN M) q := by simp [covN]
      have d : covT n ts q j = (tR n t : Nat) + phi q (tV n t) - phi q t.s.toNat := by
        unfold covT
        rw [hj]
        exact cov_phi h1 (ht t (List.mem_of_getElem? hj)) hq
      rw [c, d]
      show _ ≤ -1 * ((tR n t : Nat) : Int) + rdL M - (phi q (tV n t) - phi q t.s.toNat + _)
      omega
theorem dem_loop {n : Nat} {T : Int} {ts : List Tm} : ∀ M : List Eg, (∀ e ∈ M, e ∈ dem n T ts) →
    (M.map fun e => e.w).sum = ((upsN M).map (loN ts)).sum - ((dnsN M).map (hiV ts)).sum - rdL M * T
  | [], _ => by simp [upsN, dnsN, rdL]
  | e :: M, h => by
    have ih := dem_loop M fun e he => h e (by simp [he])
    rw [rdL_cons, List.map_cons, List.sum_cons, ih, Int.add_mul]
    rcases dem_mem (h e (by simp)) with ⟨p, hp, rfl⟩ | ⟨j, t, hj, rfl | ⟨i, hi, rfl⟩⟩
    · have a : upsN (placeE n T p :: M) = upsN M := by simp [upsN, placeE]
      have b : dnsN (placeE n T p :: M) = dnsN M := by simp [dnsN, placeE]
      rw [a, b]
      show -((((p + 1) / n : Nat) : Int) * T) + _ = _ - (1 * (((p + 1) / n : Nat) : Int) * T + _)
      rw [Int.one_mul]
      omega
    · have a : upsN (upE n T j t :: M) = j :: upsN M := by simp [upsN, upE]
      have b : dnsN (upE n T j t :: M) = dnsN M := by simp [dnsN, upE]
      rw [a, b, List.map_cons, List.sum_cons]
      have d : loN ts j = t.lo := by unfold loN; rw [hj]
      rw [d]
      show (t.lo - (tR n t : Nat) * T) + _ = _ - (1 * ((tR n t : Nat) : Int) * T + _)
      rw [Int.one_mul]
      omega
    · have a : upsN (dnE n T j t i :: M) = upsN M := by simp [upsN, dnE]
      have b : dnsN (dnE n T j t i :: M) = j :: dnsN M := by simp [dnsN, dnE]
      rw [a, b, List.map_cons, List.sum_cons]
      have d : hiV ts j = i := by unfold hiV hiN; rw [hj]; simp [hi]
      rw [d]
      show (-i + (tR n t : Nat) * T) + _ = _ - (-1 * ((tR n t : Nat) : Int) * T + _)
      rw [Int.neg_mul, Int.neg_mul, Int.one_mul]
      omega
/-- a bar -/
structure Bar (n : Nat) (T : Int) (ts : List Tm) (us ws : List Nat) (r : Int) : Prop where
  up : ∀ j ∈ us, j < ts.length
  dn : ∀ j ∈ ws, j < ts.length
  ua : ascB (nI us) = true
  wa : ascB (nI ws) = true
  cap : capB ts ws = true
  fit : fitB n ts us ws r = true
  more : sumB ts T us ws r = true
structure Short (n : Nat) (us ws : List Nat) (r : Int) : Prop where
  ud : us.Nodup
  wd : ws.Nodup
  len : us.length + ws.length ≤ n
  r0 : -(2 * n) ≤ r
  r1 : r ≤ 2 * n
theorem numsB_mk (c : Nat) (us : List Nat) : numsB c (.list ((nI us).map .int)) = (us.all (fun j => decide (j < c)) && ascB (nI us)) := by
  show (((nI us).map PyData.int).all (numD c) && ascB (((nI us).map PyData.int).map whlI)) = _
  have a : ((nI us).map PyData.int).map whlI = nI us := by
    rw [List.map_map]
    exact (List.map_congr_left (g := id) fun i _ => rfl).trans (List.map_id _)
  have b : ((nI us).map PyData.int).all (numD c) = us.all fun j => decide (j < c) := by
    unfold nI
    rw [List.all_map, List.all_map]
    congr 1
    funext j
    show (decide ((0 : Int) ≤ (j : Int)) && decide ((j : Int) < (c : Int))) = decide (j < c)
    rw [decide_eq_true (Int.natCast_nonneg j), Bool.true_and, Bool.eq_iff_iff, decide_eq_true_eq, decide_eq_true_eq]
    omega
  rw [a, b]
theorem natsOf_mk (us : List Nat) : natsOf (.list ((nI us).map .int)) = us := by
  show ((nI us).map PyData.int).map (fun d => (whlI d).toNat) = us
  rw [List.map_map]
  exact nI_toNat us
theorem isBarB_iff {n : Nat} {T : Int} {ts : List Tm} {us ws : List Nat} {r : Int} : isBarB n ts T (barD us ws r) = true ↔ Bar n T ts us ws r := by
  show (numsB ts.length _ && (numsB ts.length _ && restB n ts T (natsOf _) (natsOf _) r)) = true ↔ _
  rw [numsB_mk, numsB_mk, natsOf_mk, natsOf_mk]
  unfold restB
  simp only [Bool.and_eq_true, List.all_eq_true, decide_eq_true_eq]
  constructor
  · rintro ⟨⟨a, b⟩, ⟨c, d⟩, e, f, g⟩
    exact ⟨a, c, b, d, e, f, g⟩
  · rintro ⟨a, c, b, d, e, f, g⟩
    exact ⟨⟨a, b⟩, ⟨c, d⟩, e, f, g⟩
theorem bar_of_loop {n : Nat} {T : Int} {ts : List Tm} {L : List Eg} (h1 : 1 ≤ n) (ht : ∀ t ∈ ts, t.ok n) (hL : Loop n (dem n T ts) L) : ∃ us ws r, barOf L = barD us ws r ∧ Bar n T ts us ws r ∧ Short n us ws r := by
  have ok : ∀ e ∈ L, EgOk n ts.length e := fun e he => dem_ok h1 ht (hL.mem e he)
  have pu := srtN_perm (upsN L)
  have pw := srtN_perm (dnsN L)
  have asc : ∀ us, ascB (nI (srtN us)) = true := fun us => by rw [nI_srt]; exact ascB_of (sortI_sorted _)
  have mu : ∀ j ∈ upsN L, ∃ e ∈ L, e.t = some j ∧ e.way = 1 := fun j hj => by
    obtain ⟨e, he, rfl⟩ := List.mem_map.mp hj
    obtain ⟨a, b⟩ := List.mem_filter.mp he
    rw [Bool.and_eq_true, decide_eq_true_eq] at b
    obtain ⟨k, hk⟩ := Option.isSome_iff_exists.mp b.1
    exact ⟨e, a, by rw [hk]; rfl, b.2⟩
  have mw : ∀ j ∈ dnsN L, ∃ e ∈ L, e.t = some j ∧ e.way = -1 := fun j hj => by
    obtain ⟨e, he, rfl⟩ := List.mem_map.mp hj
    obtain ⟨a, b⟩ := List.mem_filter.mp he
    rw [decide_eq_true_eq] at b
    cases hk : e.t with
    | none => exact absurd hk ((ok e a).dn b)
    | some k => exact ⟨e, a, hk, b⟩
  have same : ∀ e ∈ L, ∀ e' ∈ L, ∀ j, e.t = some j → e'.t = some j → e.way = e'.way → e.v = e'.v := by
    intro e he e' he' j hj hj' hw
    rcases dem_mem (hL.mem e he) with ⟨p, hp, rfl⟩ | ⟨i, t, hi, rfl | ⟨h, hh, rfl⟩⟩
    · cases hj
    · rcases dem_mem (hL.mem e' he') with ⟨p, hp, rfl⟩ | ⟨i', t', hi', rfl | ⟨h', hh', rfl⟩⟩
      · cases hj'
      · cases hj; cases hj'
        rw [hi] at hi'; cases hi'; rfl
      · exact absurd (show (1 : Int) = -1 from hw) (by decide)
    · rcases dem_mem (hL.mem e' he') with ⟨p, hp, rfl⟩ | ⟨i', t', hi', rfl | ⟨h', hh', rfl⟩⟩
      · cases hj'
      · exact absurd (show (-1 : Int) = 1 from hw) (by decide)
      · cases hj; cases hj'
        rw [hi] at hi'; cases hi'; rfl
  have nd := List.pairwise_map.mp hL.nd
  have du : (upsN L).Nodup := by
    refine List.pairwise_map.mpr (List.Pairwise.imp_of_mem (R := fun a b : Eg => a.v ≠ b.v) ?_ (nd.sublist List.filter_sublist))
    intro e e' he he' hne q
    obtain ⟨a, b⟩ := List.mem_filter.mp he
    obtain ⟨a', b'⟩ := List.mem_filter.mp he'
    rw [Bool.and_eq_true, decide_eq_true_eq] at b b'
    obtain ⟨k, hk⟩ := Option.isSome_iff_exists.mp b.1
    obtain ⟨k', hk'⟩ := Option.isSome_iff_exists.mp b'.1
    rw [hk, hk'] at q
    have q : k = k' := q
    exact hne (same e a e' a' k hk (by rw [hk', q]) (by rw [b.2, b'.2]))
  have dw : (dnsN L).Nodup := by
    refine List.pairwise_map.mpr (List.Pairwise.imp_of_mem (R := fun a b : Eg => a.v ≠ b.v) ?_ (nd.sublist List.filter_sublist))
    intro e e' he he' hne q
    obtain ⟨a, b⟩ := List.mem_filter.mp he
    obtain ⟨a', b'⟩ := List.mem_filter.mp he'
    rw [decide_eq_true_eq] at b b'
    cases hk : e.t with
    | none => exact (ok e a).dn b hk
    | some k =>
      cases hk' : e'.t with
      | none => exact (ok e' a').dn b' hk'
      | some k' =>
        rw [hk, hk'] at q
        have q : k = k' := q
        exact hne (same e a e' a' k hk (by rw [hk', q]) (by rw [b, b']))
  have rb : -(2 * (n : Int)) ≤ rdL L ∧ rdL L ≤ 2 * n := by
    have this : ∀ M : List Eg, (∀ e ∈ M, EgOk n ts.length e) → -(2 * (M.length : Int)) ≤ rdL M ∧ rdL M ≤ 2 * M.length := by
      intro M
      induction M with
      | nil => intro _; simp [rdL]
      | cons e M ih =>
        intro h
        have ih := ih fun e he => h e (by simp [he])
        have k := h e (by simp)
        have k1 := k.r0; have k2 := k.r1
        rw [rdL_cons, List.length_cons]
        rcases k.way with w | w <;> rw [w] <;> omega
    have a := this L ok
    have b := hL.len
    exact ⟨by omega, by omega⟩
  refine ⟨_, _, _, barOf_eq L, ⟨fun j hj => ?_, fun j hj => ?_, asc _, asc _, ?_, ?_, ?_⟩, ⟨pu.symm.nodup du, pw.symm.nodup dw, ?_, rb.1, rb.2⟩⟩
  · obtain ⟨e, he, h, _⟩ := mu j (pu.mem_iff.mp hj)
    exact (ok e he).t j h
  · obtain ⟨e, he, h, _⟩ := mw j (pw.mem_iff.mp hj)
    exact (ok e he).t j h
  · refine List.all_eq_true.mpr fun j hj => ?_
    obtain ⟨e, he, h, hw⟩ := mw j (pw.mem_iff.mp hj)
    rcases dem_mem (hL.mem e he) with ⟨p, hp, rfl⟩ | ⟨i, t, hi, rfl | ⟨x, hx, rfl⟩⟩
    · cases h
    · exact absurd (show (1 : Int) = -1 from hw) (by decide)
    · cases h
      unfold hiN
      rw [hi]
      simp [hx]
  · refine List.all_eq_true.mpr fun q hq => decide_eq_true ?_
    rw [covN_perm pu, covN_perm pw]
    have := cov_loop h1 ht (List.mem_range.mp hq) L hL.mem
    rw [hL.round (phi q)] at this
    omega
  · refine decide_eq_true ?_
    have := dem_loop L hL.mem
    have m := hL.more
    rw [isum_perm (pu.map (loN ts)), isum_perm (pw.map (hiV ts))]
    omega
  · rw [pu.length_eq, pw.length_eq]
    refine Nat.le_trans ?_ hL.len
    unfold upsN dnsN
    rw [List.length_map, List.length_map]
    clear nd du dw pu pw mu mw same hL rb
    induction L with
    | nil => exact Nat.le_refl _
    | cons e L ih =>
      have ih := ih fun e he => ok e (by simp [he])
      rw [List.filter_cons, List.filter_cons, List.length_cons]
      rcases (ok e (by simp)).way with w | w <;> rw [w] <;> cases e.t.isSome <;> simp <;> omega
def brdD (us ws : List Nat) (r : Int) : D := .tuple [.str "barred", barD us ws r]
/-- what lay tells -/
theorem Told.is {n : Nat} {T : Int} {ts : List Tm} {x : D} (h : Told n T ts x) (h1 : 1 ≤ n) (ht : ∀ t ∈ ts, t.ok n) :
    (∃ xs ys, Ends n T ts xs ys ∧ x = layD2 xs ys) ∨ ∃ us ws r, Bar n T ts us ws r ∧ Short n us ws r ∧ (∀ zs, ¬ LayOf n T ts zs) ∧ x = brdD us ws r := by
  rcases h with ⟨xs, ys, h, rfl⟩ | ⟨L, hL, rfl⟩
  · exact .inl ⟨xs, ys, h.ends h1 ht, rfl⟩
  · obtain ⟨us, ws, r, e, B, S⟩ := bar_of_loop h1 ht hL
    exact .inr ⟨us, ws, r, B, S, fun zs => loop_bars h1 ht hL, by unfold barD2 brdD; rw [e]⟩
def rsum (n : Nat) (f : Nat → Int) : Int := ((List.range n).map f).sum
theorem rsum_zero (f : Nat → Int) : rsum 0 f = 0 := rfl
theorem rsum_succ (n : Nat) (f : Nat → Int) : rsum (n + 1) f = rsum n f + f n := by
  unfold rsum
  rw [List.range_succ, List.map_append, List.sum_append]
  simp
theorem rsum_add (n : Nat) (f g : Nat → Int) : rsum n (fun q => f q + g q) = rsum n f + rsum n g := by
  induction n with
  | zero => rfl
  | succ n ih => rw [rsum_succ, rsum_succ, rsum_succ, ih]; omega
theorem rsum_sub (n : Nat) (f g : Nat → Int) : rsum n (fun q => f q - g q) = rsum n f - rsum n g := by
  induction n with
  | zero => rfl
  | succ n ih => rw [rsum_succ, rsum_succ, rsum_succ, ih]; omega
theorem rsum_mul (n : Nat) (f : Nat → Int) (r : Int) : rsum n (fun q => f q * r) = rsum n f * r := by
  induction n with
  | zero => simp [rsum_zero]
  | succ n ih => rw [rsum_succ, rsum_succ, ih, Int.add_mul]
theorem rsum_le {n : Nat} {f g : Nat → Int} (h : ∀ q, q < n → f q ≤ g q) : rsum n f ≤ rsum n g := by
  induction n with
  | zero => exact Int.le_refl _
  | succ n ih =>
    have := ih fun q hq => h q (by omega)
    have := h n (by omega)
    rw [rsum_succ, rsum_succ]; omega
theorem rsum_congr {n : Nat} {f g : Nat → Int} (h : ∀ q, q < n → f q = g q) : rsum n f = rsum n g := by
  apply Int.le_antisymm
  · exact rsum_le fun q hq => Int.le_of_eq (h q hq)
  · exact rsum_le fun q hq => Int.le_of_eq (h q hq).symm
theorem rsum_one {n p : Nat} (f : Nat → Int) (hp : p < n) : rsum n (fun q => f q * (if p = q then 1 else 0)) = f p := by
  induction n with
  | zero => omega
  | succ n ih =>
    rw [rsum_succ]
    by_cases h : p = n
    · subst h
      rw [if_pos rfl, Int.mul_one]
      have : rsum p (fun q => f q * (if p = q then 1 else 0)) = rsum p fun _ => 0 := rsum_congr fun q hq => by rw [if_neg (by omega), Int.mul_zero]
      rw [this]
      have z : ∀ m, rsum m (fun _ => 0) = 0 := fun m => by
        induction m with
        | zero => rfl
        | succ m ih => rw [rsum_succ, ih]; rfl
      rw [z]; omega
    · rw [ih (by omega), if_neg (by omega), Int.mul_zero]; omega
theorem pre_rsum (xs : List Int) : ∀ k, pre xs k = rsum k fun q => xs.getD q 0
  | 0 => by rw [pre_zero]; rfl
  | k + 1 => by
    rw [rsum_succ, ← pre_rsum xs k]
    by_cases h : k < xs.length
    · rw [pre_succ h, List.getD_eq_getElem?_getD, List.getElem?_eq_getElem h]; rfl
    · unfold pre
      rw [List.take_of_length_le (by omega), List.take_of_length_le (by omega), List.getD_eq_getElem?_getD, List.getElem?_eq_none (by omega)]
      simp
theorem sum_rsum {xs : List Int} {n : Nat} (h : xs.length = n) : xs.sum = rsum n fun q => xs.getD q 0 := by
  rw [← pre_rsum, ← h, pre_all]
theorem cntP_cons (p : Int) (ps : List Int) (q : Nat) : cntP (p :: ps) q = cntP ps q + (if p = (q : Int) then 1 else 0) := by
  unfold cntP
  rw [List.filter_cons]
  by_cases h : p = (q : Int)
  · rw [if_pos h, if_pos (decide_eq_true h), List.length_cons]; omega
  · rw [if_neg h, if_neg (by simpa using h)]; omega
theorem places_rsum {n : Nat} (f : Nat → Int) : ∀ {ps : List Int}, (∀ p ∈ ps, 0 ≤ p ∧ p < (n : Int)) → (ps.map fun p => f p.toNat).sum = rsum n fun q => f q * cntP ps q
  | [], _ => by
    have : ∀ m, rsum m (fun q => f q * cntP [] q) = 0 := fun m => by
      induction m with
      | zero => rfl
      | succ m ih => rw [rsum_succ, ih]; simp [cntP]
    rw [this]; rfl
  | p :: ps, h => by
    obtain ⟨p0, p1⟩ := h p (by simp)
    rw [List.map_cons, List.sum_cons, places_rsum f fun x hx => h x (by simp [hx])]
    have e : rsum n (fun q => f q * cntP (p :: ps) q) = rsum n (fun q => f q * cntP ps q) + rsum n (fun q => f q * (if p.toNat = q then 1 else 0)) := by
      rw [← rsum_add]
      refine rsum_congr fun q _ => ?_
      rw [cntP_cons, Int.mul_add]
      by_cases z : p = (q : Int)
      · rw [if_pos z, if_pos (by omega)]
      · rw [if_neg z, if_neg (by omega)]
    rw [e, rsum_one f (by omega)]; omega
theorem stn_rsum {n : Nat} {xs : List Int} (hx : xs.length = n) (h1 : 1 ≤ n) (s l : Int) : stn xs s l = rsum n fun q => xs.getD q 0 * cntP (plc n s l) q := by
  unfold stn
  rw [hx]
  exact places_rsum (fun q => xs.getD q 0) fun p hp => plc_lt (by omega) hp
theorem getD_nn {xs : List Int} (h : ∀ x ∈ xs, 0 ≤ x) (q : Nat) : 0 ≤ xs.getD q 0 := by
  rw [List.getD_eq_getElem?_getD]
  cases e : xs[q]? with
  | none => exact Int.le_refl _
  | some x => exact h x (List.mem_of_getElem? e)
def stT (xs : List Int) (ts : List Tm) (j : Nat) : Int := match ts[j]? with
  | some t => stn xs t.s t.l
  | none => 0
theorem stT_rsum {n : Nat} {xs : List Int} {ts : List Tm} (hx : xs.length = n) (h1 : 1 ≤ n) (j : Nat) : stT xs ts j = rsum n fun q => xs.getD q 0 * covT n ts q j := by
  unfold stT covT
  cases ts[j]? with
  | some t => exact stn_rsum hx h1 t.s t.l
  | none =>
    have : ∀ m, rsum m (fun q => xs.getD q 0 * 0) = 0 := fun m => by
      induction m with
      | zero => rfl
      | succ m ih => rw [rsum_succ, ih]; simp
    exact (this n).symm
theorem covN_cons (m : Int) (ts : List Tm) (j : Nat) (us : List Nat) (q : Nat) : covN m ts (j :: us) q = covT m ts q j + covN m ts us q := by simp [covN]
theorem stones_rsum {n : Nat} {xs : List Int} {ts : List Tm} (hx : xs.length = n) (h1 : 1 ≤ n) : ∀ us : List Nat, (us.map (stT xs ts)).sum = rsum n fun q => xs.getD q 0 * covN n ts us q
  | [] => by
    have : ∀ m, rsum m (fun q => xs.getD q 0 * covN n ts [] q) = 0 := fun m => by
      induction m with
      | zero => rfl
      | succ m ih => rw [rsum_succ, ih]; simp [covN]
    rw [this]; rfl
  | j :: us => by
    rw [List.map_cons, List.sum_cons, stones_rsum hx h1 us, stT_rsum hx h1, ← rsum_add]
    refine rsum_congr fun q _ => ?_
    rw [covN_cons, Int.mul_add]
theorem Bar.at {n : Nat} {T T' : Int} {ts : List Tm} {us ws : List Nat} {r : Int} (B : Bar n T ts us ws r) (h : r * T' ≤ r * T) : Bar n T' ts us ws r := by
  have m := of_decide_eq_true B.more
  exact ⟨B.up, B.dn, B.ua, B.wa, B.cap, B.fit, decide_eq_true (by omega)⟩
theorem bar_sound {n : Nat} {T : Int} {ts : List Tm} {us ws : List Nat} {r : Int} {xs : List Int} (h1 : 1 ≤ n) (B : Bar n T ts us ws r) : ¬ LayOf n T ts xs := by
  intro L
  have m := of_decide_eq_true B.more
  have tt : ∀ j, j < ts.length → ∃ t, ts[j]? = some t := fun j hj => ⟨_, List.getElem?_eq_getElem hj⟩
  have lo : ∀ us : List Nat, (∀ j ∈ us, j < ts.length) → (us.map (loN ts)).sum ≤ (us.map (stT xs ts)).sum := by
    intro us
    induction us with
    | nil => intro _; exact Int.le_refl _
    | cons j us ih =>
      intro h
      have ih := ih fun i hi => h i (by simp [hi])
      obtain ⟨t, ht⟩ := tt j (h j (by simp))
      have a := ((badT_iff _ _).mp (L.hold t (List.mem_of_getElem? ht))).1
      have e1 : loN ts j = t.lo := by unfold loN; rw [ht]
      have e2 : stT xs ts j = stn xs t.s t.l := by unfold stT; rw [ht]
      simp only [List.map_cons, List.sum_cons, e1, e2]
      omega
  have hi : ∀ ws : List Nat, (∀ j ∈ ws, j < ts.length) → capB ts ws = true → (ws.map (stT xs ts)).sum ≤ (ws.map (hiV ts)).sum := by
    intro ws
    induction ws with
    | nil => intro _ _; exact Int.le_refl _
    | cons j ws ih =>
      intro h hc
      have hc := List.all_eq_true.mp hc
      have ih := ih (fun i hi => h i (by simp [hi])) (List.all_eq_true.mpr fun i hi => hc i (by simp [hi]))
      obtain ⟨t, ht⟩ := tt j (h j (by simp))
      have s := hc j (by simp)
      unfold hiN at s
      rw [ht] at s
      obtain ⟨x, hx⟩ := Option.isSome_iff_exists.mp s
      have hx : t.hi = some x := hx
      have a := ((badT_iff _ _).mp (L.hold t (List.mem_of_getElem? ht))).2 x hx
      have e1 : hiV ts j = x := by unfold hiV hiN; rw [ht]; show t.hi.getD 0 = x; rw [hx]; rfl
      have e2 : stT xs ts j = stn xs t.s t.l := by unfold stT; rw [ht]
      simp only [List.map_cons, List.sum_cons, e1, e2]
      omega
  have a := lo us B.up
  have b := hi ws B.dn B.cap
  rw [stones_rsum L.len h1] at a b
  have c : rsum n (fun q => xs.getD q 0 * covN n ts us q) - rsum n (fun q => xs.getD q 0 * covN n ts ws q) ≤ rsum n fun q => xs.getD q 0 * r := by
    rw [← rsum_sub]
    refine rsum_le fun q hq => ?_
    have f := of_decide_eq_true (List.all_eq_true.mp B.fit q (List.mem_range.mpr hq))
    rw [← Int.mul_sub]
    exact Int.mul_le_mul_of_nonneg_left f (getD_nn L.nn q)
  rw [rsum_mul, ← sum_rsum L.len, L.sum, Int.mul_comm] at c
  omega
/-- numbers that stand once: no more than all -/
theorem nodup_le : ∀ {us : List Nat} {n : Nat} {f : Nat → Int}, us.Nodup → (∀ j ∈ us, j < n) → (∀ j, j < n → 0 ≤ f j) → (us.map f).sum ≤ rsum n f := by
  intro us n f
  induction n generalizing us with
  | zero =>
    intro _ h _
    cases us with
    | nil => exact Int.le_refl _
    | cons j r => exact absurd (h j (by simp)) (Nat.not_lt_zero _)
  | succ n ih =>
    intro nd h h0
    rw [rsum_succ]
    have sub : (us.filter fun j => decide (j ≠ n)).Nodup := nd.sublist List.filter_sublist
    have i1 := ih sub (fun j hj => by
      obtain ⟨a, b⟩ := List.mem_filter.mp hj
      have := h j a
      have := of_decide_eq_true b
      omega) fun j hj => h0 j (by omega)
    have fn := h0 n (by omega)
    have step : ∀ vs : List Nat, vs.Nodup → (vs.map f).sum ≤ ((vs.filter fun j => decide (j ≠ n)).map f).sum + f n := by
      intro vs
      induction vs with
      | nil => intro _; simp; exact fn
      | cons j vs ih2 =>
        intro nd2
        rw [List.nodup_cons] at nd2
        rw [List.filter_cons, List.map_cons, List.sum_cons]
        by_cases z : j = n
        · subst z
          rw [if_neg (by simp)]
          have e : vs.filter (fun i => decide (i ≠ j)) = vs := List.filter_eq_self.mpr fun i hi => decide_eq_true fun w => nd2.1 (w ▸ hi)
          rw [e]; omega
        · rw [if_pos (decide_eq_true z), List.map_cons, List.sum_cons]
          have := ih2 nd2.2
          omega
    have := step us nd
    omega
structure Gd (n w : Nat) (d : D) : Prop where
  nice : Nice n w d
  tx : TxOk d
structure GdL (n w : Nat) (ds : List D) : Prop where
  lay : PyData.canLayAll0 ds = true
  dep : PyData.depthAll ds ≤ n
  wt : PyData.weightAll ds ≤ w
  sh : PyData.showableAll ds = true
  ls : PyData.leavesShortAll 300 ds = true
  tx : ∀ d ∈ ds, TxOk d
theorem Gd.mono {n w n' w' : Nat} {d : D} (h : Gd n w d) (hn : n ≤ n') (hw : w ≤ w') : Gd n' w' d := ⟨h.nice.mono hn hw, h.tx⟩
theorem GdL.mono {n w n' w' : Nat} {d : List D} (h : GdL n w d) (hn : n ≤ n') (hw : w ≤ w') : GdL n' w' d := ⟨h.lay, Nat.le_trans h.dep hn, Nat.le_trans h.wt hw, h.sh, h.ls, h.tx⟩
theorem gd_none : Gd 0 0 .none := ⟨nice_none, sok_none⟩
theorem gd_bool (b : Bool) : Gd 0 0 (.bool b) := ⟨nice_bool b, sok_bool b⟩
theorem gd_int {i : Int} (h1 : -1000000000000000000000000000000 ≤ i) (h2 : i ≤ 1000000000000000000000000000000) : Gd 0 100 (.int i) := ⟨nice_small h1 h2, sok_int i⟩
theorem gdl_nil : GdL 0 0 [] := ⟨rfl, by simp [PyData.depthAll], by simp [PyData.weightAll], rfl, rfl, by simp⟩
theorem gdl_cons {n w n' w' : Nat} {d : D} {ds : List D} (h : Gd n w d) (h' : GdL n' w' ds) : GdL (max n n') (w + w' + 1) (d :: ds) := by
  refine ⟨by simp only [PyData.canLayAll0, h.nice.lay, h'.lay, Bool.and_self], ?_, ?_, by simp only [PyData.showableAll, h.nice.sh, h'.sh, Bool.and_self], by simp only [PyData.leavesShortAll, h.nice.ls, h'.ls, Bool.and_self], ?_⟩
  · have := h.nice.dep; have := h'.dep
    simp only [PyData.depthAll]; omega
  · have := h.nice.wt; have := h'.wt
    simp only [PyData.weightAll]; omega
  · intro x hx
    rcases List.mem_cons.mp hx with rfl | hx
    · exact h.tx
    · exact h'.tx x hx
theorem GdL.head {n w : Nat} {d : D} {ds : List D} (h : GdL n w (d :: ds)) : Gd n w d ∧ GdL n w ds := by
  have h1 := h.lay; have h2 := h.dep; have h3 := h.wt; have h4 := h.sh; have h5 := h.ls
  simp only [PyData.canLayAll0, PyData.depthAll, PyData.weightAll, PyData.showableAll, PyData.leavesShortAll, Bool.and_eq_true] at h1 h2 h3 h4 h5
  exact ⟨⟨⟨h1.1, by omega, by omega, h4.1, h5.1⟩, h.tx d (by simp)⟩, ⟨h1.2, by omega, by omega, h4.2, h5.2, fun x hx => h.tx x (by simp [hx])⟩⟩
theorem GdL.mem {n w : Nat} : ∀ {ds : List D} {d : D}, GdL n w ds → d ∈ ds → Gd n w d
  | [], _, _, h => by simp at h
  | x :: xs, d, g, h => by
    rcases List.mem_cons.mp h with rfl | h
    · exact g.head.1
    · exact g.head.2.mem h
theorem GdL.length {n w : Nat} : ∀ {ds : List D}, GdL n w ds → ds.length ≤ w
  | [], _ => by simp
  | x :: xs, g => by
    have h3 := g.wt
    simp only [PyData.weightAll] at h3
    have := GdL.length (ds := xs) (n := n) (w := w - PyData.weight x - 1) ⟨g.head.2.lay, g.head.2.dep, by omega, g.head.2.sh, g.head.2.ls, g.head.2.tx⟩
    simp only [List.length_cons]; omega
theorem gdl_append {n w n' w' : Nat} : ∀ {xs ys : List D}, GdL n w xs → GdL n' w' ys → GdL (max n n') (w + w') (xs ++ ys)
  | [], ys, _, h' => h'.mono (by omega) (by omega)
  | x :: xs, ys, h, h' => by
    have h3 := h.wt
    simp only [PyData.weightAll] at h3
    have e : GdL n (w - PyData.weight x - 1) xs := ⟨h.head.2.lay, h.head.2.dep, by omega, h.head.2.sh, h.head.2.ls, h.head.2.tx⟩
    have z := gdl_append e h'
    have c := gdl_cons (n := n) (w := PyData.weight x) (d := x) ⟨⟨h.head.1.nice.lay, h.head.1.nice.dep, Nat.le_refl _, h.head.1.nice.sh, h.head.1.nice.ls⟩, h.head.1.tx⟩ z
    exact c.mono (by omega) (by omega)
theorem gd_tuple {n w : Nat} {ds : List D} (h : GdL n w ds) : Gd (n + 1) w (.tuple ds) :=
  ⟨⟨by simp only [PyData.canLay0, h.lay], by have := h.dep; simp only [PyData.depth]; omega, by simpa only [PyData.weight] using h.wt, by simp only [PyData.showable, h.sh], by simp only [PyData.leavesShort, h.ls]⟩, sok_tuple h.tx⟩
theorem gd_list {n w : Nat} {ds : List D} (h : GdL n w ds) : Gd (n + 1) w (.list ds) :=
  ⟨⟨by simp only [PyData.canLay0, h.lay], by have := h.dep; simp only [PyData.depth]; omega, by simpa only [PyData.weight] using h.wt, by simp only [PyData.showable, h.sh], by simp only [PyData.leavesShort, h.ls]⟩, sok_list h.tx⟩
theorem nice_len {n w : Nat} {xs : List D} (h : Nice n w (.tuple xs)) : xs.length ≤ w := by
  have h3 := h.wt
  simp only [PyData.weight] at h3
  have k : ∀ ys : List D, ys.length ≤ PyData.weightAll ys := by
    intro ys
    induction ys with
    | nil => exact Nat.le_refl _
    | cons y ys ih => simp only [PyData.weightAll, List.length_cons]; omega
  exact Nat.le_trans (k xs) h3
theorem nice_item {n w : Nat} {xs : List D} {d : D} (h : Nice n w (.tuple xs)) (hd : d ∈ xs) : Nice n w d := by
  have h1 := h.lay; have h2 := h.dep; have h3 := h.wt; have h4 := h.sh; have h5 := h.ls
  simp only [PyData.canLay0, PyData.depth, PyData.weight, PyData.showable, PyData.leavesShort] at h1 h2 h3 h4 h5
  have k : ∀ ys : List D, d ∈ ys → PyData.canLayAll0 ys = true → PyData.showableAll ys = true → PyData.leavesShortAll 300 ys = true → Nice (PyData.depthAll ys) (PyData.weightAll ys) d := by
    intro ys
    induction ys with
    | nil => intro q; simp at q
    | cons y ys ih =>
      intro q a b c
      simp only [PyData.canLayAll0, PyData.showableAll, PyData.leavesShortAll, Bool.and_eq_true] at a b c
      simp only [PyData.depthAll, PyData.weightAll]
      rcases List.mem_cons.mp q with rfl | q
      · exact ⟨a.1, by omega, by omega, b.1, c.1⟩
      · exact (ih q a.2 b.2 c.2).mono (by omega) (by omega)
  exact (k xs hd h1 h4 h5).mono (by omega) (by omega)
theorem gd_fin {n w n' w' : Nat} {d : D} (h : Gd n w d) (hn : n ≤ n') (hw : w ≤ w') : Gd n' w' d := h.mono hn hw
theorem gdl_fin {n w n' w' : Nat} {d : List D} (h : GdL n w d) (hn : n ≤ n') (hw : w ≤ w') : GdL n' w' d := h.mono hn hw
def strCk (x : Str) : Bool := PyData.strOk x && decide (x.cps.size ≤ 40) && (x.cps.toList.all fun c => decide (c < 16 ^ 8)) && PyData.strOk (reprText x)
theorem gd_str {x : Str} (h : strCk x = true) : Gd 0 40 (.str x) := by
  unfold strCk at h
  simp only [Bool.and_eq_true, decide_eq_true_eq] at h
  obtain ⟨⟨⟨h1, h2⟩, h3⟩, h4⟩ := h
  exact ⟨⟨by simpa only [PyData.canLay0] using h1, by simp [PyData.depth], by simpa only [PyData.weight] using h2, rfl, by simpa only [PyData.leavesShort] using h3⟩, h4⟩
theorem addD_list {xs ys : List D} (h : xs.length + ys.length ≤ 1000000) : addD (.list xs) (.list ys) = some (.list (xs ++ ys)) := by
  simp only [addD]; rw [if_pos (sizeLine_lt _ (by omega))]
theorem addD_tuple {xs ys : List D} (h : xs.length + ys.length ≤ 1000000) : addD (.tuple xs) (.tuple ys) = some (.tuple (xs ++ ys)) := by
  simp only [addD]; rw [if_pos (sizeLine_lt _ (by omega))]
theorem all_nil {P : D → Prop} : ∀ x ∈ ([] : List D), P x := by simp
theorem all_cons {P : D → Prop} {d : D} {ds : List D} (h : P d) (h' : ∀ x ∈ ds, P x) : ∀ x ∈ d :: ds, P x := by
  intro x hx
  rcases List.mem_cons.mp hx with rfl | hx
  · exact h
  · exact h' x hx
theorem all_append {P : D → Prop} {xs ys : List D} (h : ∀ x ∈ xs, P x) (h' : ∀ x ∈ ys, P x) : ∀ x ∈ xs ++ ys, P x := by
  intro x hx
  rcases List.mem_append.mp hx with hx | hx
  · exact h x hx
  · exact h' x hx
def OkS (a : Option Sl) : Prop := a = none ∨ ∃ d, a = some (.im d)
theorem okS_none : OkS none := .inl rfl
theorem okS_im {d : D} : OkS (some (.im d)) := .inr ⟨d, rfl⟩
theorem ev_errX {S α : Type} {m : R S (α × S)} {a : Exn} (h : Ev m (fun _ _ => False) fun x _ => x = a) : ∃ s, m = .err a s := by
  cases m with
  | stuck => exact h.1.elim
  | ok p => exact h.1.elim
  | err x s => exact ⟨s, by rw [show x = a from h.1]⟩
section
variable {N : En → Prop} {P : D → En → Prop} {B C : En → Prop} {E : Exn → En → Prop} {Q : D → En → Prop} {env : En} {f g : EF} {i j : Nat}
theorem es_setDb (q : N (env.set j (some (.db [])))) : Es (sSetDb j env) N P B C E := ⟨q⟩
theorem es_dbsto (q : Ev (f env) (fun v e => (∃ kvs, e[i]? = some (some (.db kvs))) ∧ Ev (g e) (fun a e => ∃ kvs b, e[i]? = some (some (.db kvs)) ∧ a = .bool b ∧ kvs.length < sizeLine ∧ N (e.set i (some (.db (putB kvs b v))))) E) E) : Es (sDbSto i g f env) N P B C E := by
  unfold sDbSto
  refine es_bind (ev_imp1 q fun v e q => ?_)
  obtain ⟨⟨kvs1, h1⟩, q⟩ := q
  simp only [h1]
  refine es_bind (ev_imp1 q fun a e q => ?_)
  obtain ⟨kvs, b, he, rfl, hl, q⟩ := q
  simp only [he, hl, if_true]
  exact ⟨q⟩
theorem ev_dbvals {kvs : List (Bool × D)} (hi : env[i]? = some (some (.db kvs))) (nd : (kvs.map Prod.fst).Nodup) (hl : kvs.length < sizeLine) (q : Q (.list (kvs.map Prod.snd)) env) : Ev (fDbVals i env) Q E := by
  unfold fDbVals
  rw [hi]
  show Ev (if _ then _ else _) Q E
  rw [if_pos ⟨nd, hl⟩]
  exact ⟨q⟩
end
section
variable {N : En → Prop} {P : D → En → Prop} {B C : En → Prop} {E : Exn → En → Prop} {Q : D → En → Prop} {env : En} {f g : EF}
theorem es_raiseP {c fl : Str} (q : Ev (f env) (fun d e => E ⟨c, [(fl, d)]⟩ e) E) : Es (sRaiseP c fl f env) N P B C E := es_bind (ev_imp1 q fun _ _ q => ⟨q⟩)
theorem ev_listRg (q : Ev (g env) (fun d e => ∃ n : Int, d = .int n ∧ 0 ≤ n ∧ n ≤ 16777216 ∧ Q (.list (rangeL 0 n.toNat)) e) E) : Ev (fListRg g env) Q E := by
  refine ev_bind (ev_imp1 q fun d e q => ?_)
  obtain ⟨n, rfl, h1, h2, q⟩ := q
  show Ev (if _ then _ else _) Q E
  rw [if_pos ⟨h1, h2⟩]
  exact ⟨q⟩
end
theorem feas_has {n : Nat} {T : Int} {ts : List Tm} {h : Nat → Int} (h1 : 1 ≤ n) (ht : ∀ t ∈ ts, t.ok n) (hf : Feas (dem n T ts) h) : ∃ xs, LayOf n T ts xs := by
  let hs : List Int := (List.range n).map fun x => h x - h 0
  have get : ∀ x, x < n → hF hs x = h x - h 0 := fun x hx => by
    unfold hF
    rw [List.getD_eq_getElem?_getD, List.getElem?_map, List.getElem?_range hx]; rfl
  refine ⟨lad hs T, (feas_lay h1 ht (by simp [hs]) ?_ fun e he => ?_).1⟩
  · rw [get 0 h1]; omega
  · have k := dem_ok h1 ht he
    rw [get _ k.u, get _ k.v]
    have := hf e he
    omega
theorem F_found_bar_is {n : Nat} {T : Int} {ts : List Tm} (h1 : 1 ≤ n) (h2 : n ≤ 1000) (ht : ∀ t ∈ ts, t.ok n) (hs : ts.length ≤ 10000) :
    ∃ t, (F_found_bar [.im (rgD n ts), .im (.int T)] = .ok (.none, t) ∧ ∃ xs, LayOf n T ts xs) ∨
      ∃ us ws r, Bar n T ts us ws r ∧ Short n us ws r ∧ (∀ xs, ¬ LayOf n T ts xs) ∧ F_found_bar [.im (rgD n ts), .im (.int T)] = .ok (barD us ws r, t) := by
  obtain ⟨t, q⟩ := F_found_bar_eq (T := T) h1 h2 ht hs
  refine ⟨t, ?_⟩
  rcases q with ⟨e, h, hf⟩ | ⟨L, hL, e⟩
  · exact .inl ⟨e, feas_has h1 ht hf⟩
  · obtain ⟨us, ws, r, eb, B, S⟩ := bar_of_loop h1 ht hL
    exact .inr ⟨us, ws, r, B, S, fun xs => loop_bars h1 ht hL, by rw [e, eb]⟩
def BelowD (n : Nat) (ts : List Tm) (T : Int) (d : D) : Prop := ∃ us ws r, d = barD us ws r ∧ Short n us ws r ∧ Bar n T ts us ws r
def loOf : D → D
  | .tuple [_, _, lo, _] => lo
  | _ => .none
def hiOf : D → D
  | .tuple [_, _, _, hi] => hi
  | _ => .none
def hasH : D → Bool
  | .tuple [_, _, _, .none] => false
  | _ => true
theorem los_data (ts : List Tm) : (ts.map Tm.d).map loOf = (ts.map fun t => t.lo).map .int := by rw [List.map_map, List.map_map]; rfl
theorem his_data : ∀ ts : List Tm, ((ts.map Tm.d).filter hasH).map hiOf = (ts.filterMap fun t => t.hi).map .int
  | [] => rfl
  | t :: ts => by
    have ih := his_data ts
    rw [List.map_cons, List.filter_cons, List.filterMap_cons]
    cases h : t.hi with
    | none =>
      have e : hasH t.d = false := by unfold Tm.d oI; rw [h]; rfl
      rw [e]
      exact ih
    | some i =>
      have e : hasH t.d = true := by unfold Tm.d oI; rw [h]; rfl
      have e2 : hiOf t.d = .int i := by unfold Tm.d oI; rw [h]; rfl
      rw [e]
      simp only [if_true, List.map_cons, e2, ih]
def loS (ts : List Tm) : Int := (ts.map fun t => t.lo).sum
def hiS (ts : List Tm) : Int := (ts.filterMap fun t => t.hi).sum
theorem loS_rsum (ts : List Tm) : loS ts = rsum ts.length (loN ts) := by
  unfold loS
  have key : ∀ k, k ≤ ts.length → ((ts.take k).map fun t => t.lo).sum = rsum k (loN ts) := by
    intro k
    induction k with
    | zero => intro _; rfl
    | succ k ih =>
      intro hk
      have hk1 : k < ts.length := by omega
      rw [rsum_succ, ← ih (by omega), List.take_succ_eq_append_getElem hk1, List.map_append, List.sum_append]
      have : loN ts k = ts[k].lo := by unfold loN; rw [List.getElem?_eq_getElem hk1]
      simp [this]
  have := key ts.length (Nat.le_refl _)
  rw [List.take_length] at this
  exact this
theorem loN_nn {n : Nat} {ts : List Tm} (ht : ∀ t ∈ ts, t.ok n) (j : Nat) : 0 ≤ loN ts j := by
  unfold loN
  cases e : ts[j]? with
  | none => exact Int.le_refl _
  | some t => exact (ht t (List.mem_of_getElem? e)).lo0
theorem hiV_nn {n : Nat} {ts : List Tm} (ht : ∀ t ∈ ts, t.ok n) (j : Nat) : 0 ≤ hiV ts j := by
  unfold hiV hiN
  cases e : ts[j]? with
  | none => exact Int.le_refl _
  | some t =>
    show 0 ≤ t.hi.getD 0
    cases h : t.hi with
    | none => exact Int.le_refl _
    | some i => exact (ht t (List.mem_of_getElem? e)).hi0 i h
theorem sum_nn {us : List Nat} {f : Nat → Int} (h : ∀ j, 0 ≤ f j) : 0 ≤ (us.map f).sum := by
  induction us with
  | nil => exact Int.le_refl _
  | cons j us ih => have := h j; simp only [List.map_cons, List.sum_cons]; omega
/-- a bar that goes round is one for no total as great as all least -/
theorem up_small {n : Nat} {T : Int} {ts : List Tm} {us ws : List Nat} {r : Int} (ht : ∀ t ∈ ts, t.ok n) (B : Bar n T ts us ws r) (nd : us.Nodup) (hr : 0 < r) (hT : 0 ≤ T) : T < loS ts := by
  have m := of_decide_eq_true B.more
  have a := nodup_le nd B.up fun j _ => loN_nn ht j
  rw [← loS_rsum] at a
  have b := sum_nn (us := ws) (hiV_nn ht)
  have c : T ≤ r * T := by
    have := Int.mul_le_mul_of_nonneg_right (show (1 : Int) ≤ r by omega) hT
    omega
  omega
/-- a bar that some total has, short -/
def ShB (n : Nat) (ts : List Tm) (d : D) : Prop := ∃ us ws r T, d = barD us ws r ∧ Short n us ws r ∧ Bar n T ts us ws r
def SomeT (n : Nat) (ts : List Tm) (high : Int) (x : D) : Prop :=
  (∃ T xs, 0 ≤ T ∧ T ≤ high ∧ LayOf n T ts xs ∧ x = .tuple [.int T, .list []]) ∨
  ∃ ds : List D, 1 ≤ ds.length ∧ ds.length ≤ 2 ∧ (∀ d ∈ ds, ShB n ts d) ∧ (∀ T, 0 ≤ T → ∃ d ∈ ds, isBarB n ts T d = true) ∧ x = .tuple [.none, .list ds]
theorem mem_putB {kvs : List (Bool × D)} {k k' : Bool} {d d' : D} (h : (k', d') ∈ putB kvs k d) : (k' = k ∧ d' = d) ∨ ((k', d') ∈ kvs ∧ k' ≠ k) := by
  unfold putB at h
  split at h
  · obtain ⟨p, hp, e⟩ := List.mem_map.mp h
    split at e
    · rename_i q
      cases e
      exact .inl ⟨q, rfl⟩
    · rename_i q
      subst e
      exact .inr ⟨hp, q⟩
  · rename_i q
    rcases List.mem_append.mp h with h | h
    · refine .inr ⟨h, fun z => q ?_⟩
      exact List.any_eq_true.mpr ⟨_, h, by simpa using z⟩
    · rw [List.mem_singleton] at h
      cases h
      exact .inl ⟨rfl, rfl⟩
theorem keys_putB (kvs : List (Bool × D)) (k : Bool) (d : D) : k ∈ (putB kvs k d).map Prod.fst ∧ ∀ j, j ∈ kvs.map Prod.fst → j ∈ (putB kvs k d).map Prod.fst := by
  have km : (kvs.map fun kv => if kv.1 = k then (kv.1, d) else kv).map Prod.fst = kvs.map Prod.fst := by
    rw [List.map_map]
    apply List.map_congr_left
    intro p _
    simp only [Function.comp]
    split <;> rfl
  unfold putB
  split
  · rename_i q
    rw [km]
    obtain ⟨p, hp, e⟩ := List.any_eq_true.mp q
    exact ⟨List.mem_map.mpr ⟨p, hp, by simpa using e⟩, fun j hj => hj⟩
  · rw [List.map_append]
    exact ⟨List.mem_append.mpr (.inr (by simp)), fun j hj => List.mem_append.mpr (.inl hj)⟩
theorem nd_putB {kvs : List (Bool × D)} (k : Bool) (d : D) (h : (kvs.map Prod.fst).Nodup) : ((putB kvs k d).map Prod.fst).Nodup := by
  have km : (kvs.map fun kv => if kv.1 = k then (kv.1, d) else kv).map Prod.fst = kvs.map Prod.fst := by
    rw [List.map_map]
    apply List.map_congr_left
    intro p _
    simp only [Function.comp]
    split <;> rfl
  unfold putB
  split
  · rw [km]; exact h
  · rename_i q
    rw [List.map_append, List.map_cons, List.map_nil, List.nodup_append]
    refine ⟨h, by simp, fun a ha b hb e => q ?_⟩
    rw [List.mem_singleton] at hb
    obtain ⟨p, hp, ep⟩ := List.mem_map.mp ha
    exact List.any_eq_true.mpr ⟨p, hp, by rw [ep, e, hb]; simp⟩
theorem bool_two : ∀ {l : List Bool}, l.Nodup → l.length ≤ 2
  | [], _ => by decide
  | [_], _ => by simp
  | [_, _], _ => by simp
  | a :: b :: c :: r, h => by
    exfalso
    simp only [List.nodup_cons, List.mem_cons, not_or] at h
    obtain ⟨⟨h1, h2, _⟩, ⟨h3, _⟩, _⟩ := h
    cases a <;> cases b <;> cases c <;> simp_all
/-- what the dict of bars holds between low and high -/
structure Bars (n : Nat) (ts : List Tm) (top low high : Int) (kvs : List (Bool × D)) : Prop where
  nd : (kvs.map Prod.fst).Nodup
  l0 : 0 ≤ low
  h0 : high ≤ top
  lh : low ≤ high + 1
  sh : ∀ k d, (k, d) ∈ kvs → ∃ us ws r, d = barD us ws r ∧ Short n us ws r ∧ ((k = true ∧ 0 < r ∧ 0 < low ∧ Bar n (low - 1) ts us ws r) ∨ (k = false ∧ r < 0 ∧ Bar n (high + 1) ts us ws r))
  up : low ≠ 0 → true ∈ kvs.map Prod.fst
  dn : high ≠ top → false ∈ kvs.map Prod.fst
theorem Bars.mem {kvs : List (Bool × D)} {k : Bool} (h : k ∈ kvs.map Prod.fst) : ∃ d, (k, d) ∈ kvs := by
  obtain ⟨p, hp, rfl⟩ := List.mem_map.mp h
  exact ⟨p.2, hp⟩
theorem Bars.done {n : Nat} {ts : List Tm} {top low high : Int} {kvs : List (Bool × D)} (I : Bars n ts top low high kvs) (ht : ∀ t ∈ ts, t.ok n) (htop : loS ts < top) (h : ¬ low ≤ high) :
    (∀ d ∈ kvs.map Prod.snd, ShB n ts d) ∧ ∀ T, 0 ≤ T → ∃ d ∈ kvs.map Prod.snd, isBarB n ts T d = true := by
  have e := I.lh
  refine ⟨fun d hd => ?_, fun T hT => ?_⟩
  · obtain ⟨⟨k, d'⟩, hp, rfl⟩ := List.mem_map.mp hd
    obtain ⟨us, ws, r, e1, S, q⟩ := I.sh k d' hp
    rcases q with ⟨_, _, _, B⟩ | ⟨_, _, B⟩
    · exact ⟨us, ws, r, _, e1, S, B⟩
    · exact ⟨us, ws, r, _, e1, S, B⟩
  · by_cases q : T ≤ low - 1
    · have n0 : low ≠ 0 := by omega
      obtain ⟨d, hd⟩ := Bars.mem (I.up n0)
      obtain ⟨us, ws, r, e1, S, q2⟩ := I.sh _ d hd
      refine ⟨d, List.mem_map.mpr ⟨_, hd, rfl⟩, ?_⟩
      rcases q2 with ⟨_, r0, _, B⟩ | ⟨z, _⟩
      · rw [e1, isBarB_iff]
        exact B.at (Int.mul_le_mul_of_nonneg_left q (by omega))
      · cases z
    · by_cases w : high = top
      · exfalso
        have l0 := I.l0
        have n0 : low ≠ 0 := fun z => by
          have := sum_nn (us := List.range ts.length) (loN_nn ht)
          have e2 := loS_rsum ts
          unfold rsum at e2
          omega
        obtain ⟨d, hd⟩ := Bars.mem (I.up n0)
        obtain ⟨us, ws, r, e1, S, q2⟩ := I.sh _ d hd
        rcases q2 with ⟨_, r0, _, B⟩ | ⟨z, _⟩
        · have := up_small ht B S.ud r0 (by omega)
          omega
        · cases z
      · obtain ⟨d, hd⟩ := Bars.mem (I.dn w)
        obtain ⟨us, ws, r, e1, S, q2⟩ := I.sh _ d hd
        refine ⟨d, List.mem_map.mpr ⟨_, hd, rfl⟩, ?_⟩
        rcases q2 with ⟨z, _⟩ | ⟨_, r0, B⟩
        · cases z
        · rw [e1, isBarB_iff]
          exact B.at (Int.mul_le_mul_of_nonpos_left (by omega) (by omega))
theorem F_some_total_eq {n : Nat} {ts : List Tm} {high : Int} (h1 : 1 ≤ n) (h2 : n ≤ 1000) (ht : ∀ t ∈ ts, t.ok n) (hs : ts.length ≤ 10000) (ha : loS ts < high) (hb : high ≤ 900000000000) :
    ∃ x t, SomeT n ts high x ∧ F_some_total [.im (rgD n ts), .im (.int high)] = .ok (x, t) := by
  suffices h : Ev (F_some_total [.im (rgD n ts), .im (.int high)]) (fun x t => SomeT n ts high x) fun _ _ => False by
    obtain ⟨x, t, e, q⟩ := ev_eq h; exact ⟨x, t, q, e⟩
  have lo0 : 0 ≤ loS ts := by
    rw [loS_rsum]
    exact sum_nn (loN_nn ht)
  refine ev_fun ?_
  unfold g_some_total
  generalize hR : rgD n ts = R
  walk_at "mirn"
  refine es_setDb ?_
  let A0 : Sl := .im R
  walk_at "mirn"
  refine es_whileI (I := fun e => ∃ hi lo kvs a4 a5, Bars n ts high lo hi kvs ∧ e = [some A0, some (.im (.int hi)), some (.im (.int lo)), some (.db kvs), a4, a5, none])
    (m := fun e : En => match e[1]?, e[2]? with | some (some (Sl.im (.int hi))), some (some (Sl.im (.int lo))) => (hi - lo + 1).toNat | _, _ => 0) ?_ ⟨high, 0, [], _, _, ⟨by simp, by omega, by omega, by omega, (fun k d q => by simp at q), (fun q => absurd rfl q), fun q => absurd rfl q⟩, rfl⟩ ?_
  · rintro e ⟨hi, lo, kvs, a4, a5, I, rfl⟩
    have i1 := I.l0; have i2 := I.h0; have i3 := I.lh
    walk_at "mirn"
    refine ⟨fun q => ?_, fun q => ?_⟩
    · have q := of_decide_eq_true q
      walk_at "mirn"
      have m0 : lo ≤ (lo + hi) / 2 := by omega
      have m1 : (lo + hi) / 2 ≤ hi := by omega
      generalize (lo + hi) / 2 = T at m0 m1
      obtain ⟨t1, e1⟩ := F_found_bar_is (T := T) h1 h2 ht hs
      rw [hR] at e1
      rcases e1 with ⟨e1, xs, hx⟩ | ⟨us, ws, r, B, S, no, e1⟩
      · refine ev_of e1 ?_
        rw [back_ims rfl]
        walk_at "mir"
        exact .inl ⟨T, xs, by omega, by omega, hx, rfl⟩
      · refine ev_of e1 ?_
        rw [back_ims rfl]
        unfold barD
        refine es_seq (es_if ?_)
        walk_at "mirn"
        refine es_if ?_
        walk_at "mirn"
        refine ⟨fun r0 => ?_, fun r0 => ?_⟩
        · have r0 := of_decide_eq_true r0
          walk_at "mirn"
          refine .inr ⟨[barD us ws r], by simp, by simp, fun d hd => ?_, fun T' hT' => ⟨_, List.mem_singleton_self _, ?_⟩, rfl⟩
          · rw [List.mem_singleton] at hd
            exact ⟨us, ws, r, T, hd, S, B⟩
          · rw [isBarB_iff]
            exact B.at (by rw [r0]; simp)
        · have r0 := of_decide_eq_false r0
          walk_at "mirn"
          have km := keys_putB kvs (decide (0 < r)) (barD us ws r)
          have nd := nd_putB (decide (0 < r)) (barD us ws r) I.nd
          have lk : kvs.length ≤ 2 := by
            have := bool_two I.nd
            rw [List.length_map] at this
            exact this
          refine es_dbsto ?_
          walk_at "mirn"
          refine ⟨⟨kvs, rfl⟩, ?_⟩
          walk_at "mirn"
          refine ⟨kvs, _, rfl, rfl, Nat.lt_of_le_of_lt lk (Nat.lt_of_lt_of_le (show 2 < 5 by decide) (sizeLine_lt 5 (by decide))), ?_⟩
          refine es_asg ?_
          refine ev_if ?_
          walk_at "mirn"
          refine ⟨fun r1 => ?_, fun r1 => ?_⟩
          · have r1' := of_decide_eq_true r1
            rw [r1] at km nd ⊢
            walk_at "mirn"
            refine ⟨⟨hi, T + 1, putB kvs true (barD us ws r), _, _, ⟨nd, by omega, i2, by omega, fun k d hkd => ?_, fun _ => km.1, fun z => km.2 _ (I.dn z)⟩, rfl⟩, ?_⟩
            · rcases mem_putB hkd with ⟨rfl, rfl⟩ | ⟨old, ne⟩
              · exact ⟨us, ws, r, rfl, S, .inl ⟨rfl, r1', by omega, by rw [show T + 1 - 1 = T by omega]; exact B⟩⟩
              · obtain ⟨us', ws', r', e', S', q'⟩ := I.sh k d old
                rcases q' with ⟨rfl, _⟩ | q'
                · exact absurd rfl ne
                · exact ⟨us', ws', r', e', S', .inr q'⟩
            · show (hi - (T + 1) + 1).toNat < (hi - lo + 1).toNat
              omega
          · have r1' := of_decide_eq_false r1
            rw [r1] at km nd ⊢
            walk_at "mirn"
            refine ⟨⟨T - 1, lo, putB kvs false (barD us ws r), _, _, ⟨nd, i1, by omega, by omega, fun k d hkd => ?_, fun z => km.2 _ (I.up z), fun _ => km.1⟩, rfl⟩, ?_⟩
            · rcases mem_putB hkd with ⟨rfl, rfl⟩ | ⟨old, ne⟩
              · exact ⟨us, ws, r, rfl, S, .inr ⟨rfl, by omega, by rw [show T - 1 + 1 = T by omega]; exact B⟩⟩
              · obtain ⟨us', ws', r', e', S', q'⟩ := I.sh k d old
                rcases q' with q' | ⟨rfl, _⟩
                · exact ⟨us', ws', r', e', S', .inl q'⟩
                · exact absurd rfl ne
            · show (T - 1 - lo + 1).toNat < (hi - lo + 1).toNat
              omega
    · have q := of_decide_eq_false q
      obtain ⟨g1, g2⟩ := I.done ht ha q
      have lk : kvs.length ≤ 2 := by
        have := bool_two I.nd
        rw [List.length_map] at this
        exact this
      obtain ⟨d, hd, _⟩ := g2 0 (by decide)
      refine es_ret (ev_tup (ev_cons (ev_c (ev_cons (ev_dbvals rfl I.nd (Nat.lt_of_le_of_lt lk (Nat.lt_of_lt_of_le (show 2 < 5 by decide) (sizeLine_lt 5 (by decide)))) (ev_nil ?_))))))
      walk_at "mirn"
      exact .inr ⟨kvs.map Prod.snd, List.length_pos_of_mem hd, by rw [List.length_map]; exact lk, g1, g2, rfl⟩
  · unfold n_some_total_0
    show (high - 0 + 1).toNat < 1000000000000
    omega
theorem F_end_total_eq {n : Nat} {ts : List Tm} {inner outer : Int} (h1 : 1 ≤ n) (h2 : n ≤ 1000) (ht : ∀ t ∈ ts, t.ok n) (hs : ts.length ≤ 10000) (hI : ∃ xs, LayOf n inner ts xs) (hO : ∀ xs, ¬ LayOf n outer ts xs) (o0 : -1 ≤ outer) (b1 : inner ≤ 900000000000) (b2 : outer ≤ 900000000000) :
    ∃ t T T', F_end_total [.im (rgD n ts), .im (.int inner), .im (.int outer)] = .ok (.int T, t) ∧ (∃ xs, LayOf n T ts xs) ∧ (∀ xs, ¬ LayOf n T' ts xs) ∧
      ((outer < inner ∧ T' = T - 1 ∧ outer ≤ T' ∧ T ≤ inner) ∨ (inner < outer ∧ T' = T + 1 ∧ T' ≤ outer ∧ inner ≤ T)) := by
  suffices h : Ev (F_end_total [.im (rgD n ts), .im (.int inner), .im (.int outer)]) (fun x t => ∃ T T' : Int, x = .int T ∧ (∃ xs, LayOf n T ts xs) ∧ (∀ xs, ¬ LayOf n T' ts xs) ∧
      ((outer < inner ∧ T' = T - 1 ∧ outer ≤ T' ∧ T ≤ inner) ∨ (inner < outer ∧ T' = T + 1 ∧ T' ≤ outer ∧ inner ≤ T))) fun _ _ => False by
    obtain ⟨x, t, e, T, T', rfl, q⟩ := ev_eq h; exact ⟨t, T, T', e, q⟩
  have i0 : 0 ≤ inner := by
    obtain ⟨xs, L⟩ := hI
    have := pre_nn L.nn xs.length
    rw [pre_all, L.sum] at this
    exact this
  have ne : inner ≠ outer := fun z => by
    obtain ⟨xs, L⟩ := hI
    exact hO xs (z ▸ L)
  refine ev_fun ?_
  unfold g_end_total
  generalize hR : rgD n ts = R
  let A0 : Sl := .im R
  walk_at "mirn"
  refine es_whileI (I := fun e => ∃ i o a3, (∃ xs, LayOf n i ts xs) ∧ (∀ xs, ¬ LayOf n o ts xs) ∧ ((outer < inner ∧ outer ≤ o ∧ o < i ∧ i ≤ inner) ∨ (inner < outer ∧ inner ≤ i ∧ i < o ∧ o ≤ outer)) ∧ e = [some A0, some (.im (.int i)), some (.im (.int o)), a3])
    (m := fun e : En => match e[1]?, e[2]? with | some (some (Sl.im (.int i))), some (some (Sl.im (.int o))) => (i - o).natAbs | _, _ => 0) ?_ ⟨inner, outer, _, hI, hO, by omega, rfl⟩ ?_
  · rintro e ⟨i, o, a3, hi, ho, c, rfl⟩
    walk_at "mirn"
    refine ⟨fun q => ?_, fun q => ?_⟩
    · have q := of_decide_eq_true q
      walk_at "mirn"
      have m0 : (i < (i + o) / 2 ∧ (i + o) / 2 < o ∧ i < o) ∨ (o < (i + o) / 2 ∧ (i + o) / 2 < i ∧ o < i) := by
        split at q <;> omega
      have m1 : (i + o) / 2 ≤ 900000000000 ∧ 0 ≤ (i + o) / 2 := by omega
      generalize (i + o) / 2 = T at m0 m1
      obtain ⟨t1, e1⟩ := F_found_bar_is (T := T) h1 h2 ht hs
      rw [hR] at e1
      refine es_if ?_
      walk_at "mirn"
      rcases e1 with ⟨e1, xs, hx⟩ | ⟨us, ws, r, B, S, no, e1⟩
      · refine ev_of e1 ?_
        rw [back_ims rfl]
        walk_at "mirn"
        refine ⟨⟨T, o, _, ⟨xs, hx⟩, ho, by omega, rfl⟩, ?_⟩
        show (T - o).natAbs < (i - o).natAbs
        omega
      · refine ev_of e1 ?_
        rw [back_ims rfl]
        walk_at "mirn"
        refine ⟨⟨i, T, _, hi, no, by omega, rfl⟩, ?_⟩
        show (i - T).natAbs < (i - o).natAbs
        omega
    · have q := of_decide_eq_false q
      walk_at "mirn"
      refine ⟨i, o, rfl, hi, ho, ?_⟩
      split at q <;> omega
  · unfold n_end_total_0
    show (inner - outer).natAbs < 1000000000000
    omega
/-- the terms with a most -/
def caps (ts : List Tm) : List Nat := (List.range ts.length).filter fun j => (hiN ts j).isSome
def capAll (n : Nat) (ts : List Tm) : Bool := (List.range n).all fun q => decide (0 < covN n ts (caps ts) q)
def hasHi (ts : List Tm) : D → Bool
  | .tuple [.int k, _] => (hiN ts k.toNat).isSome
  | _ => false
def numOf : D → D
  | .tuple [k, _] => k
  | _ => .none
theorem enumL_tm (ts : List Tm) : enumL (ts.map Tm.d) = (List.range ts.length).map fun k => .tuple [.int (k : Nat), ((ts[k]?).map Tm.d).getD .none] := by
  unfold enumL
  apply List.ext_getElem
  · simp
  · intro i a b
    simp only [List.length_map, List.length_zipIdx] at a
    simp [List.getElem_zipIdx, List.getElem?_eq_getElem a]
theorem caps_data (ts : List Tm) : ((enumL (ts.map Tm.d)).filter (hasHi ts)).map numOf = (nI (caps ts)).map .int := by
  rw [enumL_tm]
  unfold caps nI
  rw [List.filter_map, List.map_map, List.map_map]
  have : (hasHi ts ∘ fun k : Nat => PyData.tuple [.int (k : Nat), ((ts[k]?).map Tm.d).getD .none]) = fun j => (hiN ts j).isSome := by
    funext k
    rfl
  rw [this]
  rfl
theorem F_is_capped_eq {n : Nat} {ts : List Tm} (h1 : 1 ≤ n) (h2 : n ≤ 1000) (ht : ∀ t ∈ ts, t.ok n) (hs : ts.length ≤ 10000) : ∃ t, F_is_capped [.im (rgD n ts)] = .ok (.bool (capAll n ts), t) := by
  suffices h : Ev (F_is_capped [.im (rgD n ts)]) (fun x t => x = .bool (capAll n ts)) fun _ _ => False by
    obtain ⟨x, t, e, rfl⟩ := ev_eq h; exact ⟨t, e⟩
  refine ev_fun ?_
  unfold g_is_capped
  unfold rgD
  generalize hN : (n : Int) = N at *
  walk_at "mirn"
  refine ev_lc (b := hasHi ts) (v := numOf) (P0 := fun _ _ => True) ?_
  walk_at "mirn"
  refine ⟨rfl, by rw [enumL_tm, List.length_map, List.length_range]; exact sizeLine_lt _ (by omega), fun d hd => ?_, ?_⟩
  · rw [enumL_tm] at hd
    obtain ⟨k, hk, rfl⟩ := List.mem_map.mp hd
    have hk := List.mem_range.mp hk
    rw [List.getElem?_eq_getElem hk]
    show EvO (tTuple 2 _ (.tuple [.int (k : Nat), (ts[k]).d]) _) _
    unfold Tm.d
    walk_at "mirn"
    cases hh : (ts[k]).hi with
    | none =>
      unfold oI
      walk_at "mirn"
      refine ⟨?_, (fun q => nomatch q), fun _ => ⟨rfl, rfl⟩⟩
      show false = (hiN ts ((k : Nat) : Int).toNat).isSome
      unfold hiN
      rw [Int.toNat_natCast, List.getElem?_eq_getElem hk]
      show false = (ts[k]).hi.isSome
      rw [hh]; rfl
    | some i =>
      unfold oI
      walk_at "mirn"
      refine ⟨?_, fun _ => ⟨rfl, rfl, rfl⟩, fun q => nomatch q⟩
      show true = (hiN ts ((k : Nat) : Int).toNat).isSome
      unfold hiN
      rw [Int.toNat_natCast, List.getElem?_eq_getElem hk]
      show true = (ts[k]).hi.isSome
      rw [hh]; rfl
  rw [caps_data]
  walk_at "mirn"
  refine ev_lcm (v := fun d => .bool (decide (0 < whlI d))) ?_
  walk_at "mirn"
  obtain ⟨t1, e1⟩ := F_counted_eq (ts := ts) (us := caps ts) h1 h2 (by rw [hN]; exact ht) (fun j hj => List.mem_range.mp (List.mem_filter.mp hj).1)
  unfold rgD at e1
  rw [hN] at e1
  refine ev_of e1 ?_
  rw [back_ims rfl]
  walk_at "mirn"
  refine ⟨rfl, by rw [cL_length]; exact sizeLine_lt _ (by omega), fun d hd => ?_, ?_⟩
  · obtain ⟨q, _, rfl⟩ := List.mem_map.mp hd
    walk_at "mirn"
    exact ⟨rfl, rfl, rfl⟩
  have e2 : (cL n (covN N ts (caps ts))).map (fun d => PyData.bool (decide (0 < whlI d))) = ((List.range n).map fun q => decide (0 < covN N ts (caps ts) q)).map .bool := by
    unfold cL
    rw [List.map_map, List.map_map]; rfl
  rw [e2]
  walk_at "mirn"
  refine ev_o (allD_list _) ?_
  unfold capAll
  rw [hN, List.all_map]
  rfl
theorem has_between {n : Nat} {ts : List Tm} {a b c : Int} {xs ys : List Int} (h1 : 1 ≤ n) (h2 : n ≤ 1000) (ht : ∀ t ∈ ts, t.ok n) (hs : ts.length ≤ 10000) (hx : LayOf n a ts xs) (hy : LayOf n c ts ys) (ab : a ≤ b) (bc : b ≤ c) : ∃ zs, LayOf n b ts zs := by
  obtain ⟨t, q⟩ := F_found_bar_is (T := b) h1 h2 ht hs
  rcases q with ⟨_, zs, h⟩ | ⟨us, ws, r, B, S, no, _⟩
  · exact ⟨zs, h⟩
  · exfalso
    by_cases hr : 0 ≤ r
    · exact bar_sound h1 (B.at (Int.mul_le_mul_of_nonneg_left ab hr)) hx
    · exact bar_sound h1 (B.at (Int.mul_le_mul_of_nonpos_left (by omega) bc)) hy
theorem caps_sum (ts : List Tm) : ((caps ts).map (hiV ts)).sum = hiS ts := by
  have key : ∀ k, k ≤ ts.length → (((List.range k).filter fun j => (hiN ts j).isSome).map (hiV ts)).sum = ((ts.take k).filterMap fun t => t.hi).sum := by
    intro k
    induction k with
    | zero => intro _; rfl
    | succ k ih =>
      intro hk
      have hk1 : k < ts.length := by omega
      have e : hiN ts k = ts[k].hi := by unfold hiN; rw [List.getElem?_eq_getElem hk1]
      rw [List.range_succ, List.filter_append, List.map_append, List.sum_append, ih (by omega), List.take_succ_eq_append_getElem hk1, List.filterMap_append, List.sum_append]
      congr 1
      rw [List.filter_cons, e]
      cases h : ts[k].hi with
      | none => simp [h]
      | some i =>
        have : hiV ts k = i := by unfold hiV; rw [e, h]; rfl
        simp [h, this]
  have := key ts.length (Nat.le_refl _)
  rw [List.take_length] at this
  exact this
theorem caps_bar {n : Nat} {T : Int} {ts : List Tm} (hc : capAll n ts = true) (hT : hiS ts < T) : Bar n T ts [] (caps ts) (-1) := by
  refine ⟨by simp, fun j hj => List.mem_range.mp (List.mem_filter.mp hj).1, rfl, ?_, ?_, ?_, ?_⟩
  · refine ascB_of ?_
    unfold nI
    refine List.pairwise_map.mpr ?_
    refine (List.Pairwise.imp ?_ ((List.pairwise_lt_range (n := ts.length)).sublist (List.filter_sublist (p := fun j => (hiN ts j).isSome))))
    intro a b h
    show (a : Int) ≤ (b : Int)
    omega
  · exact List.all_eq_true.mpr fun j hj => (List.mem_filter.mp hj).2
  · refine List.all_eq_true.mpr fun q hq => decide_eq_true ?_
    have := of_decide_eq_true (List.all_eq_true.mp hc q hq)
    have e : covN n ts [] q = 0 := rfl
    omega
  · refine decide_eq_true ?_
    rw [caps_sum]
    simp only [List.map_nil, List.sum_nil]
    omega
theorem cntP_nn (ps : List Int) (q : Nat) : 0 ≤ cntP ps q := Int.natCast_nonneg _
theorem covT_nn (m : Int) (ts : List Tm) (q j : Nat) : 0 ≤ covT m ts q j := by
  unfold covT
  split
  · exact cntP_nn _ _
  · exact Int.le_refl _
theorem set_rsum {n q : Nat} {xs : List Int} {d : Int} (f : Nat → Int) (hx : xs.length = n) (hq : q < n) : rsum n (fun p => (xs.set q (xs.getD q 0 + d)).getD p 0 * f p) = rsum n (fun p => xs.getD p 0 * f p) + d * f q := by
  have e : rsum n (fun p => (xs.set q (xs.getD q 0 + d)).getD p 0 * f p) = rsum n (fun p => xs.getD p 0 * f p) + rsum n (fun p => d * f p * (if q = p then 1 else 0)) := by
    rw [← rsum_add]
    refine rsum_congr fun p hp => ?_
    by_cases z : q = p
    · subst z
      rw [if_pos rfl, List.getD_eq_getElem?_getD, List.getElem?_set_self (by omega), Option.getD_some, Int.add_mul, Int.mul_one]
    · rw [if_neg z, Int.mul_zero, List.getD_eq_getElem?_getD, List.getElem?_set_ne z, ← List.getD_eq_getElem?_getD]; omega
  rw [e, rsum_one (fun p => d * f p) hq]
/-- a place that no most holds takes any number more -/
theorem open_place {n : Nat} {ts : List Tm} {T d : Int} {xs : List Int} (h1 : 1 ≤ n) (hc : capAll n ts = false) (hd : 0 ≤ d) (L : LayOf n T ts xs) : ∃ ys, LayOf n (T + d) ts ys := by
  unfold capAll at hc
  rw [List.all_eq_false] at hc
  obtain ⟨q, hq, hc⟩ := hc
  have hq := List.mem_range.mp hq
  have hc : ¬ 0 < covN n ts (caps ts) q := by simpa using hc
  have zero : ∀ us : List Nat, covN n ts us q ≤ 0 → ∀ j ∈ us, covT n ts q j = 0 := by
    intro us
    induction us with
    | nil => intro _ j hj; simp at hj
    | cons i us ih =>
      intro h j hj
      rw [covN_cons] at h
      have a := covT_nn n ts q i
      have b : 0 ≤ covN n ts us q := by
        unfold covN
        exact sum_nn fun j => covT_nn n ts q j
      rcases List.mem_cons.mp hj with rfl | hj
      · omega
      · exact ih (by omega) j hj
  have ln : (xs.set q (xs.getD q 0 + d)).length = n := by rw [List.length_set]; exact L.len
  refine ⟨xs.set q (xs.getD q 0 + d), ln, fun x hx => ?_, ?_, fun t tm => ?_⟩
  · rcases List.mem_or_eq_of_mem_set hx with hx | rfl
    · exact L.nn x hx
    · have := getD_nn L.nn q
      omega
  · have a := sum_rsum ln
    have b := sum_rsum L.len
    have c := set_rsum (d := d) (fun _ => 1) L.len hq
    simp only [Int.mul_one] at c
    rw [a, c, ← b, L.sum]
  · obtain ⟨j, hj, rfl⟩ := List.getElem_of_mem tm
    have hj2 : ts[j]? = some ts[j] := List.getElem?_eq_getElem hj
    generalize ts[j] = t at hj2 tm
    have a := (badT_iff _ _).mp (L.hold t tm)
    have e1 : covT n ts q j = cntP (plc n t.s t.l) q := by unfold covT; rw [hj2]
    have e2 := set_rsum (d := d) (fun p => cntP (plc n t.s t.l) p) L.len hq
    rw [badT_iff, stn_rsum ln h1, e2, ← stn_rsum L.len h1, ← e1]
    refine ⟨?_, fun i hi => ?_⟩
    · have := Int.mul_nonneg hd (covT_nn n ts q j)
      omega
    · have jc : j ∈ caps ts := by
        refine List.mem_filter.mpr ⟨List.mem_range.mpr hj, ?_⟩
        unfold hiN
        rw [hj2]
        show t.hi.isSome = true
        rw [hi]; rfl
      rw [zero _ (by omega) j jc, Int.mul_zero]
      have := a.2 i hi
      omega
/-- what totals tells -/
structure Ends3 (n : Nat) (ts : List Tm) (least : Int) (great : Option Int) : Prop where
  l0 : 0 ≤ least
  has : ∃ xs, LayOf n least ts xs
  low : ∀ T xs, LayOf n T ts xs → least ≤ T
  up : ∀ g, great = some g → least ≤ g ∧ ∀ T xs, LayOf n T ts xs → T ≤ g
  all : ∀ T, least ≤ T → (∀ g, great = some g → T ≤ g) → ∃ xs, LayOf n T ts xs
  top : least ≤ loS ts + hiS ts + 1 ∧ ∀ g, great = some g → g ≤ loS ts + hiS ts + 1
def TotD (n : Nat) (ts : List Tm) (x : D) : Prop :=
  (∃ least great b a, Ends3 n ts least great ∧ ((least = 0 ∧ b = .none) ∨ (0 < least ∧ BelowD n ts (least - 1) b)) ∧ ((great = none ∧ a = .none) ∨ ∃ g, great = some g ∧ BelowD n ts (g + 1) a) ∧ x = .tuple [.str "totals", .int least, oI great, b, a]) ∨
  ∃ ds : List D, 1 ≤ ds.length ∧ ds.length ≤ 2 ∧ (∀ d ∈ ds, ShB n ts d) ∧ (∀ T, 0 ≤ T → ∃ d ∈ ds, isBarB n ts T d = true) ∧ x = .tuple [.str "barred", .list ds]
theorem no_minus {n : Nat} {ts : List Tm} {xs : List Int} : ¬ LayOf n (-1) ts xs := fun L => by
  have := pre_nn L.nn xs.length
  rw [pre_all, L.sum] at this
  omega
theorem F_totals_eq {n : Nat} {ts : List Tm} (h1 : 1 ≤ n) (h2 : n ≤ 40) (ht : ∀ t ∈ ts, t.ok n) (hs : ts.length ≤ 10000) (hb : loS ts + hiS ts ≤ 800000000000) :
    ∃ x t, TotD n ts x ∧ F_totals [.im (rgD n ts)] = .ok (x, t) := by
  suffices h : Ev (F_totals [.im (rgD n ts)]) (fun x t => TotD n ts x) fun _ _ => False by
    obtain ⟨x, t, e, q⟩ := ev_eq h; exact ⟨x, t, q, e⟩
  have lo0 : 0 ≤ loS ts := by
    rw [loS_rsum]
    exact sum_nn (loN_nn ht)
  have hi0 : 0 ≤ hiS ts := by
    rw [← caps_sum]
    exact sum_nn (hiV_nn ht)
  refine ev_fun ?_
  unfold g_totals
  walk_at "mirn"
  refine ev_of (F_look_at_ring_ok (short_of (by omega)) (ringD_ok (by omega) (by omega) ht)) ?_
  rw [back_ims rfl]
  obtain ⟨x1, t1, hx1, e1⟩ := F_some_total_eq (high := loS ts + hiS ts + 1) h1 (by omega) ht hs (by omega) (by omega)
  have eE := fun (i o : Int) a b c d e => F_end_total_eq (n := n) (ts := ts) (inner := i) (outer := o) h1 (by omega) ht hs a b c d e
  obtain ⟨t3, e3⟩ := F_is_capped_eq (n := n) (ts := ts) h1 (by omega) ht hs
  have eB := fun (T : Int) => F_found_bar_is (n := n) (T := T) (ts := ts) h1 (by omega) ht hs
  have hR : rgD n ts = .tuple [.int n, .tuple (ts.map Tm.d)] := rfl
  generalize hRR : rgD n ts = R at *
  have hix : ixD R (.int 1) = some (.tuple (ts.map Tm.d)) := by rw [hR]; rfl
  walk_at "mirn"
  refine ev_lcm (v := loOf) ?_
  refine ev_items (ev_op (ev_var rfl (ev_c (ev_o hix ?_))))
  walk_at "mirn"
  refine ⟨rfl, by rw [List.length_map]; exact sizeLine_lt _ (by omega), fun d hd => ?_, ?_⟩
  · obtain ⟨t, tm, rfl⟩ := List.mem_map.mp hd
    unfold Tm.d
    walk_at "mirn"
    exact ⟨rfl, rfl, rfl⟩
  rw [los_data]
  walk_at "mirn"
  refine ev_o (sumD_ints _) ?_
  walk_at "mirn"
  refine ev_lc (b := hasH) (v := hiOf) (P0 := fun _ _ => True) ?_
  refine ev_items (ev_op (ev_var rfl (ev_c (ev_o hix ?_))))
  walk_at "mirn"
  refine ⟨rfl, by rw [List.length_map]; exact sizeLine_lt _ (by omega), fun d hd => ?_, ?_⟩
  · obtain ⟨t, tm, rfl⟩ := List.mem_map.mp hd
    unfold Tm.d
    cases t.hi with
    | none =>
      unfold oI
      walk_at "mirn"
      exact ⟨rfl, (fun q => nomatch q), fun _ => ⟨rfl, rfl⟩⟩
    | some i =>
      unfold oI
      walk_at "mirn"
      exact ⟨rfl, fun _ => ⟨rfl, rfl, rfl⟩, fun q => nomatch q⟩
  rw [his_data]
  walk_at "mirn"
  refine ev_o (sumD_ints _) ?_
  walk_at "mirn"
  show Ev (F_some_total [.im R, .im (.int (loS ts + hiS ts + 1))]) _ _
  refine ev_of e1 ?_
  rw [back_ims rfl]
  rcases hx1 with ⟨T, xs, T0, T1, L, rfl⟩ | ⟨ds, d1, d2, d3, d4, rfl⟩
  · walk_at "mirn"
    refine es_if ?_
    walk_at "mirn"
    obtain ⟨t4, lst, bel, e4, hl, nb, c4⟩ := eE T (-1) ⟨xs, L⟩ (fun _ => no_minus) (by decide) (by omega) (by decide)
    refine ev_of e4 ?_
    rw [back_ims rfl]
    walk_at "mirn"
    have c4 : bel = lst - 1 ∧ lst ≤ T := by omega
    obtain ⟨rfl, c4⟩ := c4
    have l0 : 0 ≤ lst := by
      obtain ⟨ys, M⟩ := hl
      have := pre_nn M.nn ys.length
      rw [pre_all, M.sum] at this
      exact this
    have low : ∀ T' xs', LayOf n T' ts xs' → lst ≤ T' := by
      intro T' xs' M
      apply Int.not_lt.mp
      intro z
      obtain ⟨zs, N⟩ := has_between h1 (by omega) ht hs M L (show T' ≤ lst - 1 by omega) (by omega)
      exact nb _ N
    have below : ∃ b, ((lst = 0 ∧ b = PyData.none) ∨ (0 < lst ∧ BelowD n ts (lst - 1) b)) ∧ ((0 < lst → ∃ t, F_found_bar [.im R, .im (.int (lst - 1))] = .ok (b, t)) ∧ (¬ 0 < lst → b = .none)) := by
      by_cases z : 0 < lst
      · obtain ⟨t5, e5⟩ := eB (lst - 1)
        rcases e5 with ⟨_, ys, M⟩ | ⟨us, ws, r, B, S, _, e5⟩
        · exact absurd M (nb _)
        · exact ⟨barD us ws r, .inr ⟨z, us, ws, r, rfl, S, B⟩, fun _ => ⟨t5, e5⟩, fun w => absurd z w⟩
      · exact ⟨.none, .inl ⟨by omega, rfl⟩, fun w => absurd w z, fun _ => rfl⟩
    obtain ⟨b, hb1, hb2, hb3⟩ := below
    refine ev_of e3 ?_
    rw [back_ims rfl]
    walk_at "mirn"
    have fin : ∀ (great : Option Int) (a : D), Ends3 n ts lst great → ((great = none ∧ a = .none) ∨ ∃ g, great = some g ∧ BelowD n ts (g + 1) a) → TotD n ts (.tuple [.str "totals", .int lst, oI great, b, a]) :=
      fun great a E q => .inl ⟨lst, great, b, a, E, hb1, q, rfl⟩
    refine ⟨fun hc => ?_, fun hc => ?_⟩
    · have nO : ∀ ys, ¬ LayOf n (loS ts + hiS ts + 1 + 1) ts ys := fun ys M => bar_sound h1 (caps_bar hc (by omega)) M
      obtain ⟨t6, grt, abv, e6, hg, na, c6⟩ := eE T (loS ts + hiS ts + 1 + 1) ⟨xs, L⟩ nO (by omega) (by omega) (by omega)
      walk_at "mirn"
      refine ev_of e6 ?_
      rw [back_ims rfl]
      walk_at "mirn"
      have c6 : abv = grt + 1 ∧ T ≤ grt ∧ grt + 1 ≤ loS ts + hiS ts + 1 + 1 := by omega
      obtain ⟨rfl, c6, c7⟩ := c6
      have up : ∀ T' xs', LayOf n T' ts xs' → T' ≤ grt := by
        intro T' xs' M
        apply Int.not_lt.mp
        intro z
        obtain ⟨zs, N⟩ := has_between h1 (by omega) ht hs L M (show T ≤ grt + 1 by omega) (by omega)
        exact na _ N
      have E : Ends3 n ts lst (some grt) := ⟨l0, hl, low, (fun g q => by cases q; exact ⟨by omega, up⟩), fun T' a b' => by
        obtain ⟨ys, M⟩ := hl
        obtain ⟨zs, N⟩ := hg
        exact has_between h1 (by omega) ht hs M N a (b' _ rfl), by omega, fun g q => by cases q; omega⟩
      obtain ⟨t8, e8⟩ := eB (grt + 1)
      rcases e8 with ⟨_, ys, M⟩ | ⟨us, ws, r, B, S, _, e8⟩
      · exact absurd M (na _)
      have F := fin (some grt) (barD us ws r) E (.inr ⟨grt, rfl, us, ws, r, rfl, S, B⟩)
      refine ⟨fun z => ?_, fun z => ?_⟩
      · obtain ⟨t7, e7⟩ := hb2 (of_decide_eq_true z)
        walk_at "mirn"
        refine ev_of e7 ?_
        rw [back_ims rfl]
        walk_at "mirn"
        refine ev_of e8 ?_
        rw [back_ims rfl]
        walk_at "mirn"
        exact F
      · have e7 := hb3 (of_decide_eq_false z)
        subst e7
        walk_at "mirn"
        refine ev_of e8 ?_
        rw [back_ims rfl]
        walk_at "mirn"
        exact F
    · have E : Ends3 n ts lst none := ⟨l0, hl, low, (fun g q => nomatch q), fun T' a b' => by
        obtain ⟨ys, M⟩ := hl
        obtain ⟨zs, N⟩ := open_place (d := T' - lst) h1 hc (by omega) M
        rw [show lst + (T' - lst) = T' by omega] at N
        exact ⟨zs, N⟩, by omega, fun g q => nomatch q⟩
      have F := fin none .none E (.inl ⟨rfl, rfl⟩)
      walk_at "mirn"
      refine ⟨fun z => ?_, fun z => ?_⟩
      · obtain ⟨t7, e7⟩ := hb2 (of_decide_eq_true z)
        walk_at "mirn"
        refine ev_of e7 ?_
        rw [back_ims rfl]
        walk_at "mirn"
        exact F
      · have e7 := hb3 (of_decide_eq_false z)
        subst e7
        walk_at "mirn"
        exact F
  · walk_at "mirn"
    refine es_if ?_
    walk_at "mirn"
    exact .inr ⟨ds, d1, d2, d3, d4, rfl⟩
theorem way_at {n p : Nat} (T : Int) (ts : List Tm) (h1 : 1 ≤ n) (hp : p < n) : Way (dem n T ts) n p fun t => (p + t) % n where
  zero := Nat.mod_eq_of_lt hp
  lt := fun t => Nat.mod_lt _ (by omega)
  step := fun t ht => by
    obtain ⟨e, he, eu, ev⟩ := dem_place (T := T) (ts := ts) (Nat.mod_lt (p + t) (show 0 < n by omega))
    refine ⟨e, he, eu, ?_⟩
    rw [ev, Nat.mod_add_mod, Nat.add_assoc]
  all := fun x hx => by
    by_cases q : p ≤ x
    · exact ⟨x - p, by omega, by rw [show p + (x - p) = x by omega]; exact Nat.mod_eq_of_lt hx⟩
    · refine ⟨x + n - p, by omega, ?_⟩
      rw [show p + (x + n - p) = x + n by omega, Nat.add_mod_right]
      exact Nat.mod_eq_of_lt hx
/-- heights from any place, as a laying -/
theorem hts_lay {n p : Nat} {T : Int} {ts : List Tm} {hs : List Int} (h1 : 1 ≤ n) (ht : ∀ t ∈ ts, t.ok n) (H : Hts (dem n T ts) n p hs) : ∃ xs, LayOf n T ts xs ∧ ∀ k, k < n → pre xs k = hF hs k - hF hs 0 := by
  let gs : List Int := hs.map fun i => i - hF hs 0
  have get : ∀ k, k < n → hF gs k = hF hs k - hF hs 0 := fun k hk => by
    have hk' : k < hs.length := by rw [H.len]; exact hk
    have e : hs[k]? = some hs[k] := List.getElem?_eq_getElem hk'
    show (hs.map fun i => i - hF hs 0).getD k 0 = hs.getD k 0 - hF hs 0
    rw [List.getD_eq_getElem?_getD, List.getElem?_map, e, List.getD_eq_getElem?_getD, e]; rfl
  obtain ⟨A, pa⟩ := feas_lay (hs := gs) (T := T) (ts := ts) h1 ht (by simp [gs, H.len]) (by rw [get 0 h1]; omega) fun e he => by
    have k := dem_ok h1 ht he
    rw [get _ k.u, get _ k.v]
    have := H.feas e he
    omega
  exact ⟨_, A, fun k hk => by rw [pa k hk, get k hk]⟩
/-- the least and the greatest number of stones in a stretch -/
structure Span (n : Nat) (T : Int) (ts : List Tm) (f l a b : Int) : Prop where
  lo : ∀ xs, LayOf n T ts xs → a ≤ stn xs f l ∧ stn xs f l ≤ b
  at_lo : ∃ xs, LayOf n T ts xs ∧ stn xs f l = a
  at_hi : ∃ xs, LayOf n T ts xs ∧ stn xs f l = b
theorem stn_fl {n : Nat} {xs : List Int} {f l : Int} (hx : xs.length = n) (h1 : 1 ≤ n) (f0 : 0 ≤ f) (f1 : f < n) (l0 : 1 ≤ l) (l1 : l ≤ n) :
    stn xs f l = pre xs ((f.toNat + l.toNat) % n) + ((f.toNat + l.toNat) / n : Nat) * xs.sum - pre xs f.toNat :=
  stn_pre (t := ⟨f, l, 0, none⟩) hx h1 ⟨f0, f1, l0, l1, Int.le_refl _, fun _ q => nomatch q⟩
theorem F_found_span_eq {n : Nat} {T : Int} {ts : List Tm} {f l : Int} (h1 : 1 ≤ n) (h2 : n ≤ 40) (ht : ∀ t ∈ ts, t.ok n) (hs : ts.length ≤ 10000) (f0 : 0 ≤ f) (f1 : f < n) (l0 : 1 ≤ l) (l1 : l ≤ n) (hL : ∃ xs, LayOf n T ts xs) :
    ∃ a b t, Span n T ts f l a b ∧ F_found_span [.im (rgD n ts), .im (.int T), .im (.int f), .im (.int l)] = .ok (.tuple [.int a, .int b], t) := by
  suffices h : Ev (F_found_span [.im (rgD n ts), .im (.int T), .im (.int f), .im (.int l)]) (fun x t => ∃ a b, Span n T ts f l a b ∧ x = .tuple [.int a, .int b]) fun _ _ => False by
    obtain ⟨x, t, e, a, b, S, rfl⟩ := ev_eq h; exact ⟨a, b, t, S, e⟩
  obtain ⟨F, hF⟩ : ∃ F : Nat, f = F := ⟨f.toNat, by omega⟩
  obtain ⟨L, hL2⟩ : ∃ L : Nat, l = L := ⟨l.toNat, by omega⟩
  have F1 : F < n := by omega
  have dl := dem_length n T ts
  have dok : ∀ e ∈ dem n T ts, e.u < n ∧ e.v < n := fun e he => ⟨(dem_ok h1 ht he).u, (dem_ok h1 ht he).v⟩
  have mulb : n * (dem n T ts).length ≤ 1000000 := Nat.le_trans (Nat.mul_le_mul h2 dl) (by omega)
  obtain ⟨ys, M⟩ := hL
  have hφ := M.feas h1 ht
  have V1 : (F + L) % n < n := Nat.mod_lt _ (by omega)
  have eV : (f + l) % (n : Int) = (((F + L) % n : Nat) : Int) := by
    rw [show f + l = ((F + L : Nat) : Int) by omega]; exact (Int.natCast_emod _ _).symm
  have eR : (f + l) / (n : Int) = (((F + L) / n : Nat) : Int) := by
    rw [show f + l = ((F + L : Nat) : Int) by omega]; exact (Int.natCast_ediv _ _).symm
  have R1 : (F + L) / n ≤ 2 := by
    have : (F + L) / n ≤ (n * 2) / n := Nat.div_le_div_right (by omega)
    rw [Nat.mul_div_cancel_left _ (by omega)] at this
    exact this
  obtain ⟨t1, e1⟩ := F_demands_eq (T := T) h1 (by omega) ht hs
  obtain ⟨hs1, t2, H, e2⟩ := F_heights_from_eq (p := F) h1 (by omega) mulb (by omega) F1 dok hφ (way_at T ts h1 F1)
  obtain ⟨hs2, t3, G, e3⟩ := F_heights_from_eq (p := (F + L) % n) h1 (by omega) mulb (by omega) V1 dok hφ (way_at T ts h1 V1)
  have stn_eq : ∀ xs, LayOf n T ts xs → stn xs f l = pre xs ((F + L) % n) + ((F + L) / n : Nat) * T - pre xs F := fun xs X => by
    have := stn_fl (f := f) (l := l) X.len h1 f0 f1 l0 l1
    rw [X.sum, show f.toNat = F by omega, show l.toNat = L by omega] at this
    exact this
  have S : Span n T ts f l (DL.hF hs1 ((F + L) % n) + ((F + L) / n : Nat) * T) (((F + L) / n : Nat) * T - DL.hF hs2 F) := by
    refine ⟨fun xs X => ?_, ?_, ?_⟩
    · have a := H.low _ (X.feas h1 ht) _ V1
      have b := G.low _ (X.feas h1 ht) _ F1
      rw [stn_eq xs X]
      omega
    · obtain ⟨xs, X, px⟩ := hts_lay h1 ht H
      refine ⟨xs, X, ?_⟩
      have := H.home
      rw [stn_eq xs X, px _ V1, px _ F1]
      omega
    · obtain ⟨xs, X, px⟩ := hts_lay h1 ht G
      refine ⟨xs, X, ?_⟩
      have := G.home
      rw [stn_eq xs X, px _ V1, px _ F1]
      omega
  refine ev_fun ?_
  unfold g_found_span
  have hix : ixD (rgD n ts) (.int 0) = some (.int n) := rfl
  generalize rgD n ts = R at *
  generalize hN : (n : Int) = N at *
  refine es_seq (es_set (ev_op (ev_var rfl (ev_c (ev_o hix ?_)))))
  walk_at "mirn"
  rw [← hF] at e2
  rw [eV, eR]
  generalize hV : (F + L) % n = V at *
  generalize hQ : (F + L) / n = Q at *
  refine ev_of e1 ?_
  rw [back_ims rfl]
  walk_at "mirn"
  refine ev_of e2 ?_
  rw [back_ims rfl]
  walk_at "mirn"
  refine ev_o (atI_h (by rw [H.len]; exact V1)) ?_
  walk_at "mirn"
  refine ev_of e3 ?_
  rw [back_ims rfl]
  walk_at "mirn"
  refine ev_o (r := .int (DL.hF hs2 F)) (by rw [hF]; exact atI_h (by rw [G.len]; exact F1)) ?_
  walk_at "mirn"
  exact ⟨_, _, S, rfl⟩
def Ndl (n : Nat) (T : Int) (rest : List Tm) (t : Tm) : Prop := ∀ xs, LayOf n T rest xs → badT t (stn xs t.s t.l) = false
theorem F_is_needless_eq {n : Nat} {T : Int} {ts : List Tm} {t : Tm} {X : D} (h1 : 1 ≤ n) (h2 : n ≤ 40) (ht : ∀ t ∈ ts, t.ok n) (hs : ts.length ≤ 10000) (tok : t.ok n) (hX : X = .list (ts.map Tm.d) ∨ X = .tuple (ts.map Tm.d)) :
    ∃ b s, (b = true ↔ Ndl n T ts t) ∧ F_is_needless [.im (.int n), .im (.int T), .im X, .im t.d] = .ok (.bool b, s) := by
  suffices h : Ev (F_is_needless [.im (.int n), .im (.int T), .im X, .im t.d]) (fun x s => ∃ b, (b = true ↔ Ndl n T ts t) ∧ x = .bool b) fun _ _ => False by
    obtain ⟨x, s, e, b, q, rfl⟩ := ev_eq h; exact ⟨b, s, q, e⟩
  obtain ⟨t1, e1⟩ := F_found_bar_is (n := n) (T := T) (ts := ts) h1 (by omega) ht hs
  have htup : tupleD [X] = some (.tuple (ts.map Tm.d)) := by rcases hX with rfl | rfl <;> rfl
  refine ev_fun ?_
  unfold g_is_needless
  refine es_seq (es_set (ev_tup (ev_cons (ev_var rfl (ev_cons (ev_ca (ev_cons (ev_var rfl (ev_nil (ev_o htup ?_)))))))))) 
  walk_at "mirn"
  refine es_if ?_
  walk_at "mirn"
  show Ev (F_found_bar [.im (rgD n ts), .im (.int T)]) _ _
  rcases e1 with ⟨e1, hL⟩ | ⟨us, ws, r, B, S, no, e1⟩
  · obtain ⟨a, b, t2, S, e2⟩ := F_found_span_eq (n := n) (T := T) (ts := ts) (f := t.s) (l := t.l) h1 h2 ht hs tok.s0 tok.s1 tok.l0 tok.l1 hL
    refine ev_of e1 ?_
    rw [back_ims rfl]
    unfold Tm.d
    walk_at "mirn"
    show Ev (F_found_span [.im (rgD n ts), .im (.int T), .im (.int t.s), .im (.int t.l)]) _ _
    refine ev_of e2 ?_
    rw [back_ims rfl]
    walk_at "mirn"
    have lo_iff : decide (t.lo ≤ a) = true ↔ ∀ xs, LayOf n T ts xs → t.lo ≤ stn xs t.s t.l := by
      rw [decide_eq_true_eq]
      constructor
      · intro q xs X
        have := (S.lo xs X).1
        omega
      · intro q
        obtain ⟨xs, X, e⟩ := S.at_lo
        have := q xs X
        omega
    refine ⟨fun q => ?_, fun q => ?_⟩
    · have ql := lo_iff.mp q
      cases hh : t.hi with
      | none =>
        unfold oI
        walk_at "mirn"
        refine ⟨true, ⟨fun _ xs X => ?_, fun _ => rfl⟩, rfl⟩
        rw [badT_iff]
        exact ⟨ql xs X, fun i hi => by rw [hh] at hi; cases hi⟩
      | some i =>
        unfold oI
        walk_at "mirn"
        refine ⟨decide (b ≤ i), ?_, rfl⟩
        rw [decide_eq_true_eq]
        constructor
        · intro q2 xs X
          rw [badT_iff]
          refine ⟨ql xs X, fun j hj => ?_⟩
          rw [hh] at hj
          cases hj
          have := (S.lo xs X).2
          omega
        · intro q2
          obtain ⟨xs, X, e⟩ := S.at_hi
          have := ((badT_iff _ _).mp (q2 xs X)).2 i hh
          omega
    · refine ⟨false, ⟨(fun z => nomatch z), fun z => ?_⟩, rfl⟩
      exfalso
      have : decide (t.lo ≤ a) = true := lo_iff.mpr fun xs X => ((badT_iff _ _).mp (z xs X)).1
      rw [q] at this
      cases this
  · refine ev_of e1 ?_
    rw [back_ims rfl]
    unfold barD
    walk_at "mirn"
    exact ⟨true, ⟨fun _ xs X => absurd X (no xs), fun _ => rfl⟩, rfl⟩
/-- the terms but one -/
def butT (ts : List Tm) (j : Nat) : List Tm := ts.take j ++ ts.drop (j + 1)
theorem cut_take (ds : List D) (k : Nat) (h : k ≤ ds.length) : cutD ds none (some (k : Int)) = ds.take k := by
  have h0 : ¬ ((k : Int) < 0) := by omega
  unfold cutD HT.sIx
  simp only [h0, if_false, Int.toNat_natCast]
  simp
  try omega
theorem cut_drop (ds : List D) (k : Nat) (h : k ≤ ds.length) : cutD ds (some (k : Int)) none = ds.drop k := by
  have h0 : ¬ ((k : Int) < 0) := by omega
  unfold cutD HT.sIx
  simp only [h0, if_false, Int.toNat_natCast]
  rw [List.take_of_length_le (by rw [List.length_drop]; omega)]
  congr 1
  try omega
theorem F_needless_eq {n : Nat} {T : Int} {ts : List Tm} (h1 : 1 ≤ n) (h2 : n ≤ 40) (ht : ∀ t ∈ ts, t.ok n) (hs : ts.length ≤ 10000) (hT : 0 ≤ T) :
    ∃ us t, (∀ j, j ∈ us ↔ ∃ t, ts[j]? = some t ∧ Ndl n T (butT ts j) t) ∧ us.Pairwise (· < ·) ∧ F_needless [.im (rgD n ts), .im (.int T)] = .ok (.list ((nI us).map .int), t) := by
  suffices h : Ev (F_needless [.im (rgD n ts), .im (.int T)]) (fun x s => ∃ us : List Nat, (∀ j, j ∈ us ↔ ∃ t, ts[j]? = some t ∧ Ndl n T (butT ts j) t) ∧ us.Pairwise (· < ·) ∧ x = .list ((nI us).map .int)) fun _ _ => False by
    obtain ⟨x, s, e, us, q, q2, rfl⟩ := ev_eq h; exact ⟨us, s, q, q2, e⟩
  refine ev_fun ?_
  unfold g_needless
  walk_at "mirn"
  refine ev_of (F_look_at_ring_ok (short_of (by omega)) (ringD_ok (by omega) (by omega) ht)) ?_
  rw [back_ims rfl]
  walk_at "mirn"
  refine ev_of (F_look_at_total_ok (by simp [fromD, hT])) ?_
  rw [back_ims rfl]
  unfold rgD
  walk_at "mirn"
  let A0 : Sl := .im (.tuple [.int n, .tuple (ts.map Tm.d)])
  let A1 : Sl := .im (.int T)
  refine es_forK (fun k e => ∃ (us : List Nat) (a3 a4 : Option Sl), (∀ j, j ∈ us ↔ j < k ∧ ∃ t, ts[j]? = some t ∧ Ndl n T (butT ts j) t) ∧ us.Pairwise (· < ·) ∧ us.length ≤ k ∧ e = [some A0, some A1, some (.ow ((nI us).map .int)), a3, a4]) ⟨[], _, _, by simp, .nil, by simp, rfl⟩ ?_ ?_
  · rintro k d e hk ⟨us, a3, a4, hu, hp, hl, rfl⟩
    obtain ⟨t0, hk0, rfl⟩ := enumL_get hk
    clear hk
    rw [List.getElem?_map, Option.map_eq_some_iff] at hk0
    obtain ⟨t, hk, rfl⟩ := hk0
    have hk1 := (List.getElem?_eq_some_iff.mp hk).1
    have tok := ht t (List.mem_of_getElem? hk)
    have bl : (butT ts k).length ≤ 10000 := by unfold butT; rw [List.length_append, List.length_take, List.length_drop]; omega
    have bok : ∀ t ∈ butT ts k, t.ok n := fun t q => by
      rcases List.mem_append.mp q with q | q
      · exact ht t (List.mem_of_mem_take q)
      · exact ht t (List.mem_of_mem_drop q)
    obtain ⟨b, s, hb, e1⟩ := F_is_needless_eq (T := T) h1 h2 bok bl tok (.inr rfl)
    have cut : cutD (ts.map Tm.d) none (some (k : Int)) ++ cutD (ts.map Tm.d) (some ((k : Int) + 1)) none = (butT ts k).map Tm.d := by
      rw [cut_take _ _ (by rw [List.length_map]; omega), show (k : Int) + 1 = ((k + 1 : Nat) : Int) by omega, cut_drop _ _ (by rw [List.length_map]; omega)]
      unfold butT
      rw [List.map_append, List.map_take, List.map_drop]
    have cl : (cutD (ts.map Tm.d) none (some (k : Int))).length + (cutD (ts.map Tm.d) (some ((k : Int) + 1)) none).length ≤ 1000000 := by
      rw [← List.length_append, cut, List.length_map]; omega
    show EvO (tTuple 2 _ (.tuple [.int (k : Nat), t.d]) _) _
    generalize t.d = td at *
    walk_at "mirn"
    refine es_if ?_
    walk_at "mirn"
    refine ev_o (addD_tuple cl) ?_
    rw [cut]
    walk_at "mirn"
    refine ev_of e1 ?_
    rw [back_ims rfl]
    walk_at "mirn"
    refine ⟨fun q => ?_, fun q => ?_⟩
    · walk_at "mirn"
      refine ⟨by rw [nI_len]; exact Nat.lt_of_lt_of_le (show us.length < 100000 by omega) (sizeLine_lt _ (by decide)), ?_⟩
      refine ⟨us ++ [k], _, _, fun j => ?_, ?_, by rw [List.length_append]; simp; omega, by unfold nI; rw [List.map_append, List.map_append]; rfl⟩
      · rw [List.mem_append, List.mem_singleton, hu]
        constructor
        · rintro (⟨a, c⟩ | rfl)
          · exact ⟨by omega, c⟩
          · exact ⟨by omega, t, hk, hb.mp q⟩
        · rintro ⟨a, c⟩
          by_cases z : j = k
          · exact .inr z
          · exact .inl ⟨by omega, c⟩
      · rw [List.pairwise_append]
        refine ⟨hp, List.pairwise_singleton _ _, fun a ha b hb => ?_⟩
        rw [List.mem_singleton] at hb
        have := ((hu a).mp ha).1
        omega
    · walk_at "mirn"
      refine ⟨us, _, _, fun j => ?_, hp, by omega, rfl⟩
      rw [hu]
      constructor
      · rintro ⟨a, c⟩
        exact ⟨by omega, c⟩
      · rintro ⟨a, t', hj, c⟩
        by_cases z : j = k
        · subst z
          rw [hk] at hj
          cases hj
          rw [hb.mpr c] at q
          cases q
        · exact ⟨by omega, t', hj, c⟩
  · rintro e ⟨us, a3, a4, hu, hp, hl, rfl⟩
    walk_at "mirn"
    refine ⟨us, fun j => ?_, hp, rfl⟩
    rw [hu, enumL_length, List.length_map]
    constructor
    · exact fun q => q.2
    · exact fun ⟨t, q, c⟩ => ⟨(List.getElem?_eq_some_iff.mp q).1, t, q, c⟩
theorem es_move {N : En → Prop} {P : D → En → Prop} {B C : En → Prop} {E : Exn → En → Prop} {env : En} {i j : Nat} {ds : List D} (hj : env[j]? = some (some (.ow ds))) (q : N ((env.set i (some (.ow ds))).set j none)) : Es (sMove i j env) N P B C E := by
  unfold sMove
  rw [hj]
  exact ⟨q⟩
theorem es_drop {N : En → Prop} {P : D → En → Prop} {B C : En → Prop} {E : Exn → En → Prop} {env : En} {i : Nat} {a : SF} (q : Es (a (env.set i none)) N P B C E) : Es (sDrop i a env) N P B C E := q
theorem ev_lendL {Q : D → En → Prop} {E : Exn → En → Prop} {env : En} {f : EF} (hd : noDk env = true) (q : Ev (f (lentE env)) (fun d _ => flatL d = true ∧ Q d env) fun _ _ => False) : Ev (fLendL f env) Q E := by
  unfold fLendL
  rw [if_pos hd]
  revert q
  cases f (lentE env) with
  | stuck => intro q; exact ⟨q.out.elim⟩
  | err x s => intro q; exact ⟨q.out.elim⟩
  | ok p =>
    intro q
    obtain ⟨h1, h2⟩ := q.out
    dsimp only
    rw [if_pos h1]
    exact ⟨h2⟩
theorem flatL_ints (xs : List Int) : flatL (.list (xs.map .int)) = true := by
  show (xs.map PyData.int).all flatD = true
  rw [List.all_eq_true]
  intro d hd
  obtain ⟨x, _, rfl⟩ := List.mem_map.mp hd
  rfl
theorem nice_tm {m : Int} {t : Tm} (h : RawT m t) (hm : m ≤ 1000) : Nice 1 ((100 + 1) * 4) t.d := by
  have i1 : ∀ x : Int, -1000000 ≤ x → x ≤ 1000000 → Nice 0 100 (.int x) := fun x h1 h2 => nice_small (by omega) (by omega)
  refine nice_tuple ?_ (Nat.le_refl 4)
  intro d hd
  have h1 := h.s0; have h2 := h.s1; have h3 := h.l0; have h4 := h.l1; have h5 := h.lo0; have h6 := h.lo1
  simp only [List.mem_cons, List.not_mem_nil, or_false] at hd
  rcases hd with rfl | rfl | rfl | rfl
  · exact i1 _ (by omega) (by omega)
  · exact i1 _ (by omega) (by omega)
  · exact i1 _ (by omega) (by omega)
  · cases hh : t.hi with
    | none => exact nice_none.mono (by decide) (by decide)
    | some i => exact i1 i (h.hi0 i hh).1 (h.hi0 i hh).2
theorem nice_rg {m : Int} {ts : List Tm} {k : Nat} (h : ∀ t ∈ ts, RawT m t) (hm0 : 0 ≤ m) (hm : m ≤ 1000) (hk : ts.length ≤ k) : Nice 3 (((404 + 1) * k + 100 + 1) * 2) (rgD m ts) := by
  have a : NiceAll 1 404 (ts.map Tm.d) := by
    intro d hd
    obtain ⟨t, ht, rfl⟩ := List.mem_map.mp hd
    exact nice_tm (h t ht) hm
  refine nice_tuple (w := (404 + 1) * k + 100) ?_ (Nat.le_refl 2)
  intro d hd
  simp only [List.mem_cons, List.not_mem_nil, or_false] at hd
  rcases hd with rfl | rfl
  · exact (nice_small (by omega) (by omega)).mono (by decide) (by omega)
  · exact (nice_tuple a (by rw [List.length_map]; exact hk)).mono (by decide) (by omega)
theorem brk_mem {xs : List Int} {ts : List Tm} {d : D} (h : d ∈ brk xs ts) : ∃ k t, ts[k]? = some t ∧ d = .tuple [.int (k : Nat), .int (stn xs t.s t.l)] := by
  unfold brk brkN at h
  rw [List.mem_flatMap] at h
  obtain ⟨k, hk, h⟩ := h
  unfold brk1 at h
  split at h
  · rename_i t ht
    split at h
    · exact ⟨k, t, ht, by simpa using h⟩
    · simp at h
  · simp at h
theorem nice_brk {m : Int} {xs : List Int} {ts : List Tm} {k : Nat} (ht : ∀ t ∈ ts, RawT m t) (hm : m ≤ 1000) (h0 : ∀ x ∈ xs, 0 ≤ x) (h1 : ∀ x ∈ xs, x ≤ 1000000) (hk : ts.length ≤ k) (hk1 : k ≤ 1000) : Nice 2 (((100 + 1) * 2 + 1) * k) (.list (brk xs ts)) ∧ TxOk (.list (brk xs ts)) := by
  constructor
  · refine nice_list (n := 1) ?_ (by unfold brk; exact Nat.le_trans (brkN_length xs ts _) hk)
    intro d hd
    obtain ⟨j, t, hj, rfl⟩ := brk_mem hd
    have hj1 : j < ts.length := by rw [List.getElem?_eq_some_iff] at hj; exact hj.1
    have hr := ht t (List.mem_of_getElem? hj)
    have g1 := hr.l0; have g2 := hr.l1
    obtain ⟨s1, s2⟩ := stn_bound (xs := xs) (s := t.s) (l := t.l) (b := 1000000) h0 (by decide) h1 (by omega)
    refine nice_tuple ?_ (Nat.le_refl 2)
    intro d hd
    simp only [List.mem_cons, List.not_mem_nil, or_false] at hd
    rcases hd with rfl | rfl
    · exact nice_small (by omega) (by omega)
    · exact nice_small (by omega) (by omega)
  · refine sok_list fun d hd => ?_
    obtain ⟨j, t, hj, rfl⟩ := brk_mem hd
    refine sok_tuple fun d hd => ?_
    simp only [List.mem_cons, List.not_mem_nil, or_false] at hd
    rcases hd with rfl | rfl <;> exact sok_int _
theorem gd_vI {xs : List Int} (h0 : ∀ x ∈ xs, 0 ≤ x) (h1 : ∀ x ∈ xs, x ≤ 1000000) (hl : xs.length ≤ 40) : Gd 1 ((100 + 1) * 40) (vI xs) :=
  ⟨(nice_ints (k := 40) (fun x hx => by have := h0 x hx; have := h1 x hx; omega) hl).2, sok_tuple (sok_ints xs)⟩
theorem maxD_ints {xs : List Int} {m : Int} (h1 : m ∈ xs) (h2 : ∀ y ∈ xs, y ≤ m) : maxD [.list (xs.map .int)] = some (.int m) := by
  simp only [maxD, intsD_map, Option.bind_some, maxI_is h1 h2, Option.map_some]
theorem F_span_eq {n : Nat} {T : Int} {ts : List Tm} {f l : Int} (h1 : 1 ≤ n) (h2 : n ≤ 40) (ht : ∀ t ∈ ts, t.ok n) (hs : ts.length ≤ 10000) (hT : 0 ≤ T) (f0 : 0 ≤ f) (f1 : f < n) (l0 : 1 ≤ l) (l1 : l ≤ n) :
    ∃ t, (∃ a b, Span n T ts f l a b ∧ F_span [.im (rgD n ts), .im (.int T), .im (.int f), .im (.int l)] = .ok (.tuple [.int a, .int b], t)) ∨
      ∃ us ws r, Bar n T ts us ws r ∧ Short n us ws r ∧ (∀ xs, ¬ LayOf n T ts xs) ∧ F_span [.im (rgD n ts), .im (.int T), .im (.int f), .im (.int l)] = .err ⟨"Barred", [("bar", barD us ws r)]⟩ t := by
  obtain ⟨t1, q⟩ := F_found_bar_is (n := n) (T := T) (ts := ts) h1 (by omega) ht hs
  rcases q with ⟨e1, hL⟩ | ⟨us, ws, r, B, S, no, e1⟩
  · obtain ⟨a, b, t2, S, e2⟩ := F_found_span_eq (n := n) (T := T) (ts := ts) (f := f) (l := l) h1 h2 ht hs f0 f1 l0 l1 hL
    suffices h : Ev (F_span [.im (rgD n ts), .im (.int T), .im (.int f), .im (.int l)]) (fun x s => x = .tuple [.int a, .int b]) fun _ _ => False by
      obtain ⟨x, s, e, rfl⟩ := ev_eq h; exact ⟨s, .inl ⟨a, b, S, e⟩⟩
    refine ev_fun ?_
    unfold g_span
    walk_at "mirn"
    refine ev_of (F_look_at_ring_ok (short_of (by omega)) (ringD_ok (by omega) (by omega) ht)) ?_
    rw [back_ims rfl]
    walk_at "mirn"
    refine ev_of (F_look_at_total_ok (by simp [fromD, hT])) ?_
    rw [back_ims rfl]
    walk_at "mirn"
    obtain ⟨t9, e9⟩ := F_look_at_stretch_ok (m := n) (a := f) (b := l) (ts := .tuple (ts.map Tm.d)) (by omega) (by omega) (by omega) (by omega)
    refine ev_of e9 ?_
    rw [back_ims rfl]
    walk_at "mirn"
    refine ev_of e1 ?_
    rw [back_ims rfl]
    walk_at "mirn"
    refine es_if ?_
    walk_at "mirn"
    exact ev_of e2 rfl
  · suffices h : Ev (F_span [.im (rgD n ts), .im (.int T), .im (.int f), .im (.int l)]) (fun x s => False) fun x s => x = ⟨"Barred", [("bar", barD us ws r)]⟩ by
      obtain ⟨s, e⟩ := ev_errX h; exact ⟨s, .inr ⟨us, ws, r, B, S, no, e⟩⟩
    refine ev_fun ?_
    unfold g_span
    walk_at "mirn"
    refine ev_of (F_look_at_ring_ok (short_of (by omega)) (ringD_ok (by omega) (by omega) ht)) ?_
    rw [back_ims rfl]
    walk_at "mirn"
    refine ev_of (F_look_at_total_ok (by simp [fromD, hT])) ?_
    rw [back_ims rfl]
    walk_at "mirn"
    obtain ⟨t9, e9⟩ := F_look_at_stretch_ok (m := n) (a := f) (b := l) (ts := .tuple (ts.map Tm.d)) (by omega) (by omega) (by omega) (by omega)
    refine ev_of e9 ?_
    rw [back_ims rfl]
    walk_at "mirn"
    refine ev_of e1 ?_
    rw [back_ims rfl]
    unfold barD
    walk_at "mirn"
    refine es_if ?_
    walk_at "mirn"
    refine es_raiseP ?_
    walk_at "mirn"
    rfl
def sel (ts : List Tm) (ks : List Nat) : List Tm := ks.filterMap fun j => ts[j]?
theorem LayOf.less {n : Nat} {T : Int} {ts ts' : List Tm} {xs : List Int} (h : LayOf n T ts xs) (q : ∀ t ∈ ts', t ∈ ts) : LayOf n T ts' xs := ⟨h.len, h.nn, h.sum, fun t tm => h.hold t (q t tm)⟩
theorem mem_sel {ts : List Tm} {ks : List Nat} {t : Tm} : t ∈ sel ts ks ↔ ∃ j ∈ ks, ts[j]? = some t := by
  unfold sel
  rw [List.mem_filterMap]
structure Core (n : Nat) (T : Int) (ts : List Tm) (k : Nat) (ks : List Nat) : Prop where
  asc : ks.Pairwise (· < ·)
  lt : ∀ j ∈ ks, j < ts.length
  rest : ∀ j, k ≤ j → j < ts.length → j ∈ ks
  same : ∀ xs, LayOf n T (sel ts ks) xs ↔ LayOf n T ts xs
  need : ∀ j ∈ ks, j < k → ∀ t, ts[j]? = some t → ¬ Ndl n T (sel ts (ks.filter fun i => decide (i ≠ j))) t
theorem sel_data {ts : List Tm} : ∀ {ks : List Nat}, (∀ j ∈ ks, j < ts.length) → ks.map (fun j => ((ts[j]?).map Tm.d).getD .none) = (sel ts ks).map Tm.d
  | [], _ => rfl
  | j :: ks, h => by
    have ih := sel_data (ts := ts) (ks := ks) fun i hi => h i (by simp [hi])
    have hj := h j (by simp)
    unfold sel at ih ⊢
    rw [List.map_cons, ih, List.filterMap_cons, List.getElem?_eq_getElem hj]
    rfl
theorem ones_sum : ∀ ks : List Nat, (ks.map fun _ => (1 : Int)).sum = ks.length
  | [] => rfl
  | _ :: ks => by rw [List.map_cons, List.sum_cons, ones_sum ks, List.length_cons]; omega
def neB (k : Nat) : D → Bool
  | .int i => !decide (i = (k : Int))
  | _ => false
theorem ne_data (ks : List Nat) (k : Nat) : ((nI ks).map PyData.int).filter (neB k) = (nI (ks.filter fun i => decide (i ≠ k))).map .int := by
  unfold nI
  rw [List.map_map, List.filter_map, List.map_map]
  congr 1
  apply List.filter_congr
  intro i _
  show (!decide ((i : Int) = (k : Int))) = decide (i ≠ k)
  by_cases h : i = k
  · subst h; simp
  · rw [decide_eq_true h, decide_eq_false (by omega)]; rfl
theorem F_core_eq {n : Nat} {T : Int} {ts : List Tm} (h1 : 1 ≤ n) (h2 : n ≤ 40) (ht : ∀ t ∈ ts, t.ok n) (hs : ts.length ≤ 10000) (hT : 0 ≤ T) :
    ∃ ks t, Core n T ts ts.length ks ∧ F_core [.im (rgD n ts), .im (.int T)] = .ok (.list ((nI ks).map .int), t) := by
  suffices h : Ev (F_core [.im (rgD n ts), .im (.int T)]) (fun x s => ∃ ks, Core n T ts ts.length ks ∧ x = .list ((nI ks).map .int)) fun _ _ => False by
    obtain ⟨x, s, e, ks, q, rfl⟩ := ev_eq h; exact ⟨ks, s, q, e⟩
  refine ev_fun ?_
  unfold g_core
  walk_at "mirn"
  refine ev_of (F_look_at_ring_ok (short_of (by omega)) (ringD_ok (by omega) (by omega) ht)) ?_
  rw [back_ims rfl]
  walk_at "mirn"
  refine ev_of (F_look_at_total_ok (by simp [fromD, hT])) ?_
  rw [back_ims rfl]
  unfold rgD
  let A0 : Sl := .im (.tuple [.int n, .tuple (ts.map Tm.d)])
  let A1 : Sl := .im (.int T)
  walk_at "mirn"
  refine ev_listRg ?_
  walk_at "mirn"
  refine ⟨by omega, by omega, ?_⟩
  have e0 : rangeL 0 ((ts.length : Nat) : Int).toNat = (nI (List.range ts.length)).map .int := by
    unfold rangeL nI
    rw [List.map_map, Int.toNat_natCast]
    apply List.map_congr_left
    intro i _
    show PyData.int (0 + (i : Int)) = .int (i : Int)
    rw [Int.zero_add]
  rw [e0]
  walk_at "mirn"
  refine es_forK (fun k e => ∃ ks a3, Core n T ts k ks ∧ OkS a3 ∧ e = [some A0, some A1, some (.ow ((nI ks).map .int)), a3, none, none]) ⟨List.range ts.length, _, ⟨List.pairwise_lt_range, fun j hj => List.mem_range.mp hj, fun j _ hj => List.mem_range.mpr hj, fun xs => ?_, fun j _ q => absurd q (Nat.not_lt_zero _)⟩, okS_none, rfl⟩ ?_ ?_
  · constructor
    · exact fun X => X.less fun t tm => by
        obtain ⟨j, hj, rfl⟩ := List.getElem_of_mem tm
        exact mem_sel.mpr ⟨j, List.mem_range.mpr hj, List.getElem?_eq_getElem hj⟩
    · exact fun X => X.less fun t tm => by
        obtain ⟨j, hj, e⟩ := mem_sel.mp tm
        exact List.mem_of_getElem? e
  · rintro k d e hk ⟨ks, a3, C, o3, rfl⟩
    obtain ⟨hk, rfl⟩ := rangeL_get hk
    have hk : k < ts.length := by omega
    rw [Int.zero_add]
    have kin := C.rest k (Nat.le_refl _) hk
    have hkt : ts[k]? = some ts[k] := List.getElem?_eq_getElem hk
    generalize ts[k] = t at hkt
    have tok := ht t (List.mem_of_getElem? hkt)
    have lk : ks.length ≤ ts.length := by
      have := nodup_le (us := ks) (n := ts.length) (f := fun _ => 1) (C.asc.imp fun h => Nat.ne_of_lt h) C.lt (fun _ _ => by decide)
      have e1 := ones_sum ks
      have e2 : ∀ m, rsum m (fun _ => 1) = m := by
        intro m
        induction m with
        | zero => rfl
        | succ m ih => rw [rsum_succ, ih]; omega
      rw [e1, e2] at this
      omega
    let os := ks.filter fun i => decide (i ≠ k)
    have los : os.length ≤ ks.length := List.length_filter_le _ _
    have olt : ∀ j ∈ os, j < ts.length := fun j hj => C.lt j (List.mem_filter.mp hj).1
    have sok : ∀ t ∈ sel ts os, t.ok n := fun t tm => by
      obtain ⟨j, _, e⟩ := mem_sel.mp tm
      exact ht t (List.mem_of_getElem? e)
    have sl : (sel ts os).length ≤ 10000 := Nat.le_trans (List.length_filterMap_le _ _) (by omega)
    obtain ⟨b, s, hb, e1⟩ := F_is_needless_eq (T := T) h1 h2 sok sl tok (.inl rfl)
    walk_at "mirn"
    refine ev_lendL rfl ?_
    refine ev_lc (b := neB k) (v := id) (P0 := fun _ _ => True) ?_
    walk_at "mirn"
    refine ⟨rfl, by rw [nI_len]; exact sizeLine_lt _ (by omega), fun d hd => ?_, ?_⟩
    · obtain ⟨j, hj, rfl⟩ := nI_mem hd
      walk_at "mirn"
      exact ⟨rfl, fun _ => ev_var rfl ⟨rfl, rfl, rfl⟩, fun _ => ⟨rfl, rfl⟩⟩
    rw [List.map_id, ne_data]
    refine ⟨flatL_ints _, _, rfl, ?_⟩
    walk_at "mirn"
    refine es_if ?_
    refine ev_lend rfl ?_
    walk_at "mirn"
    refine ev_lcm (v := fun d => ((ts[(whlI d).toNat]?).map Tm.d).getD .none) ?_
    walk_at "mirn"
    refine ⟨rfl, by rw [nI_len]; exact sizeLine_lt _ (show os.length ≤ 16777216 by omega), fun d hd => ?_, ?_⟩
    · obtain ⟨j, hj, rfl⟩ := nI_mem hd
      have hj2 := olt j hj
      have hjt : ts[j]? = some ts[j] := List.getElem?_eq_getElem hj2
      walk_at "mirn"
      refine ev_o (ix_term (m := n) hjt) ?_
      refine ⟨?_, rfl, rfl⟩
      show Tm.d ts[j] = ((ts[((j : Nat) : Int).toNat]?).map Tm.d).getD .none
      rw [Int.toNat_natCast, hjt]; rfl
    rw [nI_map, show (os.map fun j : Nat => ((ts[(whlI (.int (j : Int))).toNat]?).map Tm.d).getD .none) = os.map (fun j => ((ts[j]?).map Tm.d).getD .none) from rfl, sel_data olt]
    walk_at "mirn"
    refine ev_o (ix_term (m := n) hkt) ?_
    generalize t.d = td at *
    walk_at "mirn"
    refine ev_of e1 ?_
    walk_at "mirn"
    refine ⟨fun q => ?_, fun q => ?_⟩
    · have nd := hb.mp q
      refine es_move rfl ?_
      refine ⟨os, _, ⟨C.asc.sublist List.filter_sublist, olt, fun j a c => List.mem_filter.mpr ⟨C.rest j (by omega) c, decide_eq_true (by omega)⟩, fun xs => ?_, fun j hj a t' ht' z => ?_⟩, okS_im, rfl⟩
      · rw [← C.same]
        constructor
        · intro X
          refine ⟨X.len, X.nn, X.sum, fun t' tm => ?_⟩
          obtain ⟨j, hj, e⟩ := mem_sel.mp tm
          by_cases w : j = k
          · rw [w, hkt] at e
            cases e
            exact nd xs X
          · exact X.hold t' (mem_sel.mpr ⟨j, List.mem_filter.mpr ⟨hj, decide_eq_true w⟩, e⟩)
        · exact fun X => X.less fun t' tm => by
            obtain ⟨j, hj, e⟩ := mem_sel.mp tm
            exact mem_sel.mpr ⟨j, (List.mem_filter.mp hj).1, e⟩
      · obtain ⟨hj1, hj2⟩ := List.mem_filter.mp hj
        have hj2 := of_decide_eq_true hj2
        refine C.need j hj1 (by omega) t' ht' fun xs X => z xs (X.less fun t'' tm => ?_)
        obtain ⟨i, hi, e⟩ := mem_sel.mp tm
        obtain ⟨i1, i2⟩ := List.mem_filter.mp hi
        exact mem_sel.mpr ⟨i, List.mem_filter.mpr ⟨(List.mem_filter.mp i1).1, i2⟩, e⟩
    · refine es_drop ?_
      walk_at "mirn"
      refine ⟨ks, _, ⟨C.asc, C.lt, fun j a c => C.rest j (by omega) c, C.same, fun j hj a t' ht' z => ?_⟩, okS_im, rfl⟩
      by_cases w : j = k
      · subst w
        rw [hkt] at ht'
        cases ht'
        rw [hb.mpr z] at q
        cases q
      · exact C.need j hj (by omega) t' ht' z
  · rintro e ⟨ks, a3, C, o3, rfl⟩
    rw [rangeL_length, Int.toNat_natCast] at C
    walk_at "mirn"
    exact ⟨ks, C, rfl⟩
def easT (e : Int) (t : Tm) : Tm := ⟨t.s, t.l, max 0 (t.lo - e), t.hi.map fun i => i + e⟩
theorem easT_ok {n : Int} {e : Int} {t : Tm} (h : t.ok n) (he : 0 ≤ e) : (easT e t).ok n := by
  refine ⟨h.s0, h.s1, h.l0, h.l1, by show 0 ≤ max 0 (t.lo - e); omega, fun i hi => ?_⟩
  have hi : t.hi.map (fun i => i + e) = some i := hi
  obtain ⟨j, hj, rfl⟩ := Option.map_eq_some_iff.mp hi
  have := h.hi0 j hj
  omega
theorem F_eased_eq {n : Int} {e : Int} {ts : List Tm} (hs : ts.length ≤ 10000) : ∃ t, F_eased [.im (rgD n ts), .im (.int e)] = .ok (rgD n (ts.map (easT e)), t) := by
  suffices h : Ev (F_eased [.im (rgD n ts), .im (.int e)]) (fun x s => x = rgD n (ts.map (easT e))) fun _ _ => False by
    obtain ⟨x, s, e, rfl⟩ := ev_eq h; exact ⟨s, e⟩
  refine ev_fun ?_
  unfold g_eased rgD
  walk_at "mirn"
  let A0 : Sl := .im (.tuple [.int n, .tuple (ts.map Tm.d)])
  let A1 : Sl := .im (.int e)
  refine es_forK (fun k en => ∃ a3 a4 a5 a6, en = [some A0, some A1, some (.ow (((ts.take k).map (easT e)).map Tm.d)), a3, a4, a5, a6]) ⟨_, _, _, _, rfl⟩ ?_ ?_
  · rintro k d en hk ⟨a3, a4, a5, a6, rfl⟩
    rw [List.getElem?_map, Option.map_eq_some_iff] at hk
    obtain ⟨t, hk, rfl⟩ := hk
    obtain ⟨hk1, hk2⟩ := List.getElem?_eq_some_iff.mp hk
    have tk : ts.take (k + 1) = ts.take k ++ [t] := by rw [List.take_succ_eq_append_getElem hk1, hk2]
    have ln : (((ts.take k).map (easT e)).map Tm.d).length < sizeLine := by
      rw [List.length_map, List.length_map, List.length_take]
      exact Nat.lt_of_lt_of_le (show min k ts.length < 100000 by omega) (sizeLine_lt _ (by decide))
    have e1 : ∀ o : D, o = oI (t.hi.map fun i => i + e) → (((ts.take k).map (easT e)).map Tm.d) ++ [PyData.tuple [.int t.s, .int t.l, .int (max 0 (t.lo - e)), o]] = ((ts.take (k + 1)).map (easT e)).map Tm.d := by
      rintro o rfl
      rw [tk, List.map_append, List.map_append]
      rfl
    show EvO (tTuple 4 _ (.tuple [.int t.s, .int t.l, .int t.lo, oI t.hi]) _) _
    cases hh : t.hi with
    | none =>
      unfold oI
      walk_at "mirn"
      refine ⟨ln, ?_⟩
      rw [e1 .none (by rw [hh]; rfl)]
      exact ⟨_, _, _, _, rfl⟩
    | some i =>
      unfold oI
      walk_at "mirn"
      refine ⟨ln, ?_⟩
      rw [e1 (.int (i + e)) (by rw [hh]; rfl)]
      exact ⟨_, _, _, _, rfl⟩
  · rintro en ⟨a3, a4, a5, a6, rfl⟩
    rw [List.length_map, List.take_length]
    walk_at "mirn"
    rfl
theorem eas_less {n : Nat} {T a b : Int} {ts : List Tm} {xs : List Int} (h : LayOf n T (ts.map (easT a)) xs) (ab : a ≤ b) : LayOf n T (ts.map (easT b)) xs := by
  refine ⟨h.len, h.nn, h.sum, fun t tm => ?_⟩
  obtain ⟨t0, h0, rfl⟩ := List.mem_map.mp tm
  obtain ⟨c1, c2⟩ := (badT_iff _ _).mp (h.hold _ (List.mem_map_of_mem h0))
  have c1 : max 0 (t0.lo - a) ≤ stn xs t0.s t0.l := c1
  rw [badT_iff]
  refine ⟨?_, fun i hi => ?_⟩
  · show max 0 (t0.lo - b) ≤ stn xs t0.s t0.l
    omega
  · have hi : t0.hi.map (fun i => i + b) = some i := hi
    obtain ⟨j, hj, rfl⟩ := Option.map_eq_some_iff.mp hi
    have := c2 (j + a) (by show t0.hi.map _ = _; rw [hj]; rfl)
    have : stn xs t0.s t0.l ≤ j + a := this
    show stn xs t0.s t0.l ≤ j + b
    omega
theorem stn_le_sum {n : Nat} {xs : List Int} {f l : Int} (hx : xs.length = n) (h0 : ∀ x ∈ xs, 0 ≤ x) (h1 : 1 ≤ n) (f0 : 0 ≤ f) (f1 : f < n) (l0 : 1 ≤ l) (l1 : l ≤ n) : 0 ≤ stn xs f l ∧ stn xs f l ≤ xs.sum := by
  have mono : ∀ a d, pre xs a ≤ pre xs (a + d) := by
    intro a d
    induction d with
    | zero => exact Int.le_refl _
    | succ d ih => exact Int.le_trans ih (pre_mono h0 _)
  rw [stn_fl hx h1 f0 f1 l0 l1]
  generalize hF : f.toNat = F
  generalize hL : l.toNat = L
  have a := pre_nn h0 F
  by_cases q : F + L < n
  · rw [Nat.mod_eq_of_lt q, Nat.div_eq_of_lt q]
    have b := mono F L
    have c := pre_le_all h0 (F + L)
    omega
  · have e1 : (F + L) % n = F + L - n := by
      rw [Nat.mod_eq_sub_mod (by omega)]
      exact Nat.mod_eq_of_lt (by omega)
    have e2 : (F + L) / n = 1 := Nat.div_eq_of_lt_le (by omega) (by omega)
    rw [e1, e2]
    have b := mono (F + L - n) (F - (F + L - n))
    rw [show F + L - n + (F - (F + L - n)) = F by omega] at b
    have c := pre_nn h0 (F + L - n)
    have d := pre_le_all h0 F
    omega
theorem int_max : ∀ {xs : List Int}, xs ≠ [] → ∃ m ∈ xs, ∀ y ∈ xs, y ≤ m
  | [], h => absurd rfl h
  | [x], _ => ⟨x, by simp, by simp⟩
  | x :: y :: r, _ => by
    obtain ⟨m, hm, h⟩ := int_max (xs := y :: r) (by simp)
    by_cases q : m ≤ x
    · exact ⟨x, by simp, fun z hz => by
        rcases List.mem_cons.mp hz with rfl | hz
        · exact Int.le_refl _
        · have := h z hz; omega⟩
    · exact ⟨m, List.mem_cons_of_mem _ hm, fun z hz => by
        rcases List.mem_cons.mp hz with rfl | hz
        · omega
        · exact h z hz⟩
theorem F_ease_eq {n : Nat} {T : Int} {ts : List Tm} (h1 : 1 ≤ n) (h2 : n ≤ 40) (ht : ∀ t ∈ ts, t.ok n) (hs : ts.length ≤ 10000) (hT : 0 ≤ T) (bT : T ≤ 100000000) (bl : ∀ t ∈ ts, t.lo ≤ 100000000) :
    ∃ e b t, 0 ≤ e ∧ (∃ xs, LayOf n T (ts.map (easT e)) xs) ∧ (∀ e', 0 ≤ e' → e' < e → ∀ xs, ¬ LayOf n T (ts.map (easT e')) xs) ∧ ((e = 0 ∧ b = .none) ∨ (0 < e ∧ BelowD n (ts.map (easT (e - 1))) T b)) ∧ e ≤ 100000000 ∧
      F_ease [.im (rgD n ts), .im (.int T)] = .ok (.tuple [.int e, b], t) := by
  suffices h : Ev (F_ease [.im (rgD n ts), .im (.int T)]) (fun x s => ∃ e b, 0 ≤ e ∧ (∃ xs, LayOf n T (ts.map (easT e)) xs) ∧ (∀ e', 0 ≤ e' → e' < e → ∀ xs, ¬ LayOf n T (ts.map (easT e')) xs) ∧ ((e = 0 ∧ b = PyData.none) ∨ (0 < e ∧ BelowD n (ts.map (easT (e - 1))) T b)) ∧ e ≤ 100000000 ∧ x = .tuple [.int e, b]) fun _ _ => False by
    obtain ⟨x, s, q, e, b, a1, a2, a3, a4, a5, rfl⟩ := ev_eq h; exact ⟨e, b, s, a1, a2, a3, a4, a5, q⟩
  have eE := fun (e : Int) (he : 0 ≤ e) => F_found_bar_is (n := n) (T := T) (ts := ts.map (easT e)) h1 (by omega) (fun t tm => by
    obtain ⟨t0, q, rfl⟩ := List.mem_map.mp tm
    exact easT_ok (ht t0 q) he) (by rw [List.length_map]; exact hs)
  have eR := fun (e : Int) => F_eased_eq (n := n) (e := e) (ts := ts) hs
  refine ev_fun ?_
  unfold g_ease
  walk_at "mirn"
  refine ev_of (F_look_at_ring_ok (short_of (by omega)) (ringD_ok (by omega) (by omega) ht)) ?_
  rw [back_ims rfl]
  walk_at "mirn"
  refine ev_of (F_look_at_total_ok (by simp [fromD, hT])) ?_
  rw [back_ims rfl]
  have hix : ixD (rgD n ts) (.int 1) = some (.tuple (ts.map Tm.d)) := rfl
  generalize hRR : rgD n ts = R at *
  let A0 : Sl := .im R
  let A1 : Sl := .im (.int T)
  walk_at "mirn"
  refine ev_lcm (v := loOf) ?_
  refine ev_items (ev_op (ev_var rfl (ev_c (ev_o hix ?_))))
  walk_at "mirn"
  refine ⟨rfl, by rw [List.length_map]; exact sizeLine_lt _ (by omega), fun d hd => ?_, ?_⟩
  · obtain ⟨t, tm, rfl⟩ := List.mem_map.mp hd
    unfold Tm.d
    walk_at "mirn"
    exact ⟨rfl, rfl, rfl⟩
  rw [los_data]
  walk_at "mirn"
  have lm : ([PyData.int T] : List D).length + ((ts.map fun t => t.lo).map PyData.int).length ≤ 1000000 := by
    rw [List.length_map, List.length_map, List.length_singleton]; omega
  refine ev_o (addD_list lm) ?_
  obtain ⟨mx, hm, hmax⟩ := int_max (xs := T :: ts.map fun t => t.lo) (by simp)
  have mT : T ≤ mx := hmax T (by simp)
  have mL : ∀ t ∈ ts, t.lo ≤ mx := fun t tm => hmax _ (List.mem_cons_of_mem _ (List.mem_map_of_mem tm))
  have mB : mx ≤ 100000000 := by
    rcases List.mem_cons.mp hm with rfl | hm
    · exact bT
    · obtain ⟨t, tm, rfl⟩ := List.mem_map.mp hm
      exact bl t tm
  have e2 : ([PyData.int T] : List D) ++ (ts.map fun t => t.lo).map PyData.int = (T :: ts.map fun t => t.lo).map .int := rfl
  rw [e2]
  walk_at "mirn"
  refine ev_o (maxD_ints hm hmax) ?_
  walk_at "mirn"
  have top : ∃ xs, LayOf n T (ts.map (easT mx)) xs := by
    have ln : ((T :: List.replicate (n - 1) 0) : List Int).length = n := by simp; omega
    have nn : ∀ x ∈ ((T :: List.replicate (n - 1) 0) : List Int), 0 ≤ x := fun x hx => by
      rcases List.mem_cons.mp hx with rfl | hx
      · exact hT
      · rw [List.eq_of_mem_replicate hx]; exact Int.le_refl _
    have sm : ((T :: List.replicate (n - 1) 0) : List Int).sum = T := by
      rw [List.sum_cons]
      have : ∀ k, (List.replicate k (0 : Int)).sum = 0 := fun k => by
        induction k with
        | zero => rfl
        | succ k ih => rw [List.replicate_succ, List.sum_cons, ih]; rfl
      rw [this]; omega
    refine ⟨_, ln, nn, sm, fun t tm => ?_⟩
    obtain ⟨t0, q, rfl⟩ := List.mem_map.mp tm
    have ok := ht t0 q
    obtain ⟨b1, b2⟩ := stn_le_sum ln nn h1 ok.s0 ok.s1 ok.l0 ok.l1
    rw [sm] at b2
    rw [badT_iff]
    refine ⟨?_, fun i hi => ?_⟩
    · show max 0 (t0.lo - mx) ≤ stn _ t0.s t0.l
      have := mL t0 q
      omega
    · have hi : t0.hi.map (fun i => i + mx) = some i := hi
      obtain ⟨j, hj, rfl⟩ := Option.map_eq_some_iff.mp hi
      have := ok.hi0 j hj
      show stn _ t0.s t0.l ≤ j + mx
      omega
  refine es_whileI (I := fun e => ∃ lo hi a4, -1 ≤ lo ∧ lo < hi ∧ hi ≤ mx ∧ (∃ xs, LayOf n T (ts.map (easT hi)) xs) ∧ (0 ≤ lo → ∀ xs, ¬ LayOf n T (ts.map (easT lo)) xs) ∧ e = [some A0, some A1, some (.im (.int lo)), some (.im (.int hi)), a4, none])
    (m := fun e : En => match e[2]?, e[3]? with | some (some (Sl.im (.int lo))), some (some (Sl.im (.int hi))) => (hi - lo).toNat | _, _ => 0) ?_ ⟨-1, mx, _, by omega, by omega, by omega, top, (fun q => by omega), rfl⟩ ?_
  · rintro e ⟨lo, hi, a4, l0, lh, hb, hA, nA, rfl⟩
    walk_at "mirn"
    refine ⟨fun q => ?_, fun q => ?_⟩
    · have q := of_decide_eq_true q
      walk_at "mirn"
      have m0 : lo < (lo + hi) / 2 ∧ (lo + hi) / 2 < hi ∧ 0 ≤ (lo + hi) / 2 := by omega
      generalize (lo + hi) / 2 = M at m0
      obtain ⟨t1, e1⟩ := eR M
      obtain ⟨t2, e2⟩ := eE M m0.2.2
      refine es_if ?_
      walk_at "mirn"
      refine ev_of e1 ?_
      rw [back_ims rfl]
      walk_at "mirn"
      rcases e2 with ⟨e2, hx⟩ | ⟨us, ws, r, B, S, no, e2⟩
      · refine ev_of e2 ?_
        rw [back_ims rfl]
        walk_at "mirn"
        refine ⟨⟨lo, M, _, l0, by omega, by omega, hx, nA, rfl⟩, ?_⟩
        show (M - lo).toNat < (hi - lo).toNat
        omega
      · refine ev_of e2 ?_
        rw [back_ims rfl]
        unfold barD
        walk_at "mirn"
        refine ⟨⟨M, hi, _, by omega, by omega, hb, hA, fun _ => no, rfl⟩, ?_⟩
        show (hi - M).toNat < (hi - lo).toNat
        omega
    · have q := of_decide_eq_false q
      have e0 : lo = hi - 1 := by omega
      subst e0
      have min : ∀ e', 0 ≤ e' → e' < hi → ∀ xs, ¬ LayOf n T (ts.map (easT e')) xs := fun e' a b xs X => nA (by omega) xs (eas_less X (by omega))
      walk_at "mirn"
      refine ⟨fun z => ?_, fun z => ?_⟩
      · have z := of_decide_eq_true z
        obtain ⟨t1, e1⟩ := eR (hi - 1)
        obtain ⟨t2, e2⟩ := eE (hi - 1) (by omega)
        walk_at "mirn"
        refine ev_of e1 ?_
        rw [back_ims rfl]
        walk_at "mirn"
        rcases e2 with ⟨e2, xs, hx⟩ | ⟨us, ws, r, B, S, no, e2⟩
        · exact absurd hx (nA (by omega) xs)
        · refine ev_of e2 ?_
          rw [back_ims rfl]
          walk_at "mirn"
          exact ⟨hi, _, by omega, hA, min, .inr ⟨z, us, ws, r, rfl, S, B⟩, by omega, rfl⟩
      · have z := of_decide_eq_false z
        walk_at "mirn"
        exact ⟨hi, _, by omega, hA, min, .inl ⟨by omega, rfl⟩, by omega, rfl⟩
  · unfold n_ease_0
    show (mx - -1).toNat < 1000000000000
    omega
theorem short_nice {n w : Nat} {d : D} (g : Nice n w d) (hw : w ≤ 1000000) : ∀ m xs, d = .tuple [m, .tuple xs] → xs.length ≤ sizeLine := by
  rintro m xs rfl
  exact Nat.le_trans (nice_len (nice_item g (by simp))) (sizeLine_lt _ (by omega))
theorem short_nice1 {n w : Nat} {d : D} (g : Nice n w d) (hw : w ≤ 1000000) : ∀ xs, d = .tuple xs → xs.length ≤ sizeLine := by
  rintro xs rfl
  exact Nat.le_trans (nice_len g) (sizeLine_lt _ (by omega))
theorem F_is_ring_eq {n w : Nat} {d : D} (g : Nice n w d) (hw : w ≤ 1000000) : ∃ s, F_is_ring [.im d] = .ok (.bool (ringD d), s) := by
  suffices h : Ev (F_is_ring [.im d]) (fun x t => x = .bool (ringD d)) fun _ _ => False by
    obtain ⟨x, t, e, rfl⟩ := ev_eq h; exact ⟨t, e⟩
  refine ev_fun ?_
  unfold g_is_ring
  walk_at "mir"
  obtain ⟨s, e⟩ := F_is_right_ring_eq d (short_nice g hw)
  refine ev_of e ?_
  rfl
theorem F_is_laying_eq {n w : Nat} {m : Int} {ts : List Tm} {d : D} (hr : ringD (rgD m ts) = true) (hs : ts.length ≤ 1000000) (g : Nice n w d) (hw : w ≤ 1000000) : ∃ s, F_is_laying [.im (rgD m ts), .im d] = .ok (.bool (layD m d), s) := by
  suffices h : Ev (F_is_laying [.im (rgD m ts), .im d]) (fun x t => x = .bool (layD m d)) fun _ _ => False by
    obtain ⟨x, t, e, rfl⟩ := ev_eq h; exact ⟨t, e⟩
  refine ev_fun ?_
  unfold g_is_laying
  walk_at "mir"
  refine ev_of (F_look_at_ring_ok (short_of hs) hr) ?_
  walk_at "mir"
  obtain ⟨s, e⟩ := F_is_right_laying_eq m (.tuple (ts.map Tm.d)) d (short_nice1 g hw)
  refine ev_of e ?_
  rfl
local macro_rules | `(tactic| walk_at "gd") => `(tactic| repeat (first
  | assumption
  | exact gd_none
  | exact gd_bool _
  | exact gd_int (by omega) (by omega)
  | exact gd_str (by decide +kernel)
  | exact gdl_nil
  | apply gd_tuple
  | apply gd_list
  | apply gdl_cons
  | apply gdl_append))
local macro_rules | `(tactic| walk_at "gdf") => `(tactic| ((apply gd_fin); (focus walk_at "gd"); decide; decide))
local macro_rules | `(tactic| walk_at "gdlf") => `(tactic| ((apply gdl_fin); (focus walk_at "gd"); decide; decide))
local macro_rules | `(tactic| walk_at "mir2") => `(tactic| with_reducible refine ev_o (addD_list (Nat.le_of_ble_eq_true rfl)) ?_)
local macro_rules | `(tactic| walk_at "gda") => `(tactic| repeat (first
  | assumption
  | exact all_nil
  | ((apply all_cons); (focus walk_at "gdf"))
  | apply all_append))
theorem barSz_short {n : Nat} {us ws : List Nat} {r : Int} (S : Short n us ws r) (h2 : n ≤ 40) : BarSz (barD us ws r) := by
  have sl := S.len
  refine ⟨fun a b c e => ?_⟩
  unfold barD at e
  cases e
  exact ⟨fun xs e => by cases e; unfold nI; rw [List.length_map, List.length_map]; omega, fun xs e => by cases e; unfold nI; rw [List.length_map, List.length_map]; omega⟩
theorem loS_le {m : Int} {ts : List Tm} (h : ∀ t ∈ ts, RawT m t) : loS ts ≤ 1000000 * ts.length ∧ hiS ts ≤ 1000000 * ts.length := by
  unfold loS hiS
  induction ts with
  | nil => exact ⟨by simp, by simp⟩
  | cons t ts ih =>
    obtain ⟨a, b⟩ := ih fun x hx => h x (by simp [hx])
    have c := (h t (by simp)).lo1
    have d := (h t (by simp)).hi0
    rw [List.map_cons, List.sum_cons, List.filterMap_cons, List.length_cons]
    refine ⟨by omega, ?_⟩
    cases hh : t.hi with
    | none => simp only; omega
    | some i =>
      have := d i hh
      simp only [List.sum_cons]
      omega
theorem gdl_nn : ∀ {xs : List Int}, (∀ x ∈ xs, 0 ≤ x ∧ x ≤ 1000000) → GdL 0 (101 * xs.length) (xs.map .int)
  | [], _ => gdl_nil.mono (Nat.le_refl _) (by simp)
  | x :: xs, h => by
    have a := h x (by simp)
    exact (gdl_cons (gd_int (i := x) (by omega) (by omega)) (gdl_nn fun y hy => h y (by simp [hy]))).mono (by decide) (by simp; omega)
theorem gd_barS {n : Nat} {us ws : List Nat} {r : Int} (h2 : n ≤ 40) (S : Short n us ws r) (hu : ∀ j ∈ us, j < 1000) (hw : ∀ j ∈ ws, j < 1000) : Gd 3 9000 (barD us ws r) := by
  have sl := S.len
  have r0 := S.r0
  have r1 := S.r1
  have g : ∀ (vs : List Nat), (∀ j ∈ vs, j < 1000) → GdL 0 (101 * vs.length) ((nI vs).map .int) := fun vs h => by
    have := gdl_nn (xs := nI vs) fun x hx => by
      unfold nI at hx
      obtain ⟨j, hj, rfl⟩ := List.mem_map.mp hx
      have := h j hj
      show (0 : Int) ≤ (j : Int) ∧ (j : Int) ≤ 1000000
      omega
    unfold nI at this
    rw [List.length_map] at this
    exact this
  unfold barD
  exact (gd_tuple (gdl_cons (gd_list (g us hu)) (gdl_cons (gd_list (g ws hw)) (gdl_cons (gd_int (i := r) (by omega) (by omega)) gdl_nil)))).mono (by decide) (by omega)
theorem ev_callKw {is : List Nat} {F : FD} {g : En → R En (List D × En)} {env : En} {Q : D → En → Prop} {E : Exn → En → Prop} (q : Ev (g env) (fun ds e => ∃ d t, F ((pick is ds).map Sl.im) = .ok (d, t) ∧ Q d e) fun _ _ => False) : Ev (fCallKw is F g env) Q E := by
  obtain ⟨ds, e, h1, d, t, h2, h3⟩ := ev_eq q
  have key : fCallKw is F g env = .ok (d, e) := by
    unfold fCallKw
    rw [h1]
    simp only [R.bind, h2]
  rw [key]
  exact ⟨h3⟩
theorem ev_callKwX {is : List Nat} {F : FD} {g : En → R En (List D × En)} {env : En} {Q : D → En → Prop} {E : Exn → En → Prop} (q : Ev (g env) (fun ds e => ∃ x t, F ((pick is ds).map Sl.im) = .err x t ∧ E x e) fun _ _ => False) : Ev (fCallKw is F g env) Q E := by
  obtain ⟨ds, e, h1, d, t, h2, h3⟩ := ev_eq q
  have key : fCallKw is F g env = .err d e := by
    unfold fCallKw
    rw [h1]
    simp only [R.bind, h2]
  rw [key]
  exact ⟨h3⟩
theorem es_tryBar {c f : Str} {i i0 i1 : Nat} {F : FD} {a : SF} {env : En} {N B C : En → Prop} {P : D → En → Prop} {E : Exn → En → Prop} (q : Es (a env) N P B C (fun x e => x.cls = c ∧ x.dat.map Prod.fst = [f] ∧ e[i]? = some none ∧ ∃ d, barAns i0 i1 F x e = some d ∧ P d e)) : Es (sTryBar c f i i0 i1 F a env) N P B C E := by
  unfold sTryBar
  revert q
  cases a env with
  | stuck => exact fun q => ⟨q.1⟩
  | ok o => cases o <;> exact fun q => ⟨q.1⟩
  | err x e =>
    intro q
    obtain ⟨q1, q2, q3, d, q4, q5⟩ := q.1
    show Es (if _ then _ else _) N P B C E
    rw [if_pos ⟨q1, q2⟩]
    show Es (match e[i]?, barAns i0 i1 F x e with
      | some none, some d => .ok (.rt d e)
      | _, _ => .stuck) N P B C E
    rw [q3, q4]
    exact ⟨q5⟩
theorem bar_small {n : Nat} {T : Int} {ts : List Tm} {us ws : List Nat} {r : Int} (h2 : n ≤ 40) (hs : ts.length ≤ 1000) (B : Bar n T ts us ws r) (S : Short n us ws r) : Gd 3 9000 (barD us ws r) :=
  gd_barS h2 S (fun j hj => Nat.lt_of_lt_of_le (B.up j hj) hs) (fun j hj => Nat.lt_of_lt_of_le (B.dn j hj) hs)
theorem lay_small {n : Nat} {T : Int} {ts : List Tm} {zs : List Int} (L : LayOf n T ts zs) (h2 : n ≤ 40) (hT : T ≤ 1000000) : Gd 1 ((100 + 1) * 40) (vI zs) := gd_vI L.nn (fun v hv => by
  have := (le_sum_of L.nn).2 v hv
  rw [L.sum] at this
  omega) (by rw [L.len]; exact h2)
theorem told_small {n : Nat} {T : Int} {ts : List Tm} {x : D} (h : Told n T ts x) (h1 : 1 ≤ n) (h2 : n ≤ 40) (ht : ∀ t ∈ ts, t.ok n) (hs : ts.length ≤ 1000) (hT : T ≤ 1000000) : Gd 20 1000000 x := by
  rcases h.is h1 ht with ⟨xs, ys, E, rfl⟩ | ⟨us, ws, r, B, S, _, rfl⟩
  · have ga := lay_small E.a h2 hT
    have gb := lay_small E.b h2 hT
    unfold layD2
    walk_at "gdf"
  · have ga := bar_small h2 hs B S
    unfold brdD
    walk_at "gdf"
theorem tot_small {n : Nat} {ts : List Tm} {x : D} (h : TotD n ts x) (h2 : n ≤ 40) (hs : ts.length ≤ 1000) (hb : loS ts + hiS ts ≤ 800000000000) : Gd 20 1000000 x := by
  have bel : ∀ {T : Int} {b : D}, BelowD n ts T b → Gd 3 9000 b := fun {T b} ⟨us, ws, r, e, S, B⟩ => e ▸ bar_small h2 hs B S
  rcases h with ⟨least, great, b, a, E, hb', ha, rfl⟩ | ⟨ds, l1, l2, sh, _, rfl⟩
  · have l0 := E.l0
    obtain ⟨t1, t2⟩ := E.top
    have gl : Gd 0 100 (.int least) := gd_int (by omega) (by omega)
    have gg : Gd 0 100 (oI great) := by
      cases great with
      | none => exact gd_none.mono (Nat.le_refl _) (by decide)
      | some g =>
        have := t2 g rfl
        have := (E.up g rfl).1
        exact gd_int (i := g) (by omega) (by omega)
    have gb : Gd 3 9000 b := hb'.elim (fun q => by rw [q.2]; exact gd_none.mono (by decide) (by decide)) fun q => bel q.2
    have ga : Gd 3 9000 a := ha.elim (fun q => by rw [q.2]; exact gd_none.mono (by decide) (by decide)) fun ⟨_, _, q⟩ => bel q
    walk_at "gdf"
  · have gd : ∀ d ∈ ds, Gd 3 9000 d := fun d hd => by
      obtain ⟨us, ws, r, T, rfl, S, B⟩ := sh d hd
      exact bar_small h2 hs B S
    match ds, l1, l2, gd with
    | [x], _, _, gd =>
      have gx := gd x (by simp)
      walk_at "gdf"
    | [x, y], _, _, gd =>
      have gx := gd x (by simp)
      have gy := gd y (by simp)
      walk_at "gdf"
theorem barSz_vI (xs : List Int) : BarSz (vI xs) := ⟨fun a b c e => by
  have e' : xs.map PyData.int = [a, b, c] := by
    unfold vI at e
    injection e
  have ia : ∀ d ∈ [a, b, c], ∃ i, d = PyData.int i := fun d hd => by
    rw [← e'] at hd
    obtain ⟨i, _, rfl⟩ := List.mem_map.mp hd
    exact ⟨i, rfl⟩
  refine ⟨fun ys q => ?_, fun ys q => ?_⟩
  · obtain ⟨i, q'⟩ := ia a (by simp)
    rw [q] at q'
    cases q'
  · obtain ⟨i, q'⟩ := ia b (by simp)
    rw [q] at q'
    cases q'⟩
theorem nI_small {us : List Nat} (h : ∀ j ∈ us, j < 1000) : ∃ w, Nice 1 w (.list ((nI us).map .int)) :=
  ⟨100 * us.length + us.length, (nice_list (n := 0) (w := 100) (k := us.length) (fun d hd => by
    obtain ⟨i, hi, rfl⟩ := List.mem_map.mp hd
    unfold nI at hi
    obtain ⟨j, hj, rfl⟩ := List.mem_map.mp hi
    have := h j hj
    show Nice 0 100 (.int (j : Int))
    exact nice_small (by omega) (by omega)) (by unfold nI; rw [List.length_map, List.length_map]; exact Nat.le_refl _)).mono (Nat.le_refl _) (by rw [Nat.add_mul]; omega)⟩
theorem plc_small {n s l : Int} (hn : 0 < n) (hn1 : n ≤ 40) (h0 : 1 ≤ l) (hl : l ≤ 40) : Nice 1 ((100 + 1) * 40) (lI (plc n s l)) :=
  nice_list (n := 0) (w := 100) (k := 40) (fun d hd => by
    obtain ⟨i, hi, rfl⟩ := List.mem_map.mp hd
    obtain ⟨a, b⟩ := plc_lt hn hi
    exact nice_small (by omega) (by omega)) (by unfold plc; rw [List.length_map, List.length_map, List.length_range]; omega)
theorem F_law_rings_good_ok {n : Nat} {ts : List Tm} {xs : List Int} {f l : Int} (h1 : 1 ≤ n) (h2 : n ≤ 40) (hr : ∀ t ∈ ts, RawT n t ∧ hiOk t = true) (hs : ts.length ≤ 10) (f0 : 0 ≤ f) (f1 : f < n) (l0 : 1 ≤ l) (l1 : l ≤ n) (hx : (xs.length : Int) = n) (hx0 : ∀ x ∈ xs, 0 ≤ x) (hx1 : ∀ x ∈ xs, x ≤ 1000000) :
    ∃ t, F_law_rings_good [.im (rgD n ts), .im (.int f), .im (.int l), .im (vI xs)] = .ok (.bool true, t) := by
  suffices h : Ev (F_law_rings_good [.im (rgD n ts), .im (.int f), .im (.int l), .im (vI xs)]) (fun x t => x = .bool true) fun _ _ => False by
    obtain ⟨x, t, e, rfl⟩ := ev_eq h; exact ⟨t, e⟩
  have ht : ∀ t ∈ ts, t.ok n := fun t q => (hr t q).1.ok (hr t q).2
  have rt : ringD (rgD n ts) = true := ringD_ok (by omega) (by omega) ht
  have ng := nice_rg (k := 10) (fun t q => (hr t q).1) (show (0 : Int) ≤ n by omega) (by omega) hs
  have nx := gd_vI hx0 hx1 (show xs.length ≤ 40 by omega)
  obtain ⟨t1, e1⟩ := F_is_ring_eq ng (by decide)
  rw [rt] at e1
  obtain ⟨t2, e2⟩ := F_is_laying_eq (d := vI xs) rt (by omega) nx.nice (by decide)
  have lt : layD (n : Int) (vI xs) = true := layD_ok hx hx0
  rw [lt] at e2
  obtain ⟨t3, e3⟩ := F_stretch_ok (ts := ts) rt (by omega) f0 f1 l0 l1 (by omega)
  obtain ⟨t4, e4⟩ := F_broken_ok (show (1 : Int) ≤ n by omega) (by omega) ht hx hx0 (by omega)
  have q3 := neD_same (plc_small (n := n) (s := f) (l := l) (by omega) (by omega) l0 (by omega))
  have q4 := eqD_same (nice_brk (k := 10) (fun t q => (hr t q).1) (show (n : Int) ≤ 1000 by omega) hx0 hx1 hs (by decide)).1
  refine ev_fun ?_
  unfold g_law_rings_good
  generalize rgD n ts = R at *
  generalize vI xs = V at *
  generalize lI (plc n f l) = S at *
  generalize PyData.list (brk xs ts) = K at *
  walk_at "mirn"
  refine es_if ?_
  walk_at "mirn"
  refine ev_callKw ?_
  walk_at "mirn"
  refine ⟨_, _, e1, ?_⟩
  walk_at "mirn"
  refine ⟨fun q => absurd q (by decide), fun _ => ?_⟩
  walk_at "mirn"
  refine ev_callKw ?_
  walk_at "mirn"
  refine ⟨_, _, e2, ?_⟩
  walk_at "mirn"
  refine ⟨fun q => absurd q (by decide), fun _ => ?_⟩
  walk_at "mirn"
  refine es_if ?_
  walk_at "mirn"
  refine ev_callKw ?_
  walk_at "mirn"
  refine ⟨_, _, e3, ?_⟩
  walk_at "mirn"
  refine ev_of e3 ?_
  rw [back_ims rfl]
  walk_at "mirn"
  refine ev_o q3 ?_
  refine ⟨false, rfl, fun q => (by cases q), fun _ => ?_⟩
  walk_at "mirn"
  refine ev_callKw ?_
  walk_at "mirn"
  refine ⟨_, _, e4, ?_⟩
  walk_at "mirn"
  refine ev_of e4 ?_
  try rw [back_ims rfl]
  walk_at "mirn"
  refine ev_o q4 ?_
  rfl
theorem F_law_laying_good_ok {n : Nat} {T : Int} {ts : List Tm} (h1 : 1 ≤ n) (h2 : n ≤ 40) (hr : ∀ t ∈ ts, RawT n t ∧ hiOk t = true) (hs : ts.length ≤ 10) (hT : 0 ≤ T) (hT1 : T ≤ 1000) :
    ∃ t, F_law_laying_good [.im (rgD n ts), .im (.int T)] = .ok (.bool true, t) := by
  suffices h : Ev (F_law_laying_good [.im (rgD n ts), .im (.int T)]) (fun x t => x = .bool true) fun _ _ => False by
    obtain ⟨x, t, e, rfl⟩ := ev_eq h; exact ⟨t, e⟩
  have ht : ∀ t ∈ ts, t.ok n := fun t q => (hr t q).1.ok (hr t q).2
  obtain ⟨la, lb⟩ := loS_le fun t q => (hr t q).1
  have sum : loS ts + hiS ts ≤ 800000000000 := by omega
  obtain ⟨x, t1, told, e1⟩ := F_lay_eq (T := T) h1 h2 ht (by omega) hT
  obtain ⟨y, t2, tot, e2⟩ := F_totals_eq h1 h2 ht (by omega) sum
  have q1 := neD_same (told_small told h1 h2 ht (by omega) (by omega)).nice
  have q2 := neD_same (tot_small tot h2 (by omega) sum).nice
  obtain ⟨b, bx, bz⟩ : ∃ b, ixD x (.int 1) = some b ∧ BarSz b := by
    rcases told.is h1 ht with ⟨xs, ys, E, rfl⟩ | ⟨us, ws, r, B, S, _, rfl⟩
    · exact ⟨vI xs, rfl, barSz_vI xs⟩
    · exact ⟨barD us ws r, rfl, barSz_short S h2⟩
  obtain ⟨t3, e3⟩ := F_is_bar_eq (d := b) h1 h2 ht (by omega) hT (by omega) bz
  generalize isBarB n ts T b = v at e3
  have q3 : eqD (.bool v) (.bool v) = some (.bool true) := eqD_same (nice_bool v)
  refine ev_fun ?_
  unfold g_law_laying_good
  generalize rgD n ts = R at *
  walk_at "mirn"
  refine ev_callKw ?_
  walk_at "mirn"
  refine ⟨_, _, e1, ?_⟩
  walk_at "mirn"
  refine es_if ?_
  walk_at "mirn"
  refine ev_of e1 ?_
  rw [back_ims rfl]
  walk_at "mirn"
  refine ev_o q1 ?_
  refine ⟨false, rfl, fun q => (by cases q), fun _ => ?_⟩
  walk_at "mirn"
  refine ev_callKw ?_
  walk_at "mirn"
  refine ⟨_, _, e2, ?_⟩
  walk_at "mirn"
  refine ev_of e2 ?_
  rw [back_ims rfl]
  walk_at "mirn"
  refine ev_o q2 ?_
  refine ⟨false, rfl, fun q => (by cases q), fun _ => ?_⟩
  walk_at "mirn"
  refine ev_callKw ?_
  walk_at "mirn"
  refine ev_o bx ?_
  walk_at "mirn"
  refine ⟨_, _, e3, ?_⟩
  walk_at "mirn"
  refine ev_o bx ?_
  walk_at "mirn"
  refine ev_of e3 ?_
  try rw [back_ims rfl]
  walk_at "mirn"
  first
  | (refine ev_o q3 ?_; rfl)
  | (cases v <;> rfl)
/-- what ease tells is short -/
theorem ease_small {n : Nat} {T e : Int} {ts : List Tm} {b : D} (h2 : n ≤ 40) (hs : ts.length ≤ 1000) (e0 : 0 ≤ e) (e1 : e ≤ 100000000) (hb : (e = 0 ∧ b = .none) ∨ (0 < e ∧ BelowD n (ts.map (easT (e - 1))) T b)) : Gd 20 1000000 (.tuple [.int e, b]) := by
  have ge : Gd 0 100 (.int e) := gd_int (by omega) (by omega)
  have gb : Gd 3 9000 b := by
    rcases hb with ⟨_, rfl⟩ | ⟨_, us, ws, r, rfl, S, B⟩
    · exact gd_none.mono (by decide) (by decide)
    · exact bar_small h2 (by rw [List.length_map]; exact hs) B S
  walk_at "gdf"
theorem F_law_spans_good_ok {n : Nat} {T f l : Int} {ts : List Tm} (h1 : 1 ≤ n) (h2 : n ≤ 40) (hr : ∀ t ∈ ts, RawT n t ∧ hiOk t = true) (hs : ts.length ≤ 10) (hT : 0 ≤ T) (hT1 : T ≤ 1000) (f0 : 0 ≤ f) (f1 : f < n) (l0 : 1 ≤ l) (l1 : l ≤ n) :
    ∃ t, F_law_spans_good [.im (rgD n ts), .im (.int T), .im (.int f), .im (.int l)] = .ok (.bool true, t) := by
  suffices h : Ev (F_law_spans_good [.im (rgD n ts), .im (.int T), .im (.int f), .im (.int l)]) (fun x t => x = .bool true) fun _ _ => False by
    obtain ⟨x, t, e, rfl⟩ := ev_eq h; exact ⟨t, e⟩
  have ht : ∀ t ∈ ts, t.ok n := fun t q => (hr t q).1.ok (hr t q).2
  obtain ⟨us, t1, mem, _, e1⟩ := F_needless_eq (T := T) h1 h2 ht (by omega) hT
  obtain ⟨ks, t2, C, e2⟩ := F_core_eq (T := T) h1 h2 ht (by omega) hT
  obtain ⟨e, b, t3, E0, _, _, hb, E1, e3⟩ := F_ease_eq (T := T) h1 h2 ht (by omega) hT (by omega) fun t q => by
    have := (hr t q).1.lo1
    omega
  obtain ⟨t4, e4⟩ := F_span_eq (T := T) h1 h2 ht (by omega) hT f0 f1 l0 l1
  obtain ⟨w1, g1⟩ := nI_small (us := us) fun j hj => by
    obtain ⟨t, q, _⟩ := (mem j).mp hj
    have := (List.getElem?_eq_some_iff.mp q).1
    omega
  obtain ⟨w2, g2⟩ := nI_small (us := ks) fun j hj => by
    have := C.lt j hj
    omega
  have q1 := neD_same g1
  have q2 := neD_same g2
  have q3 := neD_same (ease_small h2 (by omega) E0 E1 hb).nice
  have fb := fun (us ws : List Nat) (r : Int) (S : Short n us ws r) => F_is_bar_eq (n := n) (T := T) (ts := ts) (d := barD us ws r) h1 h2 ht (by omega) hT (by omega) (barSz_short S h2)
  refine ev_fun ?_
  unfold g_law_spans_good
  generalize rgD n ts = R at *
  generalize PyData.list ((nI us).map .int) = N1 at *
  generalize PyData.list ((nI ks).map .int) = N2 at *
  generalize PyData.tuple [.int e, b] = N3 at *
  walk_at "mirn"
  refine es_if ?_
  walk_at "mirn"
  refine ev_callKw ?_
  walk_at "mirn"
  refine ⟨_, _, e1, ?_⟩
  walk_at "mirn"
  refine ev_of e1 ?_
  rw [back_ims rfl]
  walk_at "mirn"
  refine ev_o q1 ?_
  refine ⟨false, rfl, fun q => (by cases q), fun _ => ?_⟩
  walk_at "mirn"
  refine es_if ?_
  walk_at "mirn"
  refine ev_callKw ?_
  walk_at "mirn"
  refine ⟨_, _, e2, ?_⟩
  walk_at "mirn"
  refine ev_of e2 ?_
  rw [back_ims rfl]
  walk_at "mirn"
  refine ev_o q2 ?_
  refine ⟨false, rfl, fun q => (by cases q), fun _ => ?_⟩
  walk_at "mirn"
  refine es_if ?_
  walk_at "mirn"
  refine ev_callKw ?_
  walk_at "mirn"
  refine ⟨_, _, e3, ?_⟩
  walk_at "mirn"
  refine ev_of e3 ?_
  rw [back_ims rfl]
  walk_at "mirn"
  refine ev_o q3 ?_
  refine ⟨false, rfl, fun q => (by cases q), fun _ => ?_⟩
  walk_at "mirn"
  refine es_tryBar ?_
  walk_at "mirn"
  rcases e4 with ⟨a, c, S, e4⟩ | ⟨us', ws', r, B, S, _, e4⟩
  · obtain ⟨xa, La, ea⟩ := S.at_lo
    obtain ⟨xb, Lb, eb⟩ := S.at_hi
    have ba := stn_le_sum La.len La.nn h1 f0 f1 l0 l1
    have bb := stn_le_sum Lb.len Lb.nn h1 f0 f1 l0 l1
    have sa := La.sum; have sb := Lb.sum
    have ga : Gd 0 100 (.int a) := gd_int (by omega) (by omega)
    have gc : Gd 0 100 (.int c) := gd_int (by omega) (by omega)
    have gk : Gd 20 40000 (.tuple [.int a, .int c]) := by
      walk_at "gdf"
    have q4 := eqD_same gk.nice
    generalize PyData.tuple [.int a, .int c] = N4 at *
    refine ev_callKw ?_
    walk_at "mirn"
    refine ⟨_, _, e4, ?_⟩
    walk_at "mirn"
    refine ev_of e4 ?_
    try rw [back_ims rfl]
    walk_at "mirn"
    refine ev_o q4 ?_
    rfl
  · obtain ⟨t5, e5⟩ := fb us' ws' r S
    rw [isBarB_iff.mpr B] at e5
    generalize barD us' ws' r = Bd at *
    refine ev_callKwX ?_
    walk_at "mirn"
    refine ⟨_, _, e4, ?_⟩
    refine ⟨rfl, rfl, rfl, .bool true, ?_, rfl⟩
    unfold barAns
    first
    | (simp only [List.getElem?_cons_zero, List.getElem?_cons_succ, e5]; done)
    | (simp [e5]; done)
    | done
theorem law_true (ns : List Int) (hl : ns.length ≤ 63) : ∃ es', runD 7 g_law [.im (.list (ns.map .int))] = .ok (.bool true, es') := by
  suffices h : Ev (runD 7 g_law [.im (lI ns)]) (fun x t => x = .bool true) fun _ _ => False by
    obtain ⟨x, t, e, rfl⟩ := ev_eq h; exact ⟨t, e⟩
  refine ev_fun ?_
  unfold g_law lI
  walk_at "mirn"
  refine es_forK (fun k e => ∃ a1 a2 a3 a4 a5 a6, e = [some (.im (lI ns)), a1, a2, a3, a4, a5, a6]) ⟨_, _, _, _, _, _, rfl⟩ ?_ ?_
  · rintro k d e hk ⟨a1, a2, a3, a4, a5, a6, rfl⟩
    obtain ⟨hk, rfl⟩ := rangeL_get hk
    rw [Int.zero_add]
    walk_at "mirn"
    obtain ⟨p, t1, hp, e1⟩ := F_law_pile_eq ns (k := k) (by omega)
    refine ev_of e1 ?_
    rw [back_ims rfl]
    walk_at "mirn"
    obtain ⟨p1, m, ts, hp1, m1, m2, hts, hraw, e2⟩ := F_law_ring_eq (p := p) (a := 6) (b := 5) (c := 8) hp (by decide) (by decide) (by decide) (by decide) (by decide) (by decide)
    refine ev_of e2 ?_
    obtain ⟨n, rfl⟩ : ∃ n : Nat, m = n := ⟨m.toNat, by omega⟩
    have hix : ixD (rgD n ts) (.int 0) = some (.int (n : Int)) := rfl
    obtain ⟨T, eT⟩ : ∃ T, T = p1 % 10 := ⟨_, rfl⟩
    obtain ⟨p2, ep2⟩ : ∃ q, q = p1 / 10 := ⟨_, rfl⟩
    have T0 : 0 ≤ T := by omega
    have T1 : T < 10 := by omega
    have hp2 : 0 ≤ p2 := by omega
    have k0 := F_law_take_eq (p := p1) (k := 10) (by omega) (by omega)
    rw [← eT, ← ep2] at k0
    have q1 := Int.emod_nonneg p2 (show (n : Int) ≠ 0 by omega)
    have q2 := Int.emod_lt_of_pos p2 (show 0 < (n : Int) by omega)
    have q3 : 0 ≤ p2 / n := Int.ediv_nonneg hp2 (by omega)
    have q4 := Int.emod_nonneg (p2 / n) (show (n : Int) ≠ 0 by omega)
    have q5 := Int.emod_lt_of_pos (p2 / n) (show 0 < (n : Int) by omega)
    have q6 : 0 ≤ p2 / n / n := Int.ediv_nonneg q3 (by omega)
    have k1 := F_law_take_eq (p := p2) (k := n) (by omega) (by omega)
    have k2 := F_law_take_eq (p := p2 / n) (k := n) (by omega) (by omega)
    generalize p2 % n = f at *
    generalize p2 / n % n = g at *
    generalize p2 / n / n = p4 at *
    generalize p2 / n = p3 at *
    obtain ⟨p5, xs, hp5, lx, nx, sx, e3⟩ := F_law_drawn_eq (p := p4) (n := n) (c := T) q6 (by omega) (by omega) T0 (by omega)
    have bx : ∀ x ∈ xs, x ≤ 1000000 := fun x q => by have := (le_sum_of nx).2 x q; omega
    obtain ⟨t4, e4⟩ := F_law_rings_good_ok (n := n) (ts := ts) (xs := xs) (f := f) (l := 1 + g) (by omega) (by omega) hraw (by omega) q1 q2 (by omega) (by omega) (by omega) nx bx
    obtain ⟨t5, e5⟩ := F_law_laying_good_ok (n := n) (T := T) (ts := ts) (by omega) (by omega) hraw (by omega) T0 (by omega)
    obtain ⟨t6, e6⟩ := F_law_spans_good_ok (n := n) (T := T) (ts := ts) (f := f) (l := 1 + g) (by omega) (by omega) hraw (by omega) T0 (by omega) q1 q2 (by omega) (by omega)
    generalize rgD n ts = R at *
    walk_at "mirn"
    refine ev_of k0 ?_
    walk_at "mirn"
    refine ev_o hix ?_
    walk_at "mirn"
    refine ev_of k1 ?_
    walk_at "mirn"
    refine ev_o hix ?_
    walk_at "mirn"
    refine ev_of k2 ?_
    walk_at "mirn"
    refine es_if ?_
    walk_at "mirn"
    refine ev_o hix ?_
    walk_at "mirn"
    refine ev_of e3 ?_
    walk_at "mirn"
    refine ev_of e4 ?_
    rw [back_ims rfl]
    walk_at "mirn"
    refine es_if ?_
    walk_at "mirn"
    refine ev_of e5 ?_
    rw [back_ims rfl]
    walk_at "mirn"
    refine ev_of e6 ?_
    rw [back_ims rfl]
    walk_at "mirn"
    exact ⟨_, _, _, _, _, _, rfl⟩
  · rintro e ⟨a1, a2, a3, a4, a5, a6, rfl⟩
    walk_at "mirn"
    rfl
end DL
open PySem PySem.W PyProof.Rows
set_option maxHeartbeats 0 in
theorem PySem.Challenge.cw_ringstints_k24_names_of_arguments_holds : PySem.Challenge.rw_ringstints_k24_names_of_arguments.Holds := by
  w_on; o_law; k_head; (case hw => w_witness2)
  k_fill
  refine DL.walk_ofG (l := PySem.Challenge.rw_ringstints_k24_names_of_arguments) (n := 63) (k := 8) (m := 7) (x := "_law_script") (g := DL.g_law) (fr := true) rfl (by decide) rfl ⟨rfl, by decide, by decide⟩ (fun w h Y => PySem.W.kIn_of Y) ?F DL.law_true
  case F =>
    intro w mg fa h KX G hmg
    have T : DL.Blt mg := by
      refine' DL.Blt.mk (PySem.W.mg_none_of KX G ?b_len) (PySem.W.mg_none_of KX G ?b_range) (PySem.W.mg_none_of KX G ?b_int) (PySem.W.mg_none_of KX G ?b_str) (PySem.W.mg_none_of KX G ?b_tuple) (PySem.W.mg_none_of KX G ?b_list) (PySem.W.mg_none_of KX G ?b_sum) (PySem.W.mg_none_of KX G ?b_max) (PySem.W.mg_none_of KX G ?b_min) (PySem.W.mg_none_of KX G ?b_abs) (PySem.W.mg_none_of KX G ?b_all) (PySem.W.mg_none_of KX G ?b_sorted) (PySem.W.mg_none_of KX G ?b_repr) (PySem.W.mg_none_of KX G ?b_isinstance) (PySem.W.mg_none_of KX G ?b_bool) (PySem.W.mg_none_of KX G ?b_enumerate) (PySem.W.mg_none_of KX G ?b_zip) (PySem.W.mg_none_of KX G ?b_ValueError)
      (case b_len => k_is); (case b_range => k_is); (case b_int => k_is); (case b_str => k_is); (case b_tuple => k_is); (case b_list => k_is); (case b_sum => k_is); (case b_max => k_is); (case b_min => k_is); (case b_abs => k_is); (case b_all => k_is); (case b_sorted => k_is); (case b_repr => k_is); (case b_isinstance => k_is); (case b_bool => k_is); (case b_enumerate => k_is); (case b_zip => k_is); (case b_ValueError => k_is)
    obtain ⟨C_NoRing, x_NoRing⟩ : ∃ C, DL.ExF _ mg "NoRing" C := by
      refine' ⟨_, DL.exf_of KX G ?a ?k ?b ?t ?x⟩
      (case a => k_is); (case k => k_is); (case b => k_is); (case t => k_is); (case x => k_exc)
    obtain ⟨C_NoLaying, x_NoLaying⟩ : ∃ C, DL.ExF _ mg "NoLaying" C := by
      refine' ⟨_, DL.exf_of KX G ?a ?k ?b ?t ?x⟩
      (case a => k_is); (case k => k_is); (case b => k_is); (case t => k_is); (case x => k_exc)
    obtain ⟨C_NoTotal, x_NoTotal⟩ : ∃ C, DL.ExF _ mg "NoTotal" C := by
      refine' ⟨_, DL.exf_of KX G ?a ?k ?b ?t ?x⟩
      (case a => k_is); (case k => k_is); (case b => k_is); (case t => k_is); (case x => k_exc)
    obtain ⟨C_NoStretch, x_NoStretch⟩ : ∃ C, DL.ExF _ mg "NoStretch" C := by
      refine' ⟨_, DL.exf_of KX G ?a ?k ?b ?t ?x⟩
      (case a => k_is); (case k => k_is); (case b => k_is); (case t => k_is); (case x => k_exc)
    obtain ⟨C_Barred, xI_Barred⟩ : ∃ C, DL.InitF _ mg "Barred" "bar" DL.sI_Barred C := by
      refine' ⟨_, DL.initf_of KX G ?a ?t ?i ?ti ?l ?c ?k (fun _ _ _ _ _ _ us hl => match us, hl with | [_, _], _ => rfl)⟩
      (case a => k_is); (case i => k_is); (case ti => k_is); (case l => k_is); (case c => k_is); (case k => k_is); (case t => kernel_rfl)
    have XA : DL.ExA (DL.FrX KX) mg := DL.exA_of KX G (by kernel_rfl)
    obtain ⟨t_MOST_PLACES, g_MOST_PLACES⟩ : ∃ t, mg "MOST_PLACES" = some (.int 40 t) := by
      obtain ⟨v, hv, t, ht⟩ : ∃ v, mg "MOST_PLACES" = some v ∧ ∃ t, v = .int 40 t := by
        refine' ⟨_, PySem.W.mg_of KX G ?aMOST_PLACES, ?bMOST_PLACES⟩
        (case aMOST_PLACES => k_is)
        exact ⟨_, rfl⟩
      exact ⟨t, ht ▸ hv⟩
    have S_is_whole : DL.Stands (DL.FrX KX) mg "is_whole" DL.s_is_whole ["thing"] := by
      refine' (DL.stands_of KX G ?a ?l ?c ?k (fun _ _ _ _ _ _ us hl => match us, hl with | [_], _ => rfl) : DL.Stands _ mg "is_whole" DL.s_is_whole ["thing"])
      (case a => k_is); (case l => k_is); (case c => k_is); (case k => k_is)
    have S_is_from : DL.Stands (DL.FrX KX) mg "is_from" DL.s_is_from ["thing", "low"] := by
      refine' (DL.stands_of KX G ?a ?l ?c ?k (fun _ _ _ _ _ _ us hl => match us, hl with | [_, _], _ => rfl) : DL.Stands _ mg "is_from" DL.s_is_from ["thing", "low"])
      (case a => k_is); (case l => k_is); (case c => k_is); (case k => k_is)
    have S_is_within : DL.Stands (DL.FrX KX) mg "is_within" DL.s_is_within ["thing", "low", "high"] := by
      refine' (DL.stands_of KX G ?a ?l ?c ?k (fun _ _ _ _ _ _ us hl => match us, hl with | [_, _, _], _ => rfl) : DL.Stands _ mg "is_within" DL.s_is_within ["thing", "low", "high"])
      (case a => k_is); (case l => k_is); (case c => k_is); (case k => k_is)
    have S_is_term : DL.Stands (DL.FrX KX) mg "is_term" DL.s_is_term ["many", "thing"] := by
      refine' (DL.stands_of KX G ?a ?l ?c ?k (fun _ _ _ _ _ _ us hl => match us, hl with | [_, _], _ => rfl) : DL.Stands _ mg "is_term" DL.s_is_term ["many", "thing"])
      (case a => k_is); (case l => k_is); (case c => k_is); (case k => k_is)
    have S_is_right_ring : DL.Stands (DL.FrX KX) mg "is_right_ring" DL.s_is_right_ring ["thing"] := by
      refine' (DL.stands_of KX G ?a ?l ?c ?k (fun _ _ _ _ _ _ us hl => match us, hl with | [_], _ => rfl) : DL.Stands _ mg "is_right_ring" DL.s_is_right_ring ["thing"])
      (case a => k_is); (case l => k_is); (case c => k_is); (case k => k_is)
    have S_is_right_laying : DL.Stands (DL.FrX KX) mg "is_right_laying" DL.s_is_right_laying ["ring", "thing"] := by
      refine' (DL.stands_of KX G ?a ?l ?c ?k (fun _ _ _ _ _ _ us hl => match us, hl with | [_, _], _ => rfl) : DL.Stands _ mg "is_right_laying" DL.s_is_right_laying ["ring", "thing"])
      (case a => k_is); (case l => k_is); (case c => k_is); (case k => k_is)
    have S_look_at_ring : DL.Stands (DL.FrX KX) mg "look_at_ring" DL.s_look_at_ring ["ring"] := by
      refine' (DL.stands_of KX G ?a ?l ?c ?k (fun _ _ _ _ _ _ us hl => match us, hl with | [_], _ => rfl) : DL.Stands _ mg "look_at_ring" DL.s_look_at_ring ["ring"])
      (case a => k_is); (case l => k_is); (case c => k_is); (case k => k_is)
    have S_look_at_laying : DL.Stands (DL.FrX KX) mg "look_at_laying" DL.s_look_at_laying ["ring", "laying"] := by
      refine' (DL.stands_of KX G ?a ?l ?c ?k (fun _ _ _ _ _ _ us hl => match us, hl with | [_, _], _ => rfl) : DL.Stands _ mg "look_at_laying" DL.s_look_at_laying ["ring", "laying"])
      (case a => k_is); (case l => k_is); (case c => k_is); (case k => k_is)
    have S_look_at_total : DL.Stands (DL.FrX KX) mg "look_at_total" DL.s_look_at_total ["total"] := by
      refine' (DL.stands_of KX G ?a ?l ?c ?k (fun _ _ _ _ _ _ us hl => match us, hl with | [_], _ => rfl) : DL.Stands _ mg "look_at_total" DL.s_look_at_total ["total"])
      (case a => k_is); (case l => k_is); (case c => k_is); (case k => k_is)
    have S_look_at_stretch : DL.Stands (DL.FrX KX) mg "look_at_stretch" DL.s_look_at_stretch ["ring", "first", "length"] := by
      refine' (DL.stands_of KX G ?a ?l ?c ?k (fun _ _ _ _ _ _ us hl => match us, hl with | [_, _, _], _ => rfl) : DL.Stands _ mg "look_at_stretch" DL.s_look_at_stretch ["ring", "first", "length"])
      (case a => k_is); (case l => k_is); (case c => k_is); (case k => k_is)
    have S_is_ring : DL.Stands (DL.FrX KX) mg "is_ring" DL.s_is_ring ["thing"] := by
      refine' (DL.stands_of KX G ?a ?l ?c ?k (fun _ _ _ _ _ _ us hl => match us, hl with | [_], _ => rfl) : DL.Stands _ mg "is_ring" DL.s_is_ring ["thing"])
      (case a => k_is); (case l => k_is); (case c => k_is); (case k => k_is)
    have S_is_laying : DL.Stands (DL.FrX KX) mg "is_laying" DL.s_is_laying ["ring", "thing"] := by
      refine' (DL.stands_of KX G ?a ?l ?c ?k (fun _ _ _ _ _ _ us hl => match us, hl with | [_, _], _ => rfl) : DL.Stands _ mg "is_laying" DL.s_is_laying ["ring", "thing"])
      (case a => k_is); (case l => k_is); (case c => k_is); (case k => k_is)
    have S_places_of : DL.Stands (DL.FrX KX) mg "places_of" DL.s_places_of ["many", "first", "length"] := by
      refine' (DL.stands_of KX G ?a ?l ?c ?k (fun _ _ _ _ _ _ us hl => match us, hl with | [_, _, _], _ => rfl) : DL.Stands _ mg "places_of" DL.s_places_of ["many", "first", "length"])
      (case a => k_is); (case l => k_is); (case c => k_is); (case k => k_is)
    have S_stretch : DL.Stands (DL.FrX KX) mg "stretch" DL.s_stretch ["ring", "first", "length"] := by
      refine' (DL.stands_of KX G ?a ?l ?c ?k (fun _ _ _ _ _ _ us hl => match us, hl with | [_, _, _], _ => rfl) : DL.Stands _ mg "stretch" DL.s_stretch ["ring", "first", "length"])
      (case a => k_is); (case l => k_is); (case c => k_is); (case k => k_is)
    have S_stones_in : DL.Stands (DL.FrX KX) mg "stones_in" DL.s_stones_in ["laying", "first", "length"] := by
      refine' (DL.stands_of KX G ?a ?l ?c ?k (fun _ _ _ _ _ _ us hl => match us, hl with | [_, _, _], _ => rfl) : DL.Stands _ mg "stones_in" DL.s_stones_in ["laying", "first", "length"])
      (case a => k_is); (case l => k_is); (case c => k_is); (case k => k_is)
    have S_broken_by : DL.Stands (DL.FrX KX) mg "broken_by" DL.s_broken_by ["ring", "laying"] := by
      refine' (DL.stands_of KX G ?a ?l ?c ?k (fun _ _ _ _ _ _ us hl => match us, hl with | [_, _], _ => rfl) : DL.Stands _ mg "broken_by" DL.s_broken_by ["ring", "laying"])
      (case a => k_is); (case l => k_is); (case c => k_is); (case k => k_is)
    have S_broken : DL.Stands (DL.FrX KX) mg "broken" DL.s_broken ["ring", "laying"] := by
      refine' (DL.stands_of KX G ?a ?l ?c ?k (fun _ _ _ _ _ _ us hl => match us, hl with | [_, _], _ => rfl) : DL.Stands _ mg "broken" DL.s_broken ["ring", "laying"])
      (case a => k_is); (case l => k_is); (case c => k_is); (case k => k_is)
    have S_demands : DL.Stands (DL.FrX KX) mg "demands" DL.s_demands ["ring", "total"] := by
      refine' (DL.stands_of KX G ?a ?l ?c ?k (fun _ _ _ _ _ _ us hl => match us, hl with | [_, _], _ => rfl) : DL.Stands _ mg "demands" DL.s_demands ["ring", "total"])
      (case a => k_is); (case l => k_is); (case c => k_is); (case k => k_is)
    have S_contradiction : DL.Stands (DL.FrX KX) mg "contradiction" DL.s_contradiction ["many", "edges"] := by
      refine' (DL.stands_of KX G ?a ?l ?c ?k (fun _ _ _ _ _ _ us hl => match us, hl with | [_, _], _ => rfl) : DL.Stands _ mg "contradiction" DL.s_contradiction ["many", "edges"])
      (case a => k_is); (case l => k_is); (case c => k_is); (case k => k_is)
    have S_found_bar : DL.Stands (DL.FrX KX) mg "found_bar" DL.s_found_bar ["ring", "total"] := by
      refine' (DL.stands_of KX G ?a ?l ?c ?k (fun _ _ _ _ _ _ us hl => match us, hl with | [_, _], _ => rfl) : DL.Stands _ mg "found_bar" DL.s_found_bar ["ring", "total"])
      (case a => k_is); (case l => k_is); (case c => k_is); (case k => k_is)
    have S_heights_from : DL.Stands (DL.FrX KX) mg "heights_from" DL.s_heights_from ["many", "edges", "place"] := by
      refine' (DL.stands_of KX G ?a ?l ?c ?k (fun _ _ _ _ _ _ us hl => match us, hl with | [_, _, _], _ => rfl) : DL.Stands _ mg "heights_from" DL.s_heights_from ["many", "edges", "place"])
      (case a => k_is); (case l => k_is); (case c => k_is); (case k => k_is)
    have S_turned : DL.Stands (DL.FrX KX) mg "turned" DL.s_turned ["edges"] := by
      refine' (DL.stands_of KX G ?a ?l ?c ?k (fun _ _ _ _ _ _ us hl => match us, hl with | [_], _ => rfl) : DL.Stands _ mg "turned" DL.s_turned ["edges"])
      (case a => k_is); (case l => k_is); (case c => k_is); (case k => k_is)
    have S_laid : DL.Stands (DL.FrX KX) mg "laid" DL.s_laid ["sums", "total"] := by
      refine' (DL.stands_of KX G ?a ?l ?c ?k (fun _ _ _ _ _ _ us hl => match us, hl with | [_, _], _ => rfl) : DL.Stands _ mg "laid" DL.s_laid ["sums", "total"])
      (case a => k_is); (case l => k_is); (case c => k_is); (case k => k_is)
    have S_found_lay : DL.Stands (DL.FrX KX) mg "found_lay" DL.s_found_lay ["ring", "total"] := by
      refine' (DL.stands_of KX G ?a ?l ?c ?k (fun _ _ _ _ _ _ us hl => match us, hl with | [_, _], _ => rfl) : DL.Stands _ mg "found_lay" DL.s_found_lay ["ring", "total"])
      (case a => k_is); (case l => k_is); (case c => k_is); (case k => k_is)
    have S_lay : DL.Stands (DL.FrX KX) mg "lay" DL.s_lay ["ring", "total"] := by
      refine' (DL.stands_of KX G ?a ?l ?c ?k (fun _ _ _ _ _ _ us hl => match us, hl with | [_, _], _ => rfl) : DL.Stands _ mg "lay" DL.s_lay ["ring", "total"])
      (case a => k_is); (case l => k_is); (case c => k_is); (case k => k_is)
    have S_is_numbers : DL.Stands (DL.FrX KX) mg "is_numbers" DL.s_is_numbers ["ring", "thing"] := by
      refine' (DL.stands_of KX G ?a ?l ?c ?k (fun _ _ _ _ _ _ us hl => match us, hl with | [_, _], _ => rfl) : DL.Stands _ mg "is_numbers" DL.s_is_numbers ["ring", "thing"])
      (case a => k_is); (case l => k_is); (case c => k_is); (case k => k_is)
    have S_counted : DL.Stands (DL.FrX KX) mg "counted" DL.s_counted ["ring", "numbers"] := by
      refine' (DL.stands_of KX G ?a ?l ?c ?k (fun _ _ _ _ _ _ us hl => match us, hl with | [_, _], _ => rfl) : DL.Stands _ mg "counted" DL.s_counted ["ring", "numbers"])
      (case a => k_is); (case l => k_is); (case c => k_is); (case k => k_is)
    have S_is_bar : DL.Stands (DL.FrX KX) mg "is_bar" DL.s_is_bar ["ring", "total", "thing"] := by
      refine' (DL.stands_of KX G ?a ?l ?c ?k (fun _ _ _ _ _ _ us hl => match us, hl with | [_, _, _], _ => rfl) : DL.Stands _ mg "is_bar" DL.s_is_bar ["ring", "total", "thing"])
      (case a => k_is); (case l => k_is); (case c => k_is); (case k => k_is)
    have S_is_capped : DL.Stands (DL.FrX KX) mg "is_capped" DL.s_is_capped ["ring"] := by
      refine' (DL.stands_of KX G ?a ?l ?c ?k (fun _ _ _ _ _ _ us hl => match us, hl with | [_], _ => rfl) : DL.Stands _ mg "is_capped" DL.s_is_capped ["ring"])
      (case a => k_is); (case l => k_is); (case c => k_is); (case k => k_is)
    have S_some_total : DL.Stands (DL.FrX KX) mg "some_total" DL.s_some_total ["ring", "high"] := by
      refine' (DL.stands_of KX G ?a ?l ?c ?k (fun _ _ _ _ _ _ us hl => match us, hl with | [_, _], _ => rfl) : DL.Stands _ mg "some_total" DL.s_some_total ["ring", "high"])
      (case a => k_is); (case l => k_is); (case c => k_is); (case k => k_is)
    have S_end_total : DL.Stands (DL.FrX KX) mg "end_total" DL.s_end_total ["ring", "inner", "outer"] := by
      refine' (DL.stands_of KX G ?a ?l ?c ?k (fun _ _ _ _ _ _ us hl => match us, hl with | [_, _, _], _ => rfl) : DL.Stands _ mg "end_total" DL.s_end_total ["ring", "inner", "outer"])
      (case a => k_is); (case l => k_is); (case c => k_is); (case k => k_is)
    have S_totals : DL.Stands (DL.FrX KX) mg "totals" DL.s_totals ["ring"] := by
      refine' (DL.stands_of KX G ?a ?l ?c ?k (fun _ _ _ _ _ _ us hl => match us, hl with | [_], _ => rfl) : DL.Stands _ mg "totals" DL.s_totals ["ring"])
      (case a => k_is); (case l => k_is); (case c => k_is); (case k => k_is)
    have S_found_span : DL.Stands (DL.FrX KX) mg "found_span" DL.s_found_span ["ring", "total", "first", "length"] := by
      refine' (DL.stands_of KX G ?a ?l ?c ?k (fun _ _ _ _ _ _ us hl => match us, hl with | [_, _, _, _], _ => rfl) : DL.Stands _ mg "found_span" DL.s_found_span ["ring", "total", "first", "length"])
      (case a => k_is); (case l => k_is); (case c => k_is); (case k => k_is)
    have S_span : DL.Stands (DL.FrX KX) mg "span" DL.s_span ["ring", "total", "first", "length"] := by
      refine' (DL.stands_of KX G ?a ?l ?c ?k (fun _ _ _ _ _ _ us hl => match us, hl with | [_, _, _, _], _ => rfl) : DL.Stands _ mg "span" DL.s_span ["ring", "total", "first", "length"])
      (case a => k_is); (case l => k_is); (case c => k_is); (case k => k_is)
    have S_is_needless : DL.Stands (DL.FrX KX) mg "is_needless" DL.s_is_needless ["many", "total", "terms", "term"] := by
      refine' (DL.stands_of KX G ?a ?l ?c ?k (fun _ _ _ _ _ _ us hl => match us, hl with | [_, _, _, _], _ => rfl) : DL.Stands _ mg "is_needless" DL.s_is_needless ["many", "total", "terms", "term"])
      (case a => k_is); (case l => k_is); (case c => k_is); (case k => k_is)
    have S_needless : DL.Stands (DL.FrX KX) mg "needless" DL.s_needless ["ring", "total"] := by
      refine' (DL.stands_of KX G ?a ?l ?c ?k (fun _ _ _ _ _ _ us hl => match us, hl with | [_, _], _ => rfl) : DL.Stands _ mg "needless" DL.s_needless ["ring", "total"])
      (case a => k_is); (case l => k_is); (case c => k_is); (case k => k_is)
    have S_core : DL.Stands (DL.FrX KX) mg "core" DL.s_core ["ring", "total"] := by
      refine' (DL.stands_of KX G ?a ?l ?c ?k (fun _ _ _ _ _ _ us hl => match us, hl with | [_, _], _ => rfl) : DL.Stands _ mg "core" DL.s_core ["ring", "total"])
      (case a => k_is); (case l => k_is); (case c => k_is); (case k => k_is)
    have S_eased : DL.Stands (DL.FrX KX) mg "eased" DL.s_eased ["ring", "by"] := by
      refine' (DL.stands_of KX G ?a ?l ?c ?k (fun _ _ _ _ _ _ us hl => match us, hl with | [_, _], _ => rfl) : DL.Stands _ mg "eased" DL.s_eased ["ring", "by"])
      (case a => k_is); (case l => k_is); (case c => k_is); (case k => k_is)
    have S_ease : DL.Stands (DL.FrX KX) mg "ease" DL.s_ease ["ring", "total"] := by
      refine' (DL.stands_of KX G ?a ?l ?c ?k (fun _ _ _ _ _ _ us hl => match us, hl with | [_, _], _ => rfl) : DL.Stands _ mg "ease" DL.s_ease ["ring", "total"])
      (case a => k_is); (case l => k_is); (case c => k_is); (case k => k_is)
    have S_law_mixed : DL.Stands (DL.FrX KX) mg "_law_mixed" DL.s_law_mixed ["_law_cell", "_law_k"] := by
      refine' (DL.stands_of KX G ?a ?l ?c ?k (fun _ _ _ _ _ _ us hl => match us, hl with | [_, _], _ => rfl) : DL.Stands _ mg "_law_mixed" DL.s_law_mixed ["_law_cell", "_law_k"])
      (case a => k_is); (case l => k_is); (case c => k_is); (case k => k_is)
    have S_law_pile : DL.Stands (DL.FrX KX) mg "_law_pile" DL.s_law_pile ["_law_script", "_law_k"] := by
      refine' (DL.stands_of KX G ?a ?l ?c ?k (fun _ _ _ _ _ _ us hl => match us, hl with | [_, _], _ => rfl) : DL.Stands _ mg "_law_pile" DL.s_law_pile ["_law_script", "_law_k"])
      (case a => k_is); (case l => k_is); (case c => k_is); (case k => k_is)
    have S_law_take : DL.Stands (DL.FrX KX) mg "_law_take" DL.s_law_take ["_law_pile_here", "_law_size"] := by
      refine' (DL.stands_of KX G ?a ?l ?c ?k (fun _ _ _ _ _ _ us hl => match us, hl with | [_, _], _ => rfl) : DL.Stands _ mg "_law_take" DL.s_law_take ["_law_pile_here", "_law_size"])
      (case a => k_is); (case l => k_is); (case c => k_is); (case k => k_is)
    have S_law_places : DL.Stands (DL.FrX KX) mg "_law_places" DL.s_law_places ["_law_many", "_law_first_it", "_law_length_it"] := by
      refine' (DL.stands_of KX G ?a ?l ?c ?k (fun _ _ _ _ _ _ us hl => match us, hl with | [_, _, _], _ => rfl) : DL.Stands _ mg "_law_places" DL.s_law_places ["_law_many", "_law_first_it", "_law_length_it"])
      (case a => k_is); (case l => k_is); (case c => k_is); (case k => k_is)
    have S_law_stones : DL.Stands (DL.FrX KX) mg "_law_stones" DL.s_law_stones ["_law_laying_it", "_law_first_it", "_law_length_it"] := by
      refine' (DL.stands_of KX G ?a ?l ?c ?k (fun _ _ _ _ _ _ us hl => match us, hl with | [_, _, _], _ => rfl) : DL.Stands _ mg "_law_stones" DL.s_law_stones ["_law_laying_it", "_law_first_it", "_law_length_it"])
      (case a => k_is); (case l => k_is); (case c => k_is); (case k => k_is)
    have S_law_drawn : DL.Stands (DL.FrX KX) mg "_law_drawn" DL.s_law_drawn ["_law_pile_here", "_law_many", "_law_total_it"] := by
      refine' (DL.stands_of KX G ?a ?l ?c ?k (fun _ _ _ _ _ _ us hl => match us, hl with | [_, _, _], _ => rfl) : DL.Stands _ mg "_law_drawn" DL.s_law_drawn ["_law_pile_here", "_law_many", "_law_total_it"])
      (case a => k_is); (case l => k_is); (case c => k_is); (case k => k_is)
    have S_law_ring : DL.Stands (DL.FrX KX) mg "_law_ring" DL.s_law_ring ["_law_pile_here", "_law_places_here", "_law_count", "_law_wide"] := by
      refine' (DL.stands_of KX G ?a ?l ?c ?k (fun _ _ _ _ _ _ us hl => match us, hl with | [_, _, _, _], _ => rfl) : DL.Stands _ mg "_law_ring" DL.s_law_ring ["_law_pile_here", "_law_places_here", "_law_count", "_law_wide"])
      (case a => k_is); (case l => k_is); (case c => k_is); (case k => k_is)
    have S_law_rings_good : DL.Stands (DL.FrX KX) mg "_law_rings_good" DL.s_law_rings_good ["_law_loop", "_law_spot", "_law_wide", "_law_stones_of"] := by
      refine' (DL.stands_of KX G ?a ?l ?c ?k (fun _ _ _ _ _ _ us hl => match us, hl with | [_, _, _, _], _ => rfl) : DL.Stands _ mg "_law_rings_good" DL.s_law_rings_good ["_law_loop", "_law_spot", "_law_wide", "_law_stones_of"])
      (case a => k_is); (case l => k_is); (case c => k_is); (case k => k_is)
    have S_law_laying_good : DL.Stands (DL.FrX KX) mg "_law_laying_good" DL.s_law_laying_good ["_law_loop", "_law_sum_of"] := by
      refine' (DL.stands_of KX G ?a ?l ?c ?k (fun _ _ _ _ _ _ us hl => match us, hl with | [_, _], _ => rfl) : DL.Stands _ mg "_law_laying_good" DL.s_law_laying_good ["_law_loop", "_law_sum_of"])
      (case a => k_is); (case l => k_is); (case c => k_is); (case k => k_is)
    have S_law_spans_good : DL.Stands (DL.FrX KX) mg "_law_spans_good" DL.s_law_spans_good ["_law_loop", "_law_sum_of", "_law_spot", "_law_wide"] := by
      refine' (DL.stands_of KX G ?a ?l ?c ?k (fun _ _ _ _ _ _ us hl => match us, hl with | [_, _, _, _], _ => rfl) : DL.Stands _ mg "_law_spans_good" DL.s_law_spans_good ["_law_loop", "_law_sum_of", "_law_spot", "_law_wide"])
      (case a => k_is); (case l => k_is); (case c => k_is); (case k => k_is)
    have S_law : DL.Stands (DL.FrX KX) mg "law" DL.s_law ["_law_script"] := by
      refine' (DL.stands_of KX G ?a ?l ?c ?k (fun _ _ _ _ _ _ us hl => match us, hl with | [_], _ => rfl) : DL.Stands _ mg "law" DL.s_law ["_law_script"])
      (case a => k_is); (case l => k_is); (case c => k_is); (case k => k_is)
    have H : ∀ base : Heap, (DL.FrX KX).In base → base.Ns mainGlobals mg → DL.Has PySem.Challenge.pw_ringstints_k24_names_of_arguments w (DL.FrX KX) mg base (DL.caOf mg) "law" 8 ["_law_script"] [] true DL.F_law := by
      intro base _ _
      have h_is_whole := DL.ok_is_whole (P := PySem.Challenge.pw_ringstints_k24_names_of_arguments) (w := w) (base := base) T S_is_whole
      have hH_is_whole := DL.okH_is_whole (P := PySem.Challenge.pw_ringstints_k24_names_of_arguments) (w := w) (base := base) T S_is_whole
      have h_is_from := DL.ok_is_from (P := PySem.Challenge.pw_ringstints_k24_names_of_arguments) (w := w) (base := base) T S_is_from h_is_whole
      have hH_is_from := DL.okH_is_from (P := PySem.Challenge.pw_ringstints_k24_names_of_arguments) (w := w) (base := base) T S_is_from hH_is_whole
      have h_is_within := DL.ok_is_within (P := PySem.Challenge.pw_ringstints_k24_names_of_arguments) (w := w) (base := base) T S_is_within h_is_whole
      have hH_is_within := DL.okH_is_within (P := PySem.Challenge.pw_ringstints_k24_names_of_arguments) (w := w) (base := base) T S_is_within hH_is_whole
      have h_is_term := DL.ok_is_term (P := PySem.Challenge.pw_ringstints_k24_names_of_arguments) (w := w) (base := base) T S_is_term h_is_within h_is_from
      have hH_is_term := DL.okH_is_term (P := PySem.Challenge.pw_ringstints_k24_names_of_arguments) (w := w) (base := base) T S_is_term hH_is_within hH_is_from
      have h_is_right_ring := DL.ok_is_right_ring (P := PySem.Challenge.pw_ringstints_k24_names_of_arguments) (w := w) (base := base) T S_is_right_ring g_MOST_PLACES h_is_within h_is_term
      have hH_is_right_ring := DL.okH_is_right_ring (P := PySem.Challenge.pw_ringstints_k24_names_of_arguments) (w := w) (base := base) T S_is_right_ring g_MOST_PLACES hH_is_within hH_is_term
      have h_is_right_laying := DL.ok_is_right_laying (P := PySem.Challenge.pw_ringstints_k24_names_of_arguments) (w := w) (base := base) T S_is_right_laying h_is_from
      have h_look_at_ring := DL.ok_look_at_ring (P := PySem.Challenge.pw_ringstints_k24_names_of_arguments) (w := w) (base := base) T S_look_at_ring x_NoRing h_is_right_ring
      have hH_look_at_ring := DL.okH_look_at_ring (P := PySem.Challenge.pw_ringstints_k24_names_of_arguments) (w := w) (base := base) T S_look_at_ring x_NoRing hH_is_right_ring
      have h_look_at_laying := DL.ok_look_at_laying (P := PySem.Challenge.pw_ringstints_k24_names_of_arguments) (w := w) (base := base) T S_look_at_laying x_NoLaying h_is_right_laying
      have h_look_at_total := DL.ok_look_at_total (P := PySem.Challenge.pw_ringstints_k24_names_of_arguments) (w := w) (base := base) T S_look_at_total x_NoTotal h_is_from
      have hH_look_at_total := DL.okH_look_at_total (P := PySem.Challenge.pw_ringstints_k24_names_of_arguments) (w := w) (base := base) T S_look_at_total x_NoTotal hH_is_from
      have h_look_at_stretch := DL.ok_look_at_stretch (P := PySem.Challenge.pw_ringstints_k24_names_of_arguments) (w := w) (base := base) T S_look_at_stretch x_NoStretch h_is_within
      have h_is_ring := DL.ok_is_ring (P := PySem.Challenge.pw_ringstints_k24_names_of_arguments) (w := w) (base := base) T S_is_ring h_is_right_ring
      have h_is_laying := DL.ok_is_laying (P := PySem.Challenge.pw_ringstints_k24_names_of_arguments) (w := w) (base := base) T S_is_laying h_look_at_ring h_is_right_laying
      have h_places_of := DL.ok_places_of (P := PySem.Challenge.pw_ringstints_k24_names_of_arguments) (w := w) (base := base) T S_places_of
      have hH_places_of := DL.okH_places_of (P := PySem.Challenge.pw_ringstints_k24_names_of_arguments) (w := w) (base := base) T S_places_of
      have h_stretch := DL.ok_stretch (P := PySem.Challenge.pw_ringstints_k24_names_of_arguments) (w := w) (base := base) T S_stretch h_look_at_ring h_look_at_stretch h_places_of
      have h_stones_in := DL.ok_stones_in (P := PySem.Challenge.pw_ringstints_k24_names_of_arguments) (w := w) (base := base) T S_stones_in h_places_of
      have h_broken_by := DL.ok_broken_by (P := PySem.Challenge.pw_ringstints_k24_names_of_arguments) (w := w) (base := base) T S_broken_by h_stones_in
      have h_broken := DL.ok_broken (P := PySem.Challenge.pw_ringstints_k24_names_of_arguments) (w := w) (base := base) T S_broken h_look_at_ring h_look_at_laying h_broken_by
      have h_demands := DL.ok_demands (P := PySem.Challenge.pw_ringstints_k24_names_of_arguments) (w := w) (base := base) T S_demands
      have h_contradiction := DL.ok_contradiction (P := PySem.Challenge.pw_ringstints_k24_names_of_arguments) (w := w) (base := base) T S_contradiction
      have h_found_bar := DL.ok_found_bar (P := PySem.Challenge.pw_ringstints_k24_names_of_arguments) (w := w) (base := base) T S_found_bar h_contradiction h_demands
      have h_heights_from := DL.ok_heights_from (P := PySem.Challenge.pw_ringstints_k24_names_of_arguments) (w := w) (base := base) T S_heights_from
      have h_turned := DL.ok_turned (P := PySem.Challenge.pw_ringstints_k24_names_of_arguments) (w := w) (base := base) T S_turned
      have h_laid := DL.ok_laid (P := PySem.Challenge.pw_ringstints_k24_names_of_arguments) (w := w) (base := base) T S_laid
      have h_found_lay := DL.ok_found_lay (P := PySem.Challenge.pw_ringstints_k24_names_of_arguments) (w := w) (base := base) T S_found_lay h_found_bar h_demands h_laid h_heights_from h_turned
      have h_lay := DL.ok_lay (P := PySem.Challenge.pw_ringstints_k24_names_of_arguments) (w := w) (base := base) T S_lay h_look_at_ring h_look_at_total h_found_lay
      have h_is_numbers := DL.ok_is_numbers (P := PySem.Challenge.pw_ringstints_k24_names_of_arguments) (w := w) (base := base) T S_is_numbers h_is_whole
      have hH_is_numbers := DL.okH_is_numbers (P := PySem.Challenge.pw_ringstints_k24_names_of_arguments) (w := w) (base := base) T S_is_numbers hH_is_whole
      have h_counted := DL.ok_counted (P := PySem.Challenge.pw_ringstints_k24_names_of_arguments) (w := w) (base := base) T S_counted h_places_of
      have hH_counted := DL.okH_counted (P := PySem.Challenge.pw_ringstints_k24_names_of_arguments) (w := w) (base := base) T S_counted hH_places_of
      have h_is_bar := DL.ok_is_bar (P := PySem.Challenge.pw_ringstints_k24_names_of_arguments) (w := w) (base := base) T S_is_bar h_look_at_ring h_look_at_total h_is_whole h_is_numbers h_counted
      have hH_is_bar := DL.okH_is_bar (P := PySem.Challenge.pw_ringstints_k24_names_of_arguments) (w := w) (base := base) T S_is_bar hH_look_at_ring hH_look_at_total hH_is_whole hH_is_numbers hH_counted
      have h_is_capped := DL.ok_is_capped (P := PySem.Challenge.pw_ringstints_k24_names_of_arguments) (w := w) (base := base) T S_is_capped h_counted
      have h_some_total := DL.ok_some_total (P := PySem.Challenge.pw_ringstints_k24_names_of_arguments) (w := w) (base := base) T S_some_total h_found_bar
      have h_end_total := DL.ok_end_total (P := PySem.Challenge.pw_ringstints_k24_names_of_arguments) (w := w) (base := base) T S_end_total h_found_bar
      have h_totals := DL.ok_totals (P := PySem.Challenge.pw_ringstints_k24_names_of_arguments) (w := w) (base := base) T S_totals h_look_at_ring h_some_total h_end_total h_is_capped h_found_bar
      have h_found_span := DL.ok_found_span (P := PySem.Challenge.pw_ringstints_k24_names_of_arguments) (w := w) (base := base) T S_found_span h_demands h_heights_from
      have h_span := DL.ok_span (P := PySem.Challenge.pw_ringstints_k24_names_of_arguments) (w := w) (base := base) T S_span xI_Barred h_look_at_ring h_look_at_total h_look_at_stretch h_found_bar h_found_span
      have h_is_needless := DL.ok_is_needless (P := PySem.Challenge.pw_ringstints_k24_names_of_arguments) (w := w) (base := base) T S_is_needless h_found_bar h_found_span
      have h_needless := DL.ok_needless (P := PySem.Challenge.pw_ringstints_k24_names_of_arguments) (w := w) (base := base) T S_needless h_look_at_ring h_look_at_total h_is_needless
      have h_core := DL.ok_core (P := PySem.Challenge.pw_ringstints_k24_names_of_arguments) (w := w) (base := base) T S_core h_look_at_ring h_look_at_total h_is_needless
      have h_eased := DL.ok_eased (P := PySem.Challenge.pw_ringstints_k24_names_of_arguments) (w := w) (base := base) T S_eased
      have h_ease := DL.ok_ease (P := PySem.Challenge.pw_ringstints_k24_names_of_arguments) (w := w) (base := base) T S_ease h_look_at_ring h_look_at_total h_found_bar h_eased
      have h_law_mixed := DL.ok_law_mixed (P := PySem.Challenge.pw_ringstints_k24_names_of_arguments) (w := w) (base := base) T S_law_mixed
      have h_law_pile := DL.ok_law_pile (P := PySem.Challenge.pw_ringstints_k24_names_of_arguments) (w := w) (base := base) T S_law_pile h_law_mixed
      have h_law_take := DL.ok_law_take (P := PySem.Challenge.pw_ringstints_k24_names_of_arguments) (w := w) (base := base) T S_law_take
      have h_law_places := DL.ok_law_places (P := PySem.Challenge.pw_ringstints_k24_names_of_arguments) (w := w) (base := base) T S_law_places
      have h_law_stones := DL.ok_law_stones (P := PySem.Challenge.pw_ringstints_k24_names_of_arguments) (w := w) (base := base) T S_law_stones h_law_places
      have h_law_drawn := DL.ok_law_drawn (P := PySem.Challenge.pw_ringstints_k24_names_of_arguments) (w := w) (base := base) T S_law_drawn h_law_take
      have h_law_ring := DL.ok_law_ring (P := PySem.Challenge.pw_ringstints_k24_names_of_arguments) (w := w) (base := base) T S_law_ring h_law_take h_law_drawn h_law_stones
      have h_law_rings_good := DL.ok_law_rings_good (P := PySem.Challenge.pw_ringstints_k24_names_of_arguments) (w := w) (base := base) T S_law_rings_good S_is_ring S_is_laying S_stretch S_broken h_is_ring h_is_laying h_stretch h_broken
      have h_law_laying_good := DL.ok_law_laying_good (P := PySem.Challenge.pw_ringstints_k24_names_of_arguments) (w := w) (base := base) T S_law_laying_good S_lay S_totals S_is_bar h_lay h_totals h_is_bar
      have h_law_spans_good := DL.ok_law_spans_good (P := PySem.Challenge.pw_ringstints_k24_names_of_arguments) (w := w) (base := base) T S_law_spans_good XA S_needless S_core S_ease S_span hH_is_bar h_needless h_core h_ease h_is_bar h_span
      have h_law := DL.ok_law (P := PySem.Challenge.pw_ringstints_k24_names_of_arguments) (w := w) (base := base) T S_law h_law_pile h_law_ring h_law_take h_law_rings_good h_law_drawn h_law_laying_good h_law_spans_good
      exact h_law
    exact DL.has_fit S_law H hmg
