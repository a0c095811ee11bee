import PyProof.Rows.All
import Wide.All
import OpenK.AllK
import Wide.FinOn
import HandS.ForMost
import HandS.Exc
import HandS.HeadHook1
import HandS.HeadHook4
import HandS.Lambda
import KE.KDictKeyed
import HandS.IsInst
import HandS.HeadHook2
import HandS.TupAny
import HandS.Style
import HandS.Deep
import HandS.Wide
import HandS.TupMul
import HandS.SortRule
import HandS.SortInts
import HandS.Conv
import KE.SortData
import PyProof.RowDictHeap
import PyProof.ReprRoads
import PyProof.CallFns
import HandS.Zip
import HandS.ForExc
import HandS.Defaults
import HandS.HeadEnd
import PyProof.Draws
import PyProof.StrBlock2
import KE.GoesMore
import HandS.Text
import HandS.SetFor
import HandS.Dict
import HandS.TryOnly
import HandS.ExcOwn
import HandS.ExcInit
import HandS.ExcValue
import HandS.ExcIs
import HandS.ExcField
import KE.KExcIs
import KE.KRevSl
import HandS.HeadHook3
import HandS.More
import PyProof.DictUpdate
import KE.KDictPairs
import HandS.Steps
import PyProof.StrLaws
import PyProof.StrLawsRepr
import PyProof.FitsInt
import PyProof.ReprReads
import KE.KLam
import KE.KAssignIn
import HandS.Strs
import KE.GoesZip
import HandS.Iter
import HandS.SlotsOwn
import HandS.Base
import HandS.Call
import HandS.Head0
import HandS.Head1
import HandS.Head2
import HandS.Ends
import HandS.Words
import HandS.WordsExc
import KE.KStateDown
import KE.KIntText
import PySem.Challenge.RW_callpolicy_k61_copies_of_desks
set_option Elab.async false
set_option linter.all false
set_option maxRecDepth 100000
set_option maxHeartbeats 0
/-! Cp0: values by content over the hand layer: data (PyData), cells (lists and dicts that change), what an expression and a statement mean as functions, and how such a meaning is a reading. -/
namespace Cp
open PySem L2
/-- the written part, and the world (texts hash by it) -/
structure Kw where
  K : PySem.W.Frag
  w : World
instance : Coe Kw PySem.W.Frag := ⟨Kw.K⟩
structure Er where
  cls : Str
  arg : Option (Str × PyData)
/-- what a field of an object holds, or an item of its list -/
inductive Fv where
  | d (x : PyData)
  | ob (j : Nat)
/-- a thunk: a lambda without parameters, its code object, its name, the data that its maker's names hold -/
structure Th where
  f : Addr
  c : Addr
  q : Str
  ds : List (Option Fv)
  σ : L2.St
/-- what is neither data nor a cell: an object of the heap cell, a caught error, a def of the text, a dict from texts to such, a thunk -/
inductive Ob where
  | ob (j : Nat)
  | th (t : Th)
  | er (e : Er)
  | fn (x : Str)
  | fns (t : List (Str × Str))
  | tp (ds : List PyData)
/-- what a local name holds: data (never changed), a cell's number, the script, another thing -/
inductive Vl where
  | d (x : PyData)
  | c (i : Nat)
  | s (ns : List Int)
  | o (x : Ob)
/-- what a cell holds -/
inductive Cl where
  | l (xs : List PyData)
  | m (kvs : List (PyData × PyData))
/-- an object that changes: an instance of the class cls, a list -/
inductive Ho where
  | ins (cls : Str) (fs : List (Str × Fv))
  | lst (xs : List Fv)
/-- the places of the cells (that of the heap cell, 0, does not matter), and those of the heap cell's objects -/
structure Mu where
  l : List Addr
  η : List Addr
instance : Membership Addr Mu := ⟨fun μ a => a ∈ μ.l.tail ∨ a ∈ μ.η⟩
abbrev Mu.push (μ : Mu) (a : Addr) : Mu := ⟨μ.l ++ [a], μ.η⟩
abbrev Mu.obj (μ : Mu) (a : Addr) : Mu := ⟨μ.l, μ.η ++ [a]⟩
abbrev Mu.take (μ : Mu) (n : Nat) : Mu := ⟨μ.l.take n, μ.η⟩
theorem Mu.mem_l {μ : Mu} {i : Nat} {a : Addr} (h : μ.l[i]? = some a) (hi : i ≠ 0) : a ∈ μ := by
  refine .inl ?_
  cases i with
  | zero => exact absurd rfl hi
  | succ i => exact List.mem_of_getElem? (i := i) (by rw [List.getElem?_tail]; exact h)
theorem Mu.mem_η {μ : Mu} {j : Nat} {a : Addr} (h : μ.η[j]? = some a) : a ∈ μ := .inr (List.mem_of_getElem? h)
/-- what an expression gives: data, a cell, or a new object that nobody else holds -/
inductive Rv where
  | d (x : PyData)
  | c (i : Nat)
  | s (ns : List Int)
  | n (o : Cl)
  | o (x : Ob)
abbrev Sto := List Cl
def Fv.vl : Fv → Vl
  | .d x => .d x
  | .ob j => .o (.ob j)
inductive Res (α : Type) where
  | ok (a : α) (s : Sto)
  | er (e : Er) (s : Sto)
  | no
abbrev En := List (Option Vl)
abbrev Ev := En → Sto → Res Rv
@[reducible] def Res.bind {α β : Type} (r : Res α) (f : α → Sto → Res β) : Res β :=
  match r with
  | .ok a s => f a s
  | .er e s => .er e s
  | .no => .no
/-! ### data in the abstract heap -/
def kD : Key → PyData
  | .inl i => .int i
  | .inr x => .str x
/-- a dict's object whose keys are tuples, by its entries -/
def dgE (w : World) (x : NestedKey × Addr × Value) : DictEntry := ⟨x.1.hash w, .ref x.2.1, x.2.2⟩
def DgPr (e : NestedKey × Addr × V) (x : NestedKey × Addr × Value) : Prop := e.1 = x.1 ∧ e.2.1 = x.2.1 ∧ RelV e.2.2 x.2.2
def dgO (w : World) (r : Obj) (a : Addr) (es : List (NestedKey × Addr × V)) : HO := .ext fun h => es.length ≤ sizeLine ∧ (a == sysModules) = false ∧ ∃ xs o ar ep, Paired DgPr es xs ∧ (h.get? a = some o ∧ o = r) ∧ o.ExactDict ∧ o.data = .dict ar ep ∧ ar.toList = xs.map (dgE w)
mutual
/-- a key: an int, a text, None, a tuple of such -/
def keyN : PyData → Option NestedKey
  | .none => some .none
  | .int i => some (.num i)
  | .str x => some (.text x)
  | .tuple xs => match keysN xs with
    | some ks => some (.tup ks)
    | none => none
  | _ => none
def keysN : List PyData → Option (List NestedKey)
  | [] => some []
  | d :: ds => match keyN d, keysN ds with
    | some k, some ks => some (k :: ks)
    | _, _ => none
end
mutual
inductive Dq (K : Kw) (F : Hp) : V → PyData → Prop
  | non : Dq K F .non .none
  | bl (b : Bool) : Dq K F (.bl b) (.bool b)
  | int (i : Int) : Dq K F (.int i) (.int i)
  | str (x : Str) : Dq K F (.str x) (.str x)
  | lst {a : Addr} {xs : List V} {ds : List PyData} : F a = some (.lst xs) → DqAll K F xs ds → Dq K F (.ref a) (.list ds)
  | tup {a : Addr} {xs : List V} {ds : List PyData} : Rd F a (.tup xs) → DqAll K F xs ds → Dq K F (.ref a) (.tuple ds)
  | dic {a : Addr} {ws : List (Key × V)} {kvs : List (PyData × PyData)} : F a = some (.dK ws) → DqKv K F ws kvs → Dq K F (.ref a) (.dict kvs)
  | dig {a : Addr} {r : Obj} {es : List (NestedKey × Addr × V)} {kvs : List (PyData × PyData)} : F a = some (dgO K.w r a es) → DqG K F es kvs → (es.map (·.1)).Nodup → es ≠ [] → Dq K F (.ref a) (.dict kvs)
  | ins {a dx : Addr} {x : Str} {fs : List (Str × V)} {kvs : List (PyData × PyData)} : F a = some (.ins (He.ga K x) dx fs) → F dx = some (.own a) → DqF K F fs kvs → Dq K F (.ref a) (.dict ((.list [], .str x) :: kvs))
inductive DqAll (K : Kw) (F : Hp) : List V → List PyData → Prop
  | nil : DqAll K F [] []
  | cons {v : V} {vs : List V} {d : PyData} {ds : List PyData} : Dq K F v d → DqAll K F vs ds → DqAll K F (v :: vs) (d :: ds)
inductive DqKv (K : Kw) (F : Hp) : List (Key × V) → List (PyData × PyData) → Prop
  | nil : DqKv K F [] []
  | cons {k : Key} {v : V} {ws : List (Key × V)} {d : PyData} {kvs : List (PyData × PyData)} : Dq K F v d → DqKv K F ws kvs → DqKv K F ((k, v) :: ws) ((kD k, d) :: kvs)
/-- keys that are tuples -/
inductive DqG (K : Kw) (F : Hp) : List (NestedKey × Addr × V) → List (PyData × PyData) → Prop
  | nil : DqG K F [] []
  | cons {k : NestedKey} {b : Addr} {v : V} {es : List (NestedKey × Addr × V)} {kd d : PyData} {kvs : List (PyData × PyData)} : Dq K F (.ref b) kd → keyN kd = some k → k.depth ≤ 8 → Dq K F v d → DqG K F es kvs → DqG K F ((k, b, v) :: es) ((kd, d) :: kvs)
/-- the fields of an instance -/
inductive DqF (K : Kw) (F : Hp) : List (Str × V) → List (PyData × PyData) → Prop
  | nil : DqF K F [] []
  | cons {x : Str} {v : V} {fs : List (Str × V)} {d : PyData} {kvs : List (PyData × PyData)} : Dq K F v d → DqF K F fs kvs → DqF K F ((x, v) :: fs) ((.str x, d) :: kvs)
end
section
variable {K : Kw} {F F' : Hp}
theorem same_rd {a : Addr} {u : HO} (e : Same F F') (h : Rd F a u) : Rd F' a u := by
  rcases h with h | ⟨o, h⟩
  · exact .inl (e _ _ h)
  · exact .inr ⟨o, e _ _ h⟩
theorem SqT.rd {KK : PySem.W.Frag} {H : Hp} {a : Addr} {xs : List V} (e : Same F H) (h : Rd F a (.tup xs)) : SqT KK H a xs := .inl (same_rd e h)
mutual
theorem Dq.same (e : Same F F') : ∀ {v : V} {d : PyData}, Dq K F v d → Dq K F' v d
  | _, _, .non => .non
  | _, _, .bl b => .bl b
  | _, _, .int i => .int i
  | _, _, .str x => .str x
  | _, _, .lst h r => .lst (e _ _ h) (DqAll.same e r)
  | _, _, .tup h r => .tup (same_rd e h) (DqAll.same e r)
  | _, _, .dic h r => .dic (e _ _ h) (DqKv.same e r)
  | _, _, .dig h r n z => .dig (e _ _ h) (DqG.same e r) n z
  | _, _, .ins h g r => .ins (e _ _ h) (e _ _ g) (DqF.same e r)
theorem DqAll.same (e : Same F F') : ∀ {vs : List V} {ds : List PyData}, DqAll K F vs ds → DqAll K F' vs ds
  | _, _, .nil => .nil
  | _, _, .cons h r => .cons (Dq.same e h) (DqAll.same e r)
theorem DqKv.same (e : Same F F') : ∀ {vs : List (Key × V)} {ds : List (PyData × PyData)}, DqKv K F vs ds → DqKv K F' vs ds
  | _, _, .nil => .nil
  | _, _, .cons h r => .cons (Dq.same e h) (DqKv.same e r)
theorem DqG.same (e : Same F F') : ∀ {vs : List (NestedKey × Addr × V)} {ds : List (PyData × PyData)}, DqG K F vs ds → DqG K F' vs ds
  | _, _, .nil => .nil
  | _, _, .cons h k l g r => .cons (Dq.same e h) k l (Dq.same e g) (DqG.same e r)
theorem DqF.same (e : Same F F') : ∀ {vs : List (Str × V)} {ds : List (PyData × PyData)}, DqF K F vs ds → DqF K F' vs ds
  | _, _, .nil => .nil
  | _, _, .cons h r => .cons (Dq.same e h) (DqF.same e r)
end
theorem DqAll.length : ∀ {vs : List V} {ds : List PyData}, DqAll K F vs ds → vs.length = ds.length
  | _, _, .nil => rfl
  | _, _, .cons _ r => by rw [List.length_cons, List.length_cons, r.length]
theorem DqAll.get : ∀ {vs : List V} {ds : List PyData} {i : Nat} {d : PyData}, DqAll K F vs ds → ds[i]? = some d → ∃ v, vs[i]? = some v ∧ Dq K F v d
  | _, _, _, _, .nil, e => by simp at e
  | _, _, 0, _, .cons h _, e => by simp at e; subst e; exact ⟨_, rfl, h⟩
  | _, _, i + 1, _, .cons _ r, e => by
    obtain ⟨v, h1, h2⟩ := DqAll.get (i := i) r (by simpa using e)
    exact ⟨v, by simpa using h1, h2⟩
theorem DqAll.app : ∀ {vs ws : List V} {ds es : List PyData}, DqAll K F vs ds → DqAll K F ws es → DqAll K F (vs ++ ws) (ds ++ es)
  | _, _, _, _, .nil, h => h
  | _, _, _, _, .cons h r, h' => .cons h (DqAll.app r h')
theorem DqAll.set {x : V} {d : PyData} (hx : Dq K F x d) : ∀ {vs : List V} {ds : List PyData} (i : Nat), DqAll K F vs ds → DqAll K F (vs.set i x) (ds.set i d)
  | _, _, _, .nil => .nil
  | _, _, 0, .cons _ r => .cons hx r
  | _, _, i + 1, .cons h r => .cons h (DqAll.set hx i r)
theorem DqAll.take : ∀ {vs : List V} {ds : List PyData} (n : Nat), DqAll K F vs ds → DqAll K F (vs.take n) (ds.take n)
  | _, _, 0, _ => .nil
  | _, _, _ + 1, .nil => .nil
  | _, _, n + 1, .cons h r => .cons h (DqAll.take n r)
theorem DqAll.drop : ∀ {vs : List V} {ds : List PyData} (n : Nat), DqAll K F vs ds → DqAll K F (vs.drop n) (ds.drop n)
  | _, _, 0, h => h
  | _, _, _ + 1, .nil => .nil
  | _, _, n + 1, .cons _ r => DqAll.drop n r
theorem DqAll.rev : ∀ {vs : List V} {ds : List PyData}, DqAll K F vs ds → DqAll K F vs.reverse ds.reverse
  | _, _, .nil => .nil
  | _, _, .cons h r => by
    rw [List.reverse_cons, List.reverse_cons]
    exact DqAll.app (DqAll.rev r) (.cons h .nil)
end
/-! ### cells, values, environments -/
/-- a dict: its keys ints and texts, or tuples -/
def DcOk (K : Kw) (F : Hp) (a : Addr) (kvs : List (PyData × PyData)) (o : HO) : Prop :=
  (∃ ws, o = .dK ws ∧ DqKv K F ws kvs) ∨ ∃ es, (∃ r, o = dgO K.w r a es) ∧ DqG K F es kvs ∧ (es.map (·.1)).Nodup ∧ es ≠ []
theorem DcOk.same {K : Kw} {F F' : Hp} {a : Addr} {kvs : List (PyData × PyData)} {o : HO} (e : Same F F') (h : DcOk K F a kvs o) : DcOk K F' a kvs o := by
  rcases h with ⟨ws, h1, h2⟩ | ⟨es, h1, h2, h3, h4⟩
  · exact .inl ⟨ws, h1, h2.same e⟩
  · exact .inr ⟨es, h1, h2.same e, h3, h4⟩
theorem DcOk.dq {K : Kw} {F : Hp} {a : Addr} {kvs : List (PyData × PyData)} {o : HO} (h : DcOk K F a kvs o) (e : F a = some o) : Dq K F (.ref a) (.dict kvs) := by
  rcases h with ⟨ws, h1, h2⟩ | ⟨es, h1, h2, h3, h4⟩
  · subst h1; exact .dic e h2
  · obtain ⟨r, h1⟩ := h1; subst h1; exact .dig e h2 h3 h4
def ClOk (K : Kw) (F : Hp) (a : Addr) : Cl → HO → Prop
  | .l ds, o => ∃ xs, o = .lst xs ∧ DqAll K F xs ds
  | .m kvs, o => DcOk K F a kvs o
/-- what stands in the place of a cell that has become data (no dict has such a key) -/
def gone : Cl := .m [(.list [], .none)]
/-- where a def stands: "f", or "C.m" for a method -/
def dfn (x : Str) : Str × Option Str := match x.cps.toList.span (fun c => c != 46) with
  | (_, []) => (x, none)
  | (a, _ :: b) => (⟨a.toArray⟩, some ⟨b.toArray⟩)
/-- the table of code objects of the def x, each of the name q -/
def tabC (x q : Str) : Cl := .m [(.list [], .tuple [.str x, .str q])]
def isGone : Cl → Bool
  | .m ((.list [], .none) :: _) => true
  | .m [(.list [], .tuple _)] => true
  | _ => false
def isDead : Cl → Bool
  | .m ((.list [], .none) :: _) => true
  | _ => false
theorem notDead {c : Cl} (h : isGone c = false) : isDead c = false := by
  unfold isGone at h
  split at h
  · cases h
  · cases h
  · rename_i h1 h2
    unfold isDead
    split
    · exact absurd rfl (h1 _)
    · rfl
def TabW (K : Kw) (F : Hp) (a : Addr) (c : Cl) (o : HO) : Prop := ∀ x q, c = tabC x q → (He.cT K.K (dfn x)).2 = a ∧ ∃ ps : Array Value, o = .tbl ps ∧ TriplesOk ps.toList ∧ ∀ (pos : Pos) (cv : Value), codeAmong pos ps.toList = some cv → ∃ c', cv = .ref c' ∧ F c' = some (LamX.CodeO c' q)
theorem TabW.same {K : Kw} {F F' : Hp} {a : Addr} {c : Cl} {o : HO} (e : Same F F') (h : TabW K F a c o) : TabW K F' a c o := fun x q z => by
  obtain ⟨h1, ps, h2, h3, h4⟩ := h x q z
  refine ⟨h1, ps, h2, h3, fun pos cv hc => ?_⟩
  obtain ⟨c', k1, k2⟩ := h4 pos cv hc
  exact ⟨c', k1, e _ _ k2⟩
def ClW (K : Kw) (F : Hp) (a : Addr) (c : Cl) (o : HO) : Prop := (isGone c = true ∧ TabW K F a c o) ∨ ClOk K F a c o
/-! ### the heap cell: the objects that change -/
def encV : Fv → PyData
  | .d x => .tuple [x]
  | .ob j => .int j
def encF (p : Str × Fv) : PyData := .tuple [.str p.1, encV p.2]
def encO : Ho → PyData
  | .ins cls fs => .tuple [.str cls, .list (fs.map encF)]
  | .lst xs => .list (xs.map encV)
theorem encV_inj : ∀ a b, encV a = encV b → a = b := fun a b h => by
  cases a <;> cases b <;> unfold encV at h <;> cases h <;> rfl
theorem map_inj {α β : Type} {f : α → β} (hf : ∀ a b, f a = f b → a = b) : ∀ {xs ys : List α}, xs.map f = ys.map f → xs = ys
  | [], [], _ => rfl
  | [], _ :: _, h => by cases h
  | _ :: _, [], h => by cases h
  | x :: xs, y :: ys, h => by
    rw [List.map_cons, List.map_cons] at h
    injection h with h1 h2
    rw [hf _ _ h1, map_inj hf h2]
theorem encF_inj : ∀ a b, encF a = encF b → a = b := fun ⟨a, x⟩ ⟨b, y⟩ h => by
  unfold encF at h
  injection h with h; injection h with h1 h; injection h with h2 _; injection h1 with h1
  have h2 := encV_inj _ _ h2
  simp only at h1 h2
  rw [h1, h2]
theorem encO_inj : ∀ a b, encO a = encO b → a = b := fun a b h => by
  cases a <;> cases b <;> unfold encO at h
  · injection h with h; injection h with h1 h; injection h with h2 _; injection h1 with h1; injection h2 with h2
    rw [map_inj encF_inj h2, h1]
  · cases h
  · cases h
  · injection h with h
    rw [map_inj encV_inj h]
def heapC (objs : List Ho) : Cl := .m [(.list [], .none), (.list (objs.map encO), .none)]
theorem heapC_inj {a b : List Ho} (h : heapC a = heapC b) : a = b := by
  unfold heapC at h
  injection h with h; injection h with _ h; injection h with h _; injection h with h _; injection h with h
  exact map_inj encO_inj h
def FvOk (K : Kw) (F : Hp) (η : List Addr) : Fv → V → Prop
  | .d x, v => Dq K F v x
  | .ob j, v => ∃ a, η[j]? = some a ∧ v = .ref a
inductive FvAll (K : Kw) (F : Hp) (η : List Addr) : List Fv → List V → Prop
  | nil : FvAll K F η [] []
  | cons {x : Fv} {v : V} {xs : List Fv} {vs : List V} : FvOk K F η x v → FvAll K F η xs vs → FvAll K F η (x :: xs) (v :: vs)
inductive FlOk (K : Kw) (F : Hp) (η : List Addr) : List (Str × Fv) → List (Str × V) → Prop
  | nil : FlOk K F η [] []
  | cons {f : Str} {x : Fv} {v : V} {xs : List (Str × Fv)} {vs : List (Str × V)} : FvOk K F η x v → FlOk K F η xs vs → FlOk K F η ((f, x) :: xs) ((f, v) :: vs)
def HoOk (K : Kw) (F : Hp) (η : List Addr) (a : Addr) : Ho → HO → Prop
  | .ins cls fs, o => ∃ dx us, o = .ins (He.ga K cls) dx us ∧ F dx = some (.own a) ∧ FlOk K F η fs us
  | .lst xs, o => ∃ us, o = .lst us ∧ FvAll K F η xs us
section
variable {K : Kw} {F F' : Hp} {η : List Addr}
theorem FvOk.later {x : Fv} {v : V} (e : Same F F') (r : List Addr) (h : FvOk K F η x v) : FvOk K F' (η ++ r) x v := by
  cases x with
  | d x => exact Dq.same e h
  | ob j =>
    obtain ⟨a, h1, h2⟩ := h
    exact ⟨a, by rw [List.getElem?_append_left (List.getElem?_eq_some_iff.mp h1).1]; exact h1, h2⟩
theorem FvAll.later (e : Same F F') (r : List Addr) : ∀ {xs : List Fv} {vs : List V}, FvAll K F η xs vs → FvAll K F' (η ++ r) xs vs
  | _, _, .nil => .nil
  | _, _, .cons h t => .cons (h.later e r) (FvAll.later e r t)
theorem FlOk.later (e : Same F F') (r : List Addr) : ∀ {xs : List (Str × Fv)} {vs : List (Str × V)}, FlOk K F η xs vs → FlOk K F' (η ++ r) xs vs
  | _, _, .nil => .nil
  | _, _, .cons h t => .cons (h.later e r) (FlOk.later e r t)
theorem HoOk.later {a : Addr} {x : Ho} {o : HO} (e : Same F F') (r : List Addr) (h : HoOk K F η a x o) : HoOk K F' (η ++ r) a x o := by
  cases x with
  | ins cls fs => obtain ⟨dx, us, h1, h2, h3⟩ := h; exact ⟨dx, us, h1, e _ _ h2, h3.later e r⟩
  | lst xs => obtain ⟨us, h1, h2⟩ := h; exact ⟨us, h1, h2.later e r⟩
theorem HoOk.same {a : Addr} {x : Ho} {o : HO} (e : Same F F') (h : HoOk K F η a x o) : HoOk K F' η a x o := by
  have := h.later e []
  rwa [List.append_nil] at this
end
/-- the dict of an error, by its one field -/
def ErD (K : Kw) (F : Hp) : Option (Str × PyData) → Option Addr → Prop
  | none, dd => dd = none
  | some (f, x), dd => ∃ a v, dd = some a ∧ F a = some (.xd [(f, v)]) ∧ Dq K F v x
def erO (a : Addr) (cls : Value) (dd : Option Addr) : HO := .ext fun h => ∃ oe vs, h.get? a = some oe ∧ Zc cls dd oe ∧ oe.data = .fields vs
def ObOk (K : Kw) (F : Hp) (η : List Addr) : Ob → V → Prop
  | .ob j, v => ∃ a, η[j]? = some a ∧ v = .ref a
  | .th t, v => v = .ref t.f ∧ F t.c = some (LamX.CodeO t.c t.q) ∧ t.ds.length = t.σ.length ∧ ∀ (i : Nat) (d : Fv), t.ds[i]? = some (some d) → ∃ u, t.σ[i]? = some (some u) ∧ FvOk K F η d u
  | .er e, v => ∃ a dd, v = .ref a ∧ F a = some (erO a (.ref (He.ga K e.cls)) dd) ∧ ErD K F e.arg dd
  | .fn x, v => v = .ref (He.ga K x)
  | .fns t, v => ∃ a, v = .ref a ∧ F a = some (.dK (t.map fun p => (.inr p.1, .ref (He.ga K p.2))))
  | .tp ds, v => ∃ a xs o, v = .ref a ∧ F a = some (.frz o (.tup xs)) ∧ o.dict = none ∧ DqAll K F xs ds
theorem ErD.same {K : Kw} {F F' : Hp} (e : Same F F') : ∀ {x : Option (Str × PyData)} {dd : Option Addr}, ErD K F x dd → ErD K F' x dd
  | none, _, h => h
  | some (f, x), _, ⟨a, v, h1, h2, h3⟩ => ⟨a, v, h1, e _ _ h2, Dq.same e h3⟩
theorem ObOk.same {K : Kw} {F F' : Hp} {η : List Addr} (r : List Addr) (e : Same F F') : ∀ {x : Ob} {v : V}, ObOk K F η x v → ObOk K F' (η ++ r) x v
  | .ob _, _, ⟨a, h1, h2⟩ => ⟨a, by rw [List.getElem?_append_left (List.getElem?_eq_some_iff.mp h1).1]; exact h1, h2⟩
  | .th _, _, ⟨h1, h2, h3, h4⟩ => ⟨h1, e _ _ h2, h3, fun i d q => let ⟨u, k1, k2⟩ := h4 i d q; ⟨u, k1, k2.later e r⟩⟩
  | .er _, _, ⟨a, dd, h1, h2, h3⟩ => ⟨a, dd, h1, e _ _ h2, h3.same e⟩
  | .fn _, _, h => h
  | .fns _, _, ⟨a, h1, h2⟩ => ⟨a, h1, e _ _ h2⟩
  | .tp _, _, ⟨a, xs, o, h1, h2, h3, h4⟩ => ⟨a, xs, o, h1, e _ _ h2, h3, DqAll.same e h4⟩
def Vok (K : Kw) (F : Hp) (μ : Mu) : Vl → V → Prop
  | .d x, v => Dq K F v x
  | .c i, v => ∃ a, μ.l[i]? = some a ∧ v = .ref a
  | .s ns, v => ∃ a, v = .ref a ∧ SqL K F a (ns.map V.int)
  | .o x, v => ObOk K F μ.η x v
def Rok (K : Kw) (F : Hp) (μ : Mu) (H : Hp) : Rv → V → Prop
  | .d x, v => Dq K F v x
  | .c i, v => ∃ a, μ.l[i]? = some a ∧ v = .ref a
  | .s ns, v => ∃ a, v = .ref a ∧ SqL K F a (ns.map V.int)
  | .o x, v => ObOk K F μ.η x v
  | .n c, v => ∃ a o, v = .ref a ∧ H a = some o ∧ ClOk K F a c o ∧ F a = none ∧ a ∉ μ
def Eok (K : Kw) (F : Hp) (μ : Mu) (ρ : En) (σ : St) : Prop :=
  ρ.length = σ.length ∧ ∀ (i : Nat) (x : Vl), ρ[i]? = some (some x) → ∃ v, σ[i]? = some (some v) ∧ Vok K F μ x v
structure SR (K : Kw) (μ : Mu) (F H : Hp) (st : Sto) : Prop where
  nd : (μ.l.tail ++ μ.η).Nodup
  len : μ.l.length = st.length
  sep : ∀ (i : Nat) (a : Addr) (c : Cl), μ.l[i]? = some a → st[i]? = some c → isDead c = false → F a = none
  sub : Same F H
  cell0 : ∀ (i : Nat) (c : Cl), i ≠ 0 → st[i]? = some c → ∃ a o, μ.l[i]? = some a ∧ H a = some o ∧ ClW K F a c o
  obs : ∃ objs, st[0]? = some (heapC objs) ∧ objs.length = μ.η.length ∧ ∀ (j : Nat) (x : Ho), objs[j]? = some x → ∃ a o, μ.η[j]? = some a ∧ F a = none ∧ H a = some o ∧ HoOk K F μ.η a x o
/-- from one state to a later one -/
structure Ext (μ : Mu) (F H : Hp) (μ' : Mu) (F' H' : Hp) : Prop where
  same : Same F F'
  pre : ∃ r, μ'.l = μ.l ++ r
  preη : ∃ r, μ'.η = μ.η ++ r
  fr : ∀ b o, H b = some o → b ∉ μ → H' b = some o
  dom : ∀ b, H' b = none → H b = none
  nF : ∀ a o, F' a = some o → F a = some o ∨ H a = none ∨ a ∈ μ
  nC : ∀ a, a ∈ μ' → a ∈ μ ∨ H a = none
section
variable {K : Kw} {μ μ1 μ2 : Mu} {F H F1 H1 F2 H2 : Hp} {st : Sto}
theorem Ext.refl : Ext μ F H μ F H := ⟨Same.refl F, ⟨[], by simp⟩, ⟨[], by simp⟩, fun _ _ h _ => h, fun _ h => h, fun _ _ h => .inl h, fun _ h => .inl h⟩
theorem Ext.trans (a : Ext μ F H μ1 F1 H1) (b : Ext μ1 F1 H1 μ2 F2 H2) : Ext μ F H μ2 F2 H2 := by
  refine ⟨a.same.trans b.same, ?_, ?_, fun c o h n => ?_, fun c h => a.dom c (b.dom c h), fun c o h => ?_, fun c h => ?_⟩
  · obtain ⟨r, e⟩ := a.pre
    obtain ⟨r', e'⟩ := b.pre
    exact ⟨r ++ r', by rw [e', e, List.append_assoc]⟩
  · obtain ⟨r, e⟩ := a.preη
    obtain ⟨r', e'⟩ := b.preη
    exact ⟨r ++ r', by rw [e', e, List.append_assoc]⟩
  · refine b.fr c o (a.fr c o h n) fun z => ?_
    rcases a.nC c z with z | z
    · exact n z
    · rw [z] at h; cases h
  · rcases b.nF c o h with z | z | z
    · exact a.nF c o z
    · exact .inr (.inl (a.dom c z))
    · rcases a.nC c z with z | z
      · exact .inr (.inr z)
      · exact .inr (.inl z)
  · rcases b.nC c h with z | z
    · exact a.nC c z
    · exact .inr (a.dom c z)
theorem Ext.get (a : Ext μ F H μ1 F1 H1) {i : Nat} {x : Addr} (h : μ.l[i]? = some x) : μ1.l[i]? = some x := by
  obtain ⟨r, e⟩ := a.pre
  rw [e, List.getElem?_append_left (List.getElem?_eq_some_iff.mp h).1]
  exact h
theorem ObOk.ext (a : Ext μ F H μ1 F1 H1) {x : Ob} {v : V} (h : ObOk K F μ.η x v) : ObOk K F1 μ1.η x v := by
  obtain ⟨r, e⟩ := a.preη
  rw [e]
  exact ObOk.same r a.same h
theorem FvOk.ext (a : Ext μ F H μ1 F1 H1) {x : Fv} {v : V} (h : FvOk K F μ.η x v) : FvOk K F1 μ1.η x v := by
  obtain ⟨r, e⟩ := a.preη
  rw [e]
  exact h.later a.same r
theorem Vok.ext (a : Ext μ F H μ1 F1 H1) {x : Vl} {v : V} (h : Vok K F μ x v) : Vok K F1 μ1 x v := by
  cases x with
  | d x => exact Dq.same a.same h
  | c i => obtain ⟨p, h1, h2⟩ := h; exact ⟨p, a.get h1, h2⟩
  | s ns => obtain ⟨p, h1, h2⟩ := h; exact ⟨p, h1, a.same.seq h2⟩
  | o x => exact ObOk.ext a h
theorem Eok.ext (a : Ext μ F H μ1 F1 H1) {ρ : En} {σ : St} (h : Eok K F μ ρ σ) : Eok K F1 μ1 ρ σ :=
  ⟨h.1, fun i x e => let ⟨v, h1, h2⟩ := h.2 i x e; ⟨v, h1, h2.ext a⟩⟩
theorem DqAll.ext (a : Ext μ F H μ1 F1 H1) {xs : List V} {ds : List PyData} (h : DqAll K F xs ds) : DqAll K F1 xs ds := h.same a.same
theorem ClOk.same (e : Same F F1) {a : Addr} {c : Cl} {o : HO} (h : ClOk K F a c o) : ClOk K F1 a c o := by
  cases c with
  | l ds => obtain ⟨xs, h1, h2⟩ := h; exact ⟨xs, h1, h2.same e⟩
  | m kvs => exact DcOk.same e h
theorem ClW.same (e : Same F F1) {a : Addr} {c : Cl} {o : HO} (h : ClW K F a c o) : ClW K F1 a c o := h.imp (fun h => ⟨h.1, h.2.same e⟩) fun h => h.same e
theorem SR.pos (s : SR K μ F H st) : 0 < st.length := by
  obtain ⟨objs, h, _⟩ := s.obs
  exact (List.getElem?_eq_some_iff.mp h).1
theorem SR.ne0 (s : SR K μ F H st) {i : Nat} {c : Cl} (h : st[i]? = some c) (hz : isGone c = false) : i ≠ 0 := fun e => by
  subst e
  obtain ⟨objs, h0, _⟩ := s.obs
  rw [h0] at h; cases h
  cases hz
theorem SR.mem (s : SR K μ F H st) {i : Nat} {c : Cl} {a : Addr} (hi : μ.l[i]? = some a) (h : st[i]? = some c) (hz : isGone c = false) : a ∈ μ := Mu.mem_l hi (s.ne0 h hz)
theorem SR.cell (s : SR K μ F H st) (i : Nat) (c : Cl) (h : st[i]? = some c) (hz : isGone c = false := by rfl) : ∃ a o, μ.l[i]? = some a ∧ H a = some o ∧ ClOk K F a c o := by
  obtain ⟨a, o, h1, h2, h3⟩ := s.cell0 i c (s.ne0 h hz) h
  rcases h3 with h3 | h3
  · rw [hz] at h3; cases h3.1
  · exact ⟨a, o, h1, h2, h3⟩
theorem Rok.ext (a : Ext μ F H μ1 F1 H1) {x : Rv} {v : V} (h : Rok K F μ H x v) : Rok K F1 μ1 H1 x v := by
  cases x with
  | d x => exact Dq.same a.same h
  | c i => obtain ⟨p, h1, h2⟩ := h; exact ⟨p, a.get h1, h2⟩
  | s ns => obtain ⟨p, h1, h2⟩ := h; exact ⟨p, h1, a.same.seq h2⟩
  | o x => exact ObOk.ext a h
  | n c =>
    obtain ⟨p, o, h1, h2, h3, h4, h5⟩ := h
    refine ⟨p, o, h1, a.fr p o h2 h5, h3.same a.same, ?_, fun z => ?_⟩
    · cases q : F1 p with
      | none => rfl
      | some u =>
        rcases a.nF p u q with z | z | z
        · rw [h4] at z; cases z
        · rw [h2] at z; cases z
        · exact absurd z h5
    · rcases a.nC p z with z | z
      · exact h5 z
      · rw [h2] at z; cases z
/-- each place has its own object -/
theorem SR.one (s : SR K μ F H st) {i j : Nat} {a : Addr} (hi : μ.l[i]? = some a) (hj : μ.l[j]? = some a) (i0 : i ≠ 0) (j0 : j ≠ 0) : i = j := by
  cases i with
  | zero => exact absurd rfl i0
  | succ i =>
    cases j with
    | zero => exact absurd rfl j0
    | succ j =>
      have nd := (List.nodup_append.mp s.nd).1
      rw [← List.getElem?_tail] at hi hj
      obtain ⟨l1, e1⟩ := List.getElem?_eq_some_iff.mp hi
      obtain ⟨l2, e2⟩ := List.getElem?_eq_some_iff.mp hj
      rw [(List.getElem_inj nd).mp (e1.trans e2.symm)]
theorem SR.apart (s : SR K μ F H st) {i j : Nat} {a b : Addr} (hi : μ.l[i]? = some a) (hj : μ.η[j]? = some b) (i0 : i ≠ 0) : a ≠ b := by
  cases i with
  | zero => exact absurd rfl i0
  | succ i =>
    rw [← List.getElem?_tail] at hi
    exact (List.nodup_append.mp s.nd).2.2 a (List.mem_of_getElem? hi) b (List.mem_of_getElem? hj)
theorem SR.oneη (s : SR K μ F H st) {i j : Nat} {a : Addr} (hi : μ.η[i]? = some a) (hj : μ.η[j]? = some a) : i = j := by
  have nd := (List.nodup_append.mp s.nd).2.1
  obtain ⟨l1, e1⟩ := List.getElem?_eq_some_iff.mp hi
  obtain ⟨l2, e2⟩ := List.getElem?_eq_some_iff.mp hj
  exact (List.getElem_inj nd).mp (e1.trans e2.symm)
theorem SR.dead (s : SR K μ F H st) {a : Addr} (h : H a = none) : F a = none ∧ a ∉ μ := by
  refine ⟨?_, fun z => ?_⟩
  · cases q : F a with
    | none => rfl
    | some o => rw [s.sub a o q] at h; cases h
  · rcases z with z | z
    · obtain ⟨i, hi, e⟩ := List.getElem_of_mem z
      have hl : i + 1 < st.length := by rw [← s.len]; rw [List.length_tail] at hi; omega
      obtain ⟨b, o, h1, h2, _⟩ := s.cell0 (i + 1) st[i + 1] (by omega) (by simp [hl])
      rw [← List.getElem?_tail, List.getElem?_eq_getElem hi, e] at h1
      cases h1
      rw [h] at h2; cases h2
    · obtain ⟨j, hj, e⟩ := List.getElem_of_mem z
      obtain ⟨objs, _, hl, hall⟩ := s.obs
      have hj' : j < objs.length := by rw [hl]; exact hj
      obtain ⟨b, o, h1, _, h2, _⟩ := hall j objs[j] (by simp [hj'])
      rw [List.getElem?_eq_getElem hj, e] at h1
      cases h1
      rw [h] at h2; cases h2
theorem SR.obs_kept {H' : Hp} (s : SR K μ F H st) (k : ∀ (j : Nat) (a : Addr), μ.η[j]? = some a → ∀ o, H a = some o → H' a = some o) :
    ∃ objs, st[0]? = some (heapC objs) ∧ objs.length = μ.η.length ∧ ∀ (j : Nat) (x : Ho), objs[j]? = some x → ∃ a o, μ.η[j]? = some a ∧ F a = none ∧ H' a = some o ∧ HoOk K F μ.η a x o := by
  obtain ⟨objs, h1, h2, h3⟩ := s.obs
  exact ⟨objs, h1, h2, fun j x e => let ⟨a, o, k1, k2, k3, k4⟩ := h3 j x e; ⟨a, o, k1, k2, k j a k1 o k3, k4⟩⟩
/-- a new object, tracked, held by nobody -/
theorem SR.newly (s : SR K μ F H st) {p : Addr} {o : HO} (hp : H p = none) : SR K μ F (upd H p o) st ∧ Ext μ F H μ F (upd H p o) := by
  have hd := s.dead hp
  have ne : ∀ b u, H b = some u → b ≠ p := fun b u h e => by subst e; rw [hp] at h; cases h
  refine ⟨⟨s.nd, s.len, s.sep, fun b u h => ?_, fun i c i0 h => ?_, s.obs_kept fun j a _ u h => by rw [upd_ne (ne a u h)]; exact h⟩, ⟨Same.refl F, ⟨[], by simp⟩, ⟨[], by simp⟩, fun b u h _ => ?_, fun b h => ?_, fun _ _ h => .inl h, fun _ h => .inl h⟩⟩
  · rw [upd_ne (ne b u (s.sub b u h))]; exact s.sub b u h
  · obtain ⟨a, u, h1, h2, h3⟩ := s.cell0 i c i0 h
    exact ⟨a, u, h1, by rw [upd_ne (ne a u h2)]; exact h2, h3⟩
  · rw [upd_ne (ne b u h)]; exact h
  · by_cases e : b = p
    · subst e; exact hp
    · rw [upd_ne e] at h; exact h
/-- a new object, held by nobody, becomes data -/
theorem SR.freeze {H0 : Hp} (s : SR K μ1 F1 H1 st) (x : Ext μ F H0 μ1 F1 H1) (s0 : Same F H0) {p : Addr} {o : HO} (h0 : H0 p = none) (hp : H1 p = some o) (hF : F1 p = none) (hm : p ∉ μ1) :
    SR K μ1 (upd F1 p o) H1 st ∧ Ext μ F H0 μ1 (upd F1 p o) H1 ∧ Same F1 (upd F1 p o) := by
  have sm : Same F1 (upd F1 p o) := fun b u h => by
    rw [upd_ne (fun e => by subst e; rw [hF] at h; cases h)]; exact h
  refine ⟨⟨s.nd, s.len, fun i a c h h2 h3 => ?_, fun b u h => ?_, fun i c i0 h => ?_, ?_⟩, ⟨x.same.trans sm, x.pre, x.preη, x.fr, x.dom, fun a u h => ?_, x.nC⟩, sm⟩
  · have i0 : i ≠ 0 := fun e => by
      subst e
      obtain ⟨objs, k, _⟩ := s.obs
      rw [k] at h2; cases h2; cases h3
    rw [upd_ne (fun e => by subst e; exact hm (Mu.mem_l h i0))]; exact s.sep i a c h h2 h3
  · by_cases e : b = p
    · subst e; rw [upd_same] at h; cases h; exact hp
    · rw [upd_ne e] at h; exact s.sub b u h
  · obtain ⟨a, u, h1, h2, h3⟩ := s.cell0 i c i0 h
    exact ⟨a, u, h1, h2, h3.same sm⟩
  · obtain ⟨objs, k1, k2, k3⟩ := s.obs
    refine ⟨objs, k1, k2, fun j y e => ?_⟩
    obtain ⟨a, u, q1, q2, q3, q4⟩ := k3 j y e
    exact ⟨a, u, q1, by rw [upd_ne (fun e => by subst e; exact hm (Mu.mem_η q1))]; exact q2, q3, q4.same sm⟩
  · by_cases e : a = p
    · subst e; exact .inr (.inl h0)
    · rw [upd_ne e] at h; exact x.nF a u h
/-- a new object, held by nobody, becomes a cell -/
theorem SR.celled {H0 : Hp} (s : SR K μ1 F1 H1 st) (x : Ext μ F H0 μ1 F1 H1) {p : Addr} {o : HO} {c : Cl} (h0 : H0 p = none) (hp : H1 p = some o) (hF : F1 p = none) (hm : p ∉ μ1) (hc : ClOk K F1 p c o) :
    SR K (μ1.push p) F1 H1 (st ++ [c]) ∧ Ext μ F H0 (μ1.push p) F1 H1 := by
  have hpos := s.pos
  have hne : μ1.l ≠ [] := fun e => by have := s.len; rw [e] at this; simp at this; omega
  have ht : (μ1.l ++ [p]).tail = μ1.l.tail ++ [p] := List.tail_append_of_ne_nil hne
  refine ⟨⟨?_, by simp [s.len], fun i a d h h2 h3 => ?_, s.sub, fun i d i0 h => ?_, ?_⟩, ⟨x.same, ?_, x.preη, x.fr, x.dom, x.nF, fun a h => ?_⟩⟩
  · show ((μ1.l ++ [p]).tail ++ μ1.η).Nodup
    obtain ⟨n1, n2, n3⟩ := List.nodup_append.mp s.nd
    rw [ht, List.nodup_append]
    refine ⟨?_, n2, fun a ha b hb e => ?_⟩
    · rw [List.nodup_append]
      refine ⟨n1, by simp, fun a ha b hb e => ?_⟩
      rw [List.mem_singleton] at hb
      subst hb; subst e
      exact hm (.inl ha)
    · subst e
      rcases List.mem_append.mp ha with ha | ha
      · exact n3 a ha a hb rfl
      · rw [List.mem_singleton.mp ha] at hb; exact hm (.inr hb)
  · have h : (μ1.l ++ [p])[i]? = some a := h
    by_cases hi : i < st.length
    · rw [List.getElem?_append_left (by rw [s.len]; exact hi)] at h
      rw [List.getElem?_append_left hi] at h2
      exact s.sep i a d h h2 h3
    · have e : i = st.length := by
        have := (List.getElem?_eq_some_iff.mp h2).1
        simp at this; omega
      subst e
      rw [← s.len] at h
      simp at h
      subst h
      exact hF
  · show ∃ a o, (μ1.l ++ [p])[i]? = some a ∧ _
    by_cases hi : i < st.length
    · rw [List.getElem?_append_left hi] at h
      obtain ⟨a, u, h1, h2, h3⟩ := s.cell0 i d i0 h
      exact ⟨a, u, by rw [List.getElem?_append_left (by rw [s.len]; exact hi)]; exact h1, h2, h3⟩
    · have e : i = st.length := by
        have := (List.getElem?_eq_some_iff.mp h).1
        simp at this; omega
      subst e
      simp at h
      subst h
      exact ⟨p, o, by rw [← s.len]; simp, hp, .inr hc⟩
  · obtain ⟨objs, k1, k2, k3⟩ := s.obs
    exact ⟨objs, by rw [List.getElem?_append_left hpos]; exact k1, k2, k3⟩
  · obtain ⟨r, e⟩ := x.pre
    exact ⟨r ++ [p], by show μ1.l ++ [p] = _; rw [e, List.append_assoc]⟩
  · rcases h with h | h
    · have h : a ∈ (μ1.l ++ [p]).tail := h
      rw [ht] at h
      rcases List.mem_append.mp h with h | h
      · exact x.nC a (.inl h)
      · rw [List.mem_singleton.mp h]; exact .inr h0
    · exact x.nC a (.inr h)
/-- a cell is written -/
theorem SR.write (s : SR K μ F H st) {i : Nat} {p : Addr} {o : HO} {c : Cl} (hi : μ.l[i]? = some p) (hc : ClOk K F p c o) {c0 : Cl} (h0 : st[i]? = some c0) (hz : isGone c0 = false := by rfl) : SR K μ F (upd H p o) (st.set i c) ∧ Ext μ F H μ F (upd H p o) := by
  have i0 := s.ne0 h0 hz
  have hm : p ∈ μ := s.mem hi h0 hz
  have hil : i < μ.l.length := (List.getElem?_eq_some_iff.mp hi).1
  have hF := s.sep i p c0 hi h0 (notDead hz)
  refine ⟨⟨s.nd, by simp [s.len], fun j a d h h2 h3 => ?_, fun b u h => ?_, fun j d j0 h => ?_, ?_⟩, ⟨Same.refl F, ⟨[], by simp⟩, ⟨[], by simp⟩, fun b u h n => ?_, fun b h => ?_, fun _ _ h => .inl h, fun _ h => .inl h⟩⟩
  · by_cases e : j = i
    · subst e
      rw [hi] at h; cases h
      exact hF
    · rw [List.getElem?_set_ne (Ne.symm e)] at h2
      exact s.sep j a d h h2 h3
  · rw [upd_ne (fun e => by subst e; rw [hF] at h; cases h)]; exact s.sub b u h
  · by_cases e : j = i
    · subst e
      rw [List.getElem?_set_self (by rw [← s.len]; exact hil)] at h
      cases h
      exact ⟨p, o, hi, upd_same, .inr hc⟩
    · rw [List.getElem?_set_ne (Ne.symm e)] at h
      obtain ⟨a, u, h1, h2, h3⟩ := s.cell0 j d j0 h
      refine ⟨a, u, h1, ?_, h3⟩
      rw [upd_ne (fun z => ?_)]; exact h2
      subst z
      exact e (s.one h1 hi j0 i0)
  · obtain ⟨objs, k1, k2, k3⟩ := s.obs
    refine ⟨objs, by rw [List.getElem?_set_ne i0]; exact k1, k2, fun j y e => ?_⟩
    obtain ⟨a, u, q1, q2, q3, q4⟩ := k3 j y e
    exact ⟨a, u, q1, q2, by rw [upd_ne (Ne.symm (s.apart hi q1 i0))]; exact q3, q4⟩
  · rw [upd_ne (fun z => by subst z; exact n hm)]; exact h
  · by_cases e : b = p
    · subst e; rw [upd_same] at h; cases h
    · rw [upd_ne e] at h; exact h
/-- the newest cells are forgotten -/
theorem SR.cut (s : SR K μ1 F1 H1 st) (x : Ext μ F H μ1 F1 H1) (n : Nat) (hn : μ.l.length = n) (hp : 0 < n) : SR K (μ1.take n) F1 H1 (st.take n) ∧ Ext μ F H (μ1.take n) F1 H1 ∧ μ.l = μ1.l.take n := by
  obtain ⟨r, e⟩ := x.pre
  have e2 : μ.l = μ1.l.take n := by rw [e, ← hn]; simp
  have hsub : ∀ a, a ∈ (μ1.l.take n).tail → a ∈ μ1.l.tail := fun a h => by
    obtain ⟨i, hi, q⟩ := List.getElem_of_mem h
    have q2 : (μ1.l.take n).tail[i]? = some a := by rw [List.getElem?_eq_getElem hi, q]
    rw [List.getElem?_tail, List.getElem?_take_of_lt (by rw [List.length_tail, List.length_take] at hi; omega), ← List.getElem?_tail] at q2
    exact List.mem_of_getElem? q2
  have nd : ((μ1.l.take n).tail ++ μ1.η).Nodup := by
    obtain ⟨n1, n2, n3⟩ := List.nodup_append.mp s.nd
    rw [List.nodup_append]
    refine ⟨?_, n2, fun a ha b hb => n3 a (hsub a ha) b hb⟩
    have hs : (μ1.l.take n).tail.Sublist μ1.l.tail := by
      cases μ1.l with
      | nil => simp
      | cons y ys =>
        cases n with
        | zero => omega
        | succ n => exact List.take_sublist n ys
    exact hs.nodup n1
  have hl := s.len
  have hl1 : μ1.l.length = μ.l.length + r.length := by rw [e, List.length_append]
  refine ⟨⟨nd, ?_, fun i a c h h2 h3 => ?_, s.sub, fun i c i0 h => ?_, ?_⟩, ⟨x.same, ⟨[], by rw [List.append_nil]; exact e2.symm⟩, x.preη, x.fr, x.dom, x.nF, fun a h => ?_⟩, e2⟩
  · show (μ1.l.take n).length = _
    rw [List.length_take, List.length_take]; omega
  · have h : (μ1.l.take n)[i]? = some a := h
    have hi : i < n := by
      have := (List.getElem?_eq_some_iff.mp h2).1
      rw [List.length_take] at this
      omega
    rw [List.getElem?_take_of_lt hi] at h2
    rw [List.getElem?_take_of_lt hi] at h
    exact s.sep i a c h h2 h3
  · have hi : i < n := by
      have := (List.getElem?_eq_some_iff.mp h).1
      rw [List.length_take] at this
      omega
    rw [List.getElem?_take_of_lt hi] at h
    obtain ⟨a, u, h1, h2, h3⟩ := s.cell0 i c i0 h
    exact ⟨a, u, by show (μ1.l.take n)[i]? = _; rw [List.getElem?_take_of_lt hi]; exact h1, h2, h3⟩
  · obtain ⟨objs, k1, k2, k3⟩ := s.obs
    exact ⟨objs, by rw [List.getElem?_take_of_lt hp]; exact k1, k2, k3⟩
  · rcases h with h | h
    · exact x.nC a (.inl (hsub a h))
    · exact x.nC a (.inr h)
/-- a new object of the heap cell -/
theorem SR.alloc {H0 : Hp} (s : SR K μ1 F1 H1 st) (x : Ext μ F H0 μ1 F1 H1) {p : Addr} {o : HO} {y : Ho} {objs : List Ho} (hst : st[0]? = some (heapC objs)) (h0 : H0 p = none) (hp : H1 p = some o) (hF : F1 p = none) (hm : p ∉ μ1) (hc : HoOk K F1 (μ1.η ++ [p]) p y o) :
    SR K (μ1.obj p) F1 H1 (st.set 0 (heapC (objs ++ [y]))) ∧ Ext μ F H0 (μ1.obj p) F1 H1 ∧ (μ1.obj p).η[objs.length]? = some p := by
  have hpos := s.pos
  obtain ⟨objs', k1, k2, k3⟩ := s.obs
  rw [hst] at k1
  obtain rfl := heapC_inj (Option.some.inj k1)
  refine ⟨⟨?_, by simp [s.len], fun i a d h h2 h3 => ?_, s.sub, fun i d i0 h => ?_, ?_⟩, ⟨x.same, x.pre, ?_, x.fr, x.dom, x.nF, fun a h => ?_⟩, ?_⟩
  · show (μ1.l.tail ++ (μ1.η ++ [p])).Nodup
    rw [← List.append_assoc, List.nodup_append]
    refine ⟨s.nd, by simp, fun a ha b hb e => ?_⟩
    rw [List.mem_singleton] at hb
    subst hb; subst e
    rcases List.mem_append.mp ha with ha | ha
    · exact hm (.inl ha)
    · exact hm (.inr ha)
  · by_cases e : i = 0
    · subst e
      rw [List.getElem?_set_self hpos] at h2
      cases h2; cases h3
    · rw [List.getElem?_set_ne (Ne.symm e)] at h2
      exact s.sep i a d h h2 h3
  · rw [List.getElem?_set_ne (Ne.symm i0)] at h
    exact s.cell0 i d i0 h
  · refine ⟨objs ++ [y], by rw [List.getElem?_set_self hpos], by simp [k2], fun j z e => ?_⟩
    show ∃ a o, (μ1.η ++ [p])[j]? = some a ∧ F1 a = none ∧ H1 a = some o ∧ HoOk K F1 (μ1.η ++ [p]) a z o
    by_cases hj : j < objs.length
    · rw [List.getElem?_append_left hj] at e
      obtain ⟨a, u, q1, q2, q3, q4⟩ := k3 j z e
      exact ⟨a, u, by rw [List.getElem?_append_left (by rw [← k2]; exact hj)]; exact q1, q2, q3, q4.later (Same.refl _) _⟩
    · have e' : j = objs.length := by
        have := (List.getElem?_eq_some_iff.mp e).1
        simp at this; omega
      subst e'
      simp at e
      subst e
      exact ⟨p, o, by rw [k2]; simp, hF, hp, hc⟩
  · obtain ⟨r, e⟩ := x.preη
    exact ⟨r ++ [p], by show μ1.η ++ [p] = _; rw [e, List.append_assoc]⟩
  · rcases h with h | h
    · exact x.nC a (.inl h)
    · rcases List.mem_append.mp (show a ∈ μ1.η ++ [p] from h) with h | h
      · exact x.nC a (.inr h)
      · rw [List.mem_singleton.mp h]; exact .inr h0
  · show (μ1.η ++ [p])[objs.length]? = some p
    rw [k2]; simp
/-- an object of the heap cell is written -/
theorem SR.owrite (s : SR K μ F H st) {j : Nat} {p : Addr} {o : HO} {y : Ho} {objs : List Ho} (hst : st[0]? = some (heapC objs)) (hj : μ.η[j]? = some p) (hc : HoOk K F μ.η p y o) :
    SR K μ F (upd H p o) (st.set 0 (heapC (objs.set j y))) ∧ Ext μ F H μ F (upd H p o) := by
  have hpos := s.pos
  have hm : p ∈ μ := Mu.mem_η hj
  obtain ⟨objs', k1, k2, k3⟩ := s.obs
  rw [hst] at k1
  obtain rfl := heapC_inj (Option.some.inj k1)
  have hjl : j < objs.length := by rw [k2]; exact (List.getElem?_eq_some_iff.mp hj).1
  have hF : F p = none := by
    obtain ⟨a, u, q1, q2, _⟩ := k3 j objs[j] (by simp [hjl])
    rw [hj] at q1; cases q1; exact q2
  refine ⟨⟨s.nd, by simp [s.len], fun i a d h h2 h3 => ?_, fun b u h => ?_, fun i d i0 h => ?_, ?_⟩, ⟨Same.refl F, ⟨[], by simp⟩, ⟨[], by simp⟩, fun b u h n => ?_, fun b h => ?_, fun _ _ h => .inl h, fun _ h => .inl h⟩⟩
  · by_cases e : i = 0
    · subst e
      rw [List.getElem?_set_self hpos] at h2
      cases h2; cases h3
    · rw [List.getElem?_set_ne (Ne.symm e)] at h2
      exact s.sep i a d h h2 h3
  · rw [upd_ne (fun e => by subst e; rw [hF] at h; cases h)]; exact s.sub b u h
  · rw [List.getElem?_set_ne (Ne.symm i0)] at h
    obtain ⟨a, u, h1, h2, h3⟩ := s.cell0 i d i0 h
    exact ⟨a, u, h1, by rw [upd_ne (s.apart h1 hj i0)]; exact h2, h3⟩
  · refine ⟨objs.set j y, by rw [List.getElem?_set_self hpos], by simp [k2], fun i z e => ?_⟩
    by_cases q : i = j
    · subst q
      rw [List.getElem?_set_self hjl] at e
      cases e
      exact ⟨p, o, hj, hF, upd_same, hc⟩
    · rw [List.getElem?_set_ne (Ne.symm q)] at e
      obtain ⟨a, u, q1, q2, q3, q4⟩ := k3 i z e
      exact ⟨a, u, q1, q2, by rw [upd_ne (fun z => by subst z; exact q (s.oneη q1 hj))]; exact q3, q4⟩
  · rw [upd_ne (fun z => by subst z; exact n hm)]; exact h
  · by_cases e : b = p
    · subst e; rw [upd_same] at h; cases h
    · rw [upd_ne e] at h; exact h
end
/-! ### what a meaning wants -/
structure Out (K : Kw) (μ : Mu) (F H : Hp) (st : Sto) (r : Rv) (v : V) (μ' : Mu) (F' H' : Hp) : Prop where
  ext : Ext μ F H μ' F' H'
  sr : SR K μ' F' H' st
  rok : Rok K F' μ' H' r v
  new : ∀ c, r = .n c → ∃ a, v = .ref a ∧ H a = none
/-- an error of the program's own as the hand layer tells it -/
def ErOk (K : Kw) (mg : Str → Option Value) (F H : Hp) (e : Er) (cls : Value) (dd : Option Addr) : Prop :=
  cls = .ref (He.ga K e.cls) ∧ ErD K F e.arg dd
/-- how a thing that came may end; what is wished of an error may hang on the slots at its raising -/
structure Cn where
  K : Kw
  mg : Str → Option Value
  W : WX
  σ : St
abbrev Cn.E (C : Cn) : XK := fun cls d H => C.W cls d C.σ H
abbrev Cn.at (C : Cn) (σ : St) : Cn := { C with σ := σ }
abbrev Cn.ofE (K : Kw) (mg : Str → Option Value) (E : XK) : Cn := ⟨K, mg, fun cls d _ H => E cls d H, []⟩
/-- the slots do not matter -/
def Cn.Flat (C : Cn) : Prop := ∀ cls d σ σ' H, C.W cls d σ H → C.W cls d σ' H
def Erw (C : Cn) (μ : Mu) (F H : Hp) (e : Er) (st : Sto) : Prop := ∀ cls dd μ' F' H', Ext μ F H μ' F' H' → SR C.K μ' F' H' st → ErOk C.K C.mg F' H' e cls dd → C.E cls dd H'
def Post {β : Type} (C : Cn) (G : β → Sto → Mu → Hp → Hp → Prop) (μ : Mu) (F H : Hp) : Res β → Prop
  | .ok r st => G r st μ F H
  | .er e st => Erw C μ F H e st
  | .no => False
abbrev gE (C : Cn) (Q : VK) : Rv → Sto → Mu → Hp → Hp → Prop := fun r st μ F H => ∀ v μ' F' H', Out C.K μ F H st r v μ' F' H' → Q v H'
abbrev gV (C : Cn) (Q : VK) : Vl → Sto → Mu → Hp → Hp → Prop := fun r st μ F H => ∀ v μ' F' H', Ext μ F H μ' F' H' → SR C.K μ' F' H' st → Vok C.K F' μ' r v → Q v H'
abbrev gB (C : Cn) (Q : Bool → Hp → Prop) : Bool → Sto → Mu → Hp → Hp → Prop := fun b st μ F H => ∀ μ' F' H', Ext μ F H μ' F' H' → SR C.K μ' F' H' st → Q b H'
abbrev PostE (C : Cn) (Q : VK) := Post C (gE C Q)
abbrev PostV (C : Cn) (Q : VK) := Post C (gV C Q)
abbrev PostB (C : Cn) (Q : Bool → Hp → Prop) := Post C (gB C Q)
inductive VokAll (K : Kw) (F : Hp) (μ : Mu) : List Vl → List V → Prop
  | nil : VokAll K F μ [] []
  | cons {x : Vl} {v : V} {xs : List Vl} {vs : List V} : Vok K F μ x v → VokAll K F μ xs vs → VokAll K F μ (x :: xs) (v :: vs)
abbrev gA (C : Cn) (Q : List V → Hp → Prop) : List Vl → Sto → Mu → Hp → Hp → Prop := fun xs st μ F H => ∀ vs μ' F' H', Ext μ F H μ' F' H' → SR C.K μ' F' H' st → VokAll C.K F' μ' xs vs → Q vs H'
abbrev PostA (C : Cn) (Q : List V → Hp → Prop) := Post C (gA C Q)
def At (C : Cn) (σ : St) (H : Hp) (P : En → Sto → Mu → Hp → Prop) : Prop := ∃ ρ st μ F, Eok C.K F μ ρ σ ∧ SR C.K μ F H st ∧ P ρ st μ F
def tM (C : Cn) (m : Ev) : TE := fun σ H Q => At C σ H fun ρ st μ F => PostE (C.at σ) Q μ F H (m ρ st)
def tV (C : Cn) (m : En → Sto → Res Vl) : TE := fun σ H Q => At C σ H fun ρ st μ F => PostV (C.at σ) Q μ F H (m ρ st)
def tT (C : Cn) (m : En → Sto → Res Bool) : TT := fun σ H Q => At C σ H fun ρ st μ F => PostB (C.at σ) Q μ F H (m ρ st)
def tAs (C : Cn) (m : En → Sto → Res (List Vl)) : TA := fun σ H Q => At C σ H fun ρ st μ F => PostA (C.at σ) Q μ F H (m ρ st)
section
variable {C : Cn} {μ μ1 : Mu} {F H F1 H1 : Hp} {st : Sto}
theorem Erw.later {e : Er} (x : Ext μ F H μ1 F1 H1) (h : Erw C μ F H e st) : Erw C μ1 F1 H1 e st := fun cls dd μ' F' H' y s o => h cls dd μ' F' H' (x.trans y) s o
/-- what holds from a state holds from a later one -/
structure Lat {β : Type} (G : β → Sto → Mu → Hp → Hp → Prop) : Prop where
  it : ∀ {r st μ F H μ1 F1 H1}, Ext μ F H μ1 F1 H1 → G r st μ F H → G r st μ1 F1 H1
theorem gE_lat {Q : VK} : Lat (gE C Q) := ⟨fun x h v μ' F' H' o => h v μ' F' H' ⟨x.trans o.ext, o.sr, o.rok, fun c e => let ⟨a, h1, h2⟩ := o.new c e; ⟨a, h1, x.dom a h2⟩⟩⟩
theorem gB_lat {Q : Bool → Hp → Prop} : Lat (gB C Q) := ⟨fun x h μ' F' H' y s => h μ' F' H' (x.trans y) s⟩
theorem gA_lat {Q : List V → Hp → Prop} : Lat (gA C Q) := ⟨fun x h v μ' F' H' y s o => h v μ' F' H' (x.trans y) s o⟩
theorem Post.later {β : Type} {G : β → Sto → Mu → Hp → Hp → Prop} (g : Lat G) {r : Res β} (x : Ext μ F H μ1 F1 H1) (h : Post C G μ F H r) : Post C G μ1 F1 H1 r := by
  cases r with
  | ok r st => exact g.it x h
  | er e st => exact Erw.later x h
  | no => exact h
/-- one step, then the rest: what came first is data or a cell -/
theorem Post.bindV {β : Type} {G : β → Sto → Mu → Hp → Hp → Prop} (g : Lat G) {m : Res Vl} {k : Vl → Sto → Res β} {Q : VK} (h : Post C G μ F H (m.bind k))
    (hk : ∀ x s v μ1 F1 H1, Ext μ F H μ1 F1 H1 → SR C.K μ1 F1 H1 s → Vok C.K F1 μ1 x v → Post C G μ1 F1 H1 (k x s) → Q v H1) : PostV C Q μ F H m := by
  cases m with
  | ok x s => exact fun v μ1 F1 H1 e s1 o => hk x s v μ1 F1 H1 e s1 o (Post.later g e h)
  | er e s => exact h
  | no => exact h
theorem Post.bindB {β : Type} {G : β → Sto → Mu → Hp → Hp → Prop} (g : Lat G) {m : Res Bool} {k : Bool → Sto → Res β} {Q : Bool → Hp → Prop} (h : Post C G μ F H (m.bind k))
    (hk : ∀ x s μ1 F1 H1, Ext μ F H μ1 F1 H1 → SR C.K μ1 F1 H1 s → Post C G μ1 F1 H1 (k x s) → Q x H1) : PostB C Q μ F H m := by
  cases m with
  | ok x s => exact fun μ1 F1 H1 e s1 => hk x s μ1 F1 H1 e s1 (Post.later g e h)
  | er e s => exact h
  | no => exact h
theorem Post.bindA {β : Type} {G : β → Sto → Mu → Hp → Hp → Prop} (g : Lat G) {m : Res (List Vl)} {k : List Vl → Sto → Res β} {Q : List V → Hp → Prop} (h : Post C G μ F H (m.bind k))
    (hk : ∀ x s v μ1 F1 H1, Ext μ F H μ1 F1 H1 → SR C.K μ1 F1 H1 s → VokAll C.K F1 μ1 x v → Post C G μ1 F1 H1 (k x s) → Q v H1) : PostA C Q μ F H m := by
  cases m with
  | ok x s => exact fun v μ1 F1 H1 e s1 o => hk x s v μ1 F1 H1 e s1 o (Post.later g e h)
  | er e s => exact h
  | no => exact h
theorem VokAll.ext (a : Ext μ F H μ1 F1 H1) : ∀ {xs : List Vl} {vs : List V}, VokAll C.K F μ xs vs → VokAll C.K F1 μ1 xs vs
  | _, _, .nil => .nil
  | _, _, .cons h r => .cons (h.ext a) (VokAll.ext a r)
end
/-! ### data out of what came -/
/-- a new object handed on: data, unless it is to be a cell -/
def frz : Rv → Vl
  | .d x => .d x
  | .c i => .c i
  | .s ns => .s ns
  | .o x => .o x
  | .n (.l xs) => .d (.list xs)
  | .n (.m kvs) => .d (.dict kvs)
def mV (m : Ev) : En → Sto → Res Vl := fun ρ st => (m ρ st).bind fun r s => .ok (frz r) s
/-- .. a cell -/
def mVc (m : Ev) : En → Sto → Res Vl := fun ρ st => (m ρ st).bind fun r s => match r with
  | .n c => .ok (.c s.length) (s ++ [c])
  | r => .ok (frz r) s
section
variable {X : Cx} {C : Cn} {e : Expr} {m : Ev}
theorem _root_.L2.PE.imp {t t' : TE} (h : PE X e t) (w : ∀ σ H Q, t' σ H Q → t σ H Q) : PE X e t' := ⟨fun pins s σ H Q I h' => h.run pins s σ H Q I (w σ H Q h')⟩
theorem frz_out {K : Kw} {μ μ' : Mu} {F H F' H' : Hp} {st st' : Sto} {r : Rv} {v : V} (s : SR K μ F H st) (o : Out K μ F H st' r v μ' F' H') : ∃ F2, Ext μ F H μ' F2 H' ∧ SR K μ' F2 H' st' ∧ Vok K F2 μ' (frz r) v := by
  obtain ⟨ext, sr, rok, new⟩ := o
  cases r with
  | d x => exact ⟨F', ext, sr, rok⟩
  | c i => exact ⟨F', ext, sr, rok⟩
  | s ns => exact ⟨F', ext, sr, rok⟩
  | o x => exact ⟨F', ext, sr, rok⟩
  | n c =>
    obtain ⟨a, o, rfl, h2, h3, h4, h5⟩ := rok
    obtain ⟨a', e1, h0⟩ := new c rfl
    cases e1
    obtain ⟨s2, x2, sm⟩ := sr.freeze ext s.sub h0 h2 h4 h5
    refine ⟨_, x2, s2, ?_⟩
    cases c with
    | l ds =>
      obtain ⟨xs, rfl, q⟩ := h3
      exact .lst upd_same (q.same sm)
    | m kvs =>
      exact (DcOk.same sm h3).dq upd_same
theorem pv_frz (h : PE X e (tM C m)) : PE X e (tV C (mV m)) := h.imp fun σ H Q ⟨ρ, st, μ, F, h1, h2, h3⟩ => ⟨ρ, st, μ, F, h1, h2, by
  show PostE (C.at σ) Q μ F H (m ρ st)
  cases e : m ρ st with
  | ok r st' =>
    simp only [mV, e] at h3
    intro v μ' F' H' o
    obtain ⟨F2, x2, s2, k⟩ := frz_out h2 o
    exact h3 v μ' F2 H' x2 s2 k
  | er e2 st' => simp only [mV, e] at h3; exact h3
  | no => simp only [mV, e] at h3; exact h3⟩
theorem pv_cell (h : PE X e (tM C m)) : PE X e (tV C (mVc m)) := h.imp fun σ H Q ⟨ρ, st, μ, F, h1, h2, h3⟩ => ⟨ρ, st, μ, F, h1, h2, by
  show PostE (C.at σ) Q μ F H (m ρ st)
  cases e : m ρ st with
  | ok r st' =>
    simp only [mVc, e] at h3
    intro v μ' F' H' o
    cases r with
    | d x => exact h3 v μ' F' H' o.ext o.sr o.rok
    | c x => exact h3 v μ' F' H' o.ext o.sr o.rok
    | s x => exact h3 v μ' F' H' o.ext o.sr o.rok
    | o x => exact h3 v μ' F' H' o.ext o.sr o.rok
    | n c =>
      obtain ⟨ext, sr, ⟨a, o, rfl, g2, g3, g4, g5⟩, new⟩ := o
      obtain ⟨a', e1, h0⟩ := new c rfl
      cases e1
      obtain ⟨s2, x2⟩ := sr.celled ext h0 g2 g4 g5 g3
      exact h3 _ _ _ _ x2 s2 ⟨a, by rw [← sr.len]; simp, rfl⟩
  | er e2 st' => simp only [mVc, e] at h3; exact h3
  | no => simp only [mVc, e] at h3; exact h3⟩
end
/-- .. a cell that nobody will write again becomes data -/
def mVz (m : Ev) : En → Sto → Res Vl := fun ρ st => (m ρ st).bind fun r s => match r with
  | .c k => match s[k]? with
    | some (.l xs) => .ok (.d (.list xs)) (s.set k gone)
    | _ => .no
  | r => .ok (frz r) s
/-! ### the objects of the heap cell -/
def decV : PyData → Fv
  | .tuple [x] => .d x
  | .int j => .ob j.toNat
  | _ => .d .none
def decF : PyData → Str × Fv
  | .tuple [.str p, v] => (p, decV v)
  | _ => ("", .d .none)
def decO : PyData → Ho
  | .tuple [.str cls, .list fs] => .ins cls (fs.map decF)
  | .list xs => .lst (xs.map decV)
  | _ => .lst []
theorem dec_map {α β : Type} {f : α → β} {g : β → α} (h : ∀ x, g (f x) = x) : ∀ xs : List α, (xs.map f).map g = xs
  | [] => rfl
  | x :: xs => by rw [List.map_cons, List.map_cons, h, dec_map h xs]
theorem dec_encV : ∀ x, decV (encV x) = x
  | .d _ => rfl
  | .ob _ => rfl
theorem dec_encF : ∀ x, decF (encF x) = x := fun ⟨p, v⟩ => by
  show (p, decV (encV v)) = _
  rw [dec_encV]
theorem dec_encO : ∀ x, decO (encO x) = x
  | .ins cls fs => by
    show Ho.ins cls ((fs.map encF).map decF) = _
    rw [dec_map dec_encF]
  | .lst xs => by
    show Ho.lst ((xs.map encV).map decV) = _
    rw [dec_map dec_encV]
def objsC : Cl → List Ho
  | .m [_, (.list os, _)] => os.map decO
  | _ => []
def objsOf (st : Sto) : List Ho := match st[0]? with
  | some c => objsC c
  | none => []
@[simp] theorem objsC_heap (objs : List Ho) : objsC (heapC objs) = objs := dec_map dec_encO objs
theorem objsOf_eq {st : Sto} {objs : List Ho} (h : st[0]? = some (heapC objs)) : objsOf st = objs := by
  unfold objsOf
  rw [h]
  exact objsC_heap objs
def fvsD : List Fv → Option (List PyData)
  | [] => some []
  | .d x :: r => (fvsD r).map (x :: ·)
  | .ob _ :: _ => none
theorem fvsD_ok {K : Kw} {F : Hp} {η : List Addr} : ∀ {xs : List Fv} {vs : List V} {ds : List PyData}, FvAll K F η xs vs → fvsD xs = some ds → DqAll K F vs ds
  | _, _, _, .nil, e => by cases e; exact .nil
  | .d x :: xs, _, _, .cons h r, e => by
    unfold fvsD at e
    cases q : fvsD xs with
    | none => rw [q] at e; cases e
    | some ds => rw [q] at e; cases e; exact .cons h (fvsD_ok r q)
  | .ob j :: xs, _, _, .cons h r, e => by unfold fvsD at e; cases e
/-- an object, by its number -/
theorem SR.obj {K : Kw} {μ : Mu} {F H : Hp} {st : Sto} (s : SR K μ F H st) {j : Nat} {x : Ho} (h : (objsOf st)[j]? = some x) : ∃ objs a o, st[0]? = some (heapC objs) ∧ objsOf st = objs ∧ objs[j]? = some x ∧ μ.η[j]? = some a ∧ F a = none ∧ H a = some o ∧ HoOk K F μ.η a x o := by
  obtain ⟨objs, k1, k2, k3⟩ := s.obs
  have e := objsOf_eq k1
  rw [e] at h
  obtain ⟨a, o, q1, q2, q3, q4⟩ := k3 j x h
  exact ⟨objs, a, o, k1, e, h, q1, q2, q3, q4⟩
/-! ### what stands at a value, as data: a cell by its content now -/
def viewO (st : Sto) (j : Nat) : Option PyData := match (objsOf st)[j]? with
  | some (.lst xs) => (fvsD xs).map .list
  | _ => none
def view (st : Sto) : Vl → Option PyData
  | .d x => some x
  | .c i => match st[i]? with
    | some (.l xs) => some (.list xs)
    | some (.m kvs) => if isGone (.m kvs) then none else some (.dict kvs)
    | none => none
  | .s _ => none
  | .o (.ob j) => viewO st j
  | .o (.tp ds) => some (.tuple ds)
  | .o _ => none
/-- the thing itself in the heap, its items among the data -/
def Vw (K : Kw) (F H : Hp) : V → PyData → Prop
  | v, .list ds => ∃ a xs, v = .ref a ∧ H a = some (.lst xs) ∧ DqAll K F xs ds
  | v, .dict kvs => (∃ a o, v = .ref a ∧ H a = some o ∧ DcOk K F a kvs o) ∨ ∃ x r, kvs = (.list [], .str x) :: r ∧ Dq K F v (.dict kvs)
  | v, d => Dq K F v d
section
variable {K : Kw} {μ : Mu} {F H : Hp} {st : Sto}
theorem Vw.of {v : V} {d : PyData} (s : Same F H) (h : Dq K F v d) : Vw K F H v d := by
  cases h with
  | lst h r => exact ⟨_, _, rfl, s _ _ h, r⟩
  | dic h r => exact .inl ⟨_, _, rfl, s _ _ h, .inl ⟨_, rfl, r⟩⟩
  | dig h r n z => exact .inl ⟨_, _, rfl, s _ _ h, .inr ⟨_, ⟨_, rfl⟩, r, n, z⟩⟩
  | ins h g r => exact .inr ⟨_, _, rfl, .ins h g r⟩
  | non => exact .non
  | bl b => exact .bl b
  | int i => exact .int i
  | str x => exact .str x
  | tup h r => exact .tup h r
theorem Vw.dq {v : V} {d : PyData} (s : Same F H) (h : Vw K F H v d) : Dq K H v d := by
  cases d with
  | list ds => obtain ⟨a, xs, rfl, h1, h2⟩ := h; exact .lst h1 (h2.same s)
  | dict ds =>
    rcases h with ⟨a, o, rfl, h1, h2⟩ | ⟨x, r, rfl, h⟩
    · exact (h2.same s).dq h1
    · exact h.same s
  | none => exact Dq.same s h
  | bool b => exact Dq.same s h
  | int i => exact Dq.same s h
  | str x => exact Dq.same s h
  | tuple ds => exact Dq.same s h
theorem view_ok (s : SR K μ F H st) {x : Vl} {v : V} {d : PyData} (h : Vok K F μ x v) (e : view st x = some d) : Vw K F H v d := by
  cases x with
  | d y => cases e; exact Vw.of s.sub h
  | s ns => cases e
  | o x =>
    cases x with
    | ob j =>
      obtain ⟨a, h1, rfl⟩ := h
      have e : viewO st j = some d := e
      unfold viewO at e
      split at e
      · rename_i xs hx
        obtain ⟨objs, a', o, k1, k2, k3, k4, k5, k6, us, rfl, k7⟩ := s.obj hx
        rw [h1] at k4; cases k4
        cases q : fvsD xs with
        | none => rw [q] at e; cases e
        | some ds => rw [q] at e; cases e; exact ⟨_, _, rfl, k6, fvsD_ok k7 q⟩
      · cases e
    | tp ds =>
      cases e
      obtain ⟨a, xs, o, rfl, h1, _, h2⟩ := h
      exact Vw.of s.sub (.tup (.inr ⟨o, h1⟩) h2)
    | _ => cases e
  | c i =>
    obtain ⟨a, h1, rfl⟩ := h
    unfold view at e
    cases q : st[i]? with
    | none => simp only [q] at e; cases e
    | some c =>
      cases c with
      | l xs =>
        obtain ⟨b, o, g1, g2, g3⟩ := s.cell i _ q
        rw [h1] at g1; cases g1
        simp only [q] at e; cases e
        obtain ⟨vs, rfl, r⟩ := g3
        exact ⟨_, _, rfl, g2, r⟩
      | m xs =>
        simp only [q] at e
        cases hz : isGone (.m xs) with
        | true => rw [hz] at e; cases e
        | false =>
          rw [hz] at e
          cases e
          obtain ⟨b, o, g1, g2, g3⟩ := s.cell i _ q hz
          rw [h1] at g1; cases g1
          exact .inl ⟨_, _, rfl, g2, g3⟩
/-- keys that are ints and texts -/
def flK (kvs : List (PyData × PyData)) : Bool := kvs.all fun p => match p.1 with
  | .int _ => true
  | .str _ => true
  | _ => false
theorem DcOk.flat {a : Addr} {kvs : List (PyData × PyData)} {o : HO} (h : DcOk K F a kvs o) (f : flK kvs = true) : ∃ ws, o = .dK ws ∧ DqKv K F ws kvs := by
  rcases h with h | ⟨es, h1, h2, h3, h4⟩
  · exact h
  · cases h2 with
    | nil => exact absurd rfl h4
    | cons g _ _ _ _ =>
      unfold flK at f
      rw [List.all_cons, Bool.and_eq_true] at f
      cases g <;> exact absurd f.1 Bool.false_ne_true
theorem Vw.flat_dict {v : V} {kvs : List (PyData × PyData)} (h : Vw K F H v (.dict kvs)) (f : flK kvs = true) : ∃ a ws, v = .ref a ∧ H a = some (.dK ws) ∧ DqKv K F ws kvs := by
  rcases h with ⟨a, o, rfl, h1, h2⟩ | ⟨x, r, rfl, h⟩
  · obtain ⟨ws, rfl, h3⟩ := h2.flat f
    exact ⟨a, ws, rfl, h1, h3⟩
  · cases f
end
end Cp
/-! Ch: the head's facts as Bool functions of the written part; facts of own error classes. -/
namespace Cp
open PySem PySem.Spec PyProof.Rows L2
abbrev Fb : Type := PySem.W.Frag → Bool
def obsX (fb : List Fb) (fn : List He.DefD) (K : PySem.W.Frag) : He.AlD := ((fb.all fun f => f K) && fn.all fun d => d.ok K, fn.map fun d => He.fnW K d.at_)
def SaysX (fb : List Fb) (fn : List He.DefD) (K : PySem.W.Frag) : Prop := obsX fb fn K = He.valD fn
section
variable {fb : List Fb} {fn : List He.DefD} {K : PySem.W.Frag}
theorem SaysX.fact (c : SaysX fb fn K) (i : Nat) {f : Fb} (h : fb[i]? = some f := by rfl) : f K = true := by
  have c1 := (He.ba (show ((fb.all fun f => f K) && fn.all fun d => d.ok K) = true from congrArg (fun z : He.AlD => z.1) c)).1
  exact List.all_eq_true.mp c1 f (List.mem_of_getElem? h)
theorem SaysX.def_ (c : SaysX fb fn K) (i : Nat) {d : He.DefD} (h : fn[i]? = some d := by rfl) : ∃ fd, FunD K d.name d.qual d.params d.body d.scope (d.dvs K) (d.kws K) (He.fAd K d.at_) fd := by
  have c2 := (He.ba (show ((fb.all fun f => f K) && fn.all fun d => d.ok K) = true from congrArg (fun z : He.AlD => z.1) c)).2
  have e : fn.map (fun d => He.fnW K d.at_) = fn.map He.DefD.val := congrArg (fun z : He.AlD => z.2) c
  have e2 : (fn.map fun d => He.fnW K d.at_)[i]? = (fn.map He.DefD.val)[i]? := by rw [e]
  rw [List.getElem?_map, List.getElem?_map, h] at e2
  exact He.DefD.funD (Option.some.inj e2) (List.all_eq_true.mp c2 d (List.mem_of_getElem? h))
end
/-! ### own error classes -/
/-- whether the classes named are asked rightly -/
def isB (x : Str) (ys : List Str) (b : Bool) : Fb := fun K => decide (PySem.W.kitAny K (.ref (He.ga K x)) (ys.map fun y => .ref (He.ga K y)) = some b)
theorem kit1 {K : PySem.W.Frag} {t c : Value} {b : Bool} (h : PySem.W.kitAny K t [c] = some b) : PySem.W.kitOne K t c = some b := by
  unfold PySem.W.kitAny at h
  cases q : PySem.W.kitOne K t c with
  | none => rw [q] at h; cases h
  | some v =>
    rw [q] at h
    cases v with
    | true => exact h
    | false => exact h
/-! ### a class whose __init__ keeps one field -/
def exObjB (x : Str) : Fb := fun K => match K.lookup (He.ga K x) with
  | some ⟨.type "type", _, .cls cd, sl⟩ => (match cd.mro, sl.toList with
    | .ref C' :: bm, [_, _, _, _, some (.builtin n), _] => C' == He.ga K x && n == "ValueError.__new__" && !cd.hasDel && PySem.HandSPX.refsVE bm && cd.hasDict
    | _, _ => false)
  | _ => false
theorem exObjB_ok {x : Str} {K : PySem.W.Frag} (q : exObjB x K = true) : ∃ nm qn N bs bm sn sub ab col dd k0 k1 k2 k3 k5, K.lookup (He.ga K x) = some (excClassObj nm qn (He.ga K x) N bs bm true sn sub ab col dd k0 k1 k2 k3 k5 "ValueError.__new__") ∧ PySem.HandSPX.refsVE bm = true := by
  unfold exObjB at q
  split at q
  · rename_i dd cd sl ho
    split at q
    · rename_i C' bm k0 k1 k2 k3 n k5 hm hs
      simp only [Bool.and_eq_true, beq_iff_eq, Bool.not_eq_true'] at q
      obtain ⟨⟨⟨⟨e1, rfl⟩, hdel⟩, ht⟩, hh⟩ := q
      subst e1
      obtain ⟨nm, bs, mro, ns, qn, hd, sn, sub, ab, col, del⟩ := cd
      dsimp only at hm hdel hh
      subst hm hdel hh
      have hsl : sl = #[k0, k1, k2, k3, some (.builtin "ValueError.__new__"), k5] := by
        obtain ⟨l⟩ := sl
        simp only at hs
        rw [hs]
      subst hsl
      exact ⟨_, _, _, _, _, _, _, _, _, _, _, _, _, _, _, ho, ht⟩
    · cases q
  · cases q
end Cp
/-! Cp1: expressions. -/
namespace Cp
open PySem L2
section
variable {X : Cx} {C : Cn} {Q : VK} {μ : Mu} {F H : Hp} {st : Sto} {e a b c : Expr} {m ma mb mc : Ev} {pos : Pos}
/-! ### how a rule's wish is met -/
theorem fin_d {x : PyData} {v : V} (s : SR C.K μ F H st) (h : PostE C Q μ F H (.ok (.d x) st)) (hv : Dq C.K F v x) : Q v H := h v μ F H ⟨Ext.refl, s, hv, fun _ e => nomatch e⟩
theorem fin_n {c : Cl} {p : Addr} {o : HO} (s : SR C.K μ F H st) (h : PostE C Q μ F H (.ok (.n c) st)) (hp : H p = none) (hc : ClOk C.K F p c o) : Q (.ref p) (upd H p o) :=
  let ⟨s1, x1⟩ := s.newly hp
  h _ μ F _ ⟨x1, s1, ⟨p, o, rfl, upd_same, hc, (s.dead hp).1, (s.dead hp).2⟩, fun _ _ => ⟨p, rfl, hp⟩⟩
theorem fin_t {ds : List PyData} {p : Addr} {xs : List V} (s : SR C.K μ F H st) (h : PostE C Q μ F H (.ok (.d (.tuple ds)) st)) (hp : H p = none) (hx : DqAll C.K F xs ds) : Q (.ref p) (upd H p (.tup xs)) := by
  obtain ⟨s1, x1⟩ := s.newly (o := .tup xs) hp
  obtain ⟨s2, x2, sm⟩ := s1.freeze x1 s.sub hp upd_same (s.dead hp).1 (s.dead hp).2
  exact h _ μ _ _ ⟨x2, s2, .tup (.inl upd_same) (hx.same sm), fun _ e => nomatch e⟩
/-! ### names, constants -/
def Rv.of : Vl → Rv
  | .d x => .d x
  | .c i => .c i
  | .s ns => .s ns
  | .o x => .o x
def mN (i : Nat) : Ev := fun ρ st => match ρ[i]? with
  | some (some x) => .ok (Rv.of x) st
  | _ => .no
def mK (x : PyData) : Ev := fun _ st => .ok (.d x) st
theorem s_name {i : Nat} (h : PE X e (tVar i)) : PE X e (tM C (mN i)) := h.imp fun σ H Q ⟨ρ, st, μ, F, h1, h2, h3⟩ => by
  unfold mN at h3
  cases q : ρ[i]? with
  | none => simp only [q] at h3; exact False.elim h3
  | some o =>
    cases o with
    | none => simp only [q] at h3; exact False.elim h3
    | some x =>
      simp only [q] at h3
      obtain ⟨v, e1, k⟩ := h1.2 i x q
      refine ⟨v, e1, h3 v μ F H ⟨Ext.refl, h2, ?_, fun c z => by cases x <;> cases z⟩⟩
      cases x <;> exact k
theorem s_const {x : PyData} {v : V} (h : PE X e (tC v)) (hd : ∀ F, Dq C.K F v x) : PE X e (tM C (mK x)) := h.imp fun σ H Q ⟨ρ, st, μ, F, h1, h2, h3⟩ => fin_d h2 h3 (hd F)
theorem s_int {i : Int} {j} : PE X (.Constant (.int i) j pos) (tM C (mK (.int i))) := s_const pe_int fun _ => .int i
theorem s_bool {i : Bool} {j} : PE X (.Constant (.bool i) j pos) (tM C (mK (.bool i))) := s_const pe_bl fun _ => .bl i
theorem s_none {j} : PE X (.Constant .none j pos) (tM C (mK .none)) := s_const pe_non fun _ => .non
theorem s_str {x : Str} {j} : PE X (.Constant (.str x) j pos) (tM C (mK (.str x))) := s_const pe_str fun _ => .str x
/-! ### operators of two values -/
def view2 (f : PyData → PyData → Option Rv) (s : Sto) (x y : Vl) : Res Rv := match view s x, view s y with
  | some a, some b => match f a b with
    | some r => .ok r s
    | none => .no
  | _, _ => .no
def mBin (f : PyData → PyData → Option Rv) (ma mb : Ev) : Ev := fun ρ st => (mV ma ρ st).bind fun x s1 => (mV mb ρ s1).bind fun y s2 => view2 f s2 x y
def BinOk (C : Cn) (r : R2) (f : PyData → PyData → Option Rv) : Prop :=
  ∀ (a b : PyData) (res : Rv) (v u : V) (μ : Mu) (F H : Hp) (st : Sto) (Q : VK), SR C.K μ F H st → Vw C.K F H v a → Vw C.K F H u b → f a b = some res → PostE C Q μ F H (.ok res st) → r v u H Q
theorem s_two {r : R2} {f : PyData → PyData → Option Rv} (h : PE X e (tOp r (tV C (mV ma)) (tV C (mV mb)))) (ok : BinOk C r f) : PE X e (tM C (mBin f ma mb)) :=
  h.imp fun σ H Q ⟨ρ, st, μ, F, h1, h2, h3⟩ => ⟨ρ, st, μ, F, h1, h2, Post.bindV gE_lat h3 fun x s v μ1 F1 H1 x1 r1 k1 h4 =>
    ⟨ρ, s, μ1, F1, h1.ext x1, r1, Post.bindV gE_lat h4 fun y s2 u μ2 F2 H2 x2 r2 k2 h5 => by
      unfold view2 at h5
      cases q1 : view s2 x with
      | none => simp only [q1] at h5; exact False.elim h5
      | some da =>
        cases q2 : view s2 y with
        | none => simp only [q1, q2] at h5; exact False.elim h5
        | some db =>
          cases q3 : f da db with
          | none => simp only [q1, q2, q3] at h5; exact False.elim h5
          | some res =>
            simp only [q1, q2, q3] at h5
            exact ok da db res v u μ2 F2 H2 s2 Q r2 (view_ok r2 (k1.ext x2) q1) (view_ok r2 k2 q2) q3 h5⟩⟩
theorem s_bin {op : Operator} {r : R2} {f : PyData → PyData → Option Rv} (ho : OpR X (binaryOp op) r) (ok : BinOk C r f) (ha : PE X a (tM C ma)) (hb : PE X b (tM C mb)) : PE X (.BinOp a op b pos) (tM C (mBin f ma mb)) :=
  s_two (pe_op ho (pv_frz ha) (pv_frz hb)) ok
theorem BinOk.or {r r' : R2} {f f' : PyData → PyData → Option Rv} (h : BinOk C r f) (h' : BinOk C r' f') : BinOk C (fun x y H Q => r x y H Q ∨ r' x y H Q) (fun a b => match f a b with | some z => some z | none => f' a b) := by
  intro a b res v u μ F H st Q s va vb e p
  cases q : f a b with
  | some z => simp only [q] at e; cases e; exact .inl (h a b _ v u μ F H st Q s va vb q p)
  | none => simp only [q] at e; exact .inr (h' a b res v u μ F H st Q s va vb e p)
/-- ints to an int -/
def fI (P : Int → Int → Bool) (g : Int → Int → Int) : PyData → PyData → Option Rv
  | .int i, .int j => if P i j then some (.d (.int (g i j))) else none
  | _, _ => none
theorem Vw.int {K : Kw} {v : V} {i : Int} (h : Vw K F H v (.int i)) : v = .int i := by cases (show Dq K F v (.int i) from h); rfl
theorem Vw.bl {K : Kw} {v : V} {i : Bool} (h : Vw K F H v (.bool i)) : v = .bl i := by cases (show Dq K F v (.bool i) from h); rfl
theorem Vw.str {K : Kw} {v : V} {i : Str} (h : Vw K F H v (.str i)) : v = .str i := by cases (show Dq K F v (.str i) from h); rfl
theorem Vw.non {K : Kw} {v : V} (h : Vw K F H v .none) : v = .non := by cases (show Dq K F v .none from h); rfl
theorem Vw.tup {K : Kw} {v : V} {ds : List PyData} (h : Vw K F H v (.tuple ds)) : ∃ a xs, v = .ref a ∧ Rd F a (.tup xs) ∧ DqAll K F xs ds := by cases (show Dq K F v (.tuple ds) from h) with | tup h1 h2 => exact ⟨_, _, rfl, h1, h2⟩
theorem fI_ok {P : Int → Int → Prop} {p : Int → Int → Bool} {g : Int → Int → Int} (hp : ∀ i j, p i j = true → P i j) : BinOk C (rI P fun i j => .int (g i j)) (fI p g) := by
  intro a b res v u μ F H st Q s va vb e h
  unfold fI at e
  split at e
  · split at e
    · rename_i hh
      cases e
      exact ⟨_, _, va.int, vb.int, hp _ _ hh, fin_d s h (.int _)⟩
    · cases e
  · cases e
theorem fI0_ok {g : Int → Int → Int} : BinOk C (rI0 fun i j => .int (g i j)) (fI (fun _ _ => true) g) := by
  intro a b res v u μ F H st Q s va vb e h
  unfold fI at e
  split at e
  · simp only [if_true] at e
    cases e
    exact ⟨_, _, va.int, vb.int, fin_d s h (.int _)⟩
  · cases e
/-- texts, tuples, lists joined -/
def fCatS : PyData → PyData → Option Rv
  | .str i, .str j => if i.length + j.length ≤ sizeLine then some (.d (.str (i ++ j))) else none
  | _, _ => none
def fCatT : PyData → PyData → Option Rv
  | .tuple i, .tuple j => if i.length + j.length ≤ sizeLine then some (.d (.tuple (i ++ j))) else none
  | _, _ => none
def fCatL : PyData → PyData → Option Rv
  | .list i, .list j => if i.length + j.length ≤ sizeLine then some (.n (.l (i ++ j))) else none
  | _, _ => none
theorem fCatS_ok : BinOk C (fun x y H Q => ∃ i j, x = .str i ∧ y = .str j ∧ i.length + j.length ≤ sizeLine ∧ Q (.str (i ++ j)) H) fCatS := by
  intro a b res v u μ F H st Q s va vb e h
  unfold fCatS at e
  split at e
  · split at e
    · cases e
      exact ⟨_, _, va.str, vb.str, by assumption, fin_d s h (.str _)⟩
    · cases e
  · cases e
theorem fCatT_ok {K : PySem.W.Frag} : BinOk C (rCatA K) fCatT := by
  intro a b res v u μ F H st Q s va vb e h
  unfold fCatT at e
  split at e
  · split at e
    · rename_i hz
      cases e
      obtain ⟨p, xs, rfl, p1, p2⟩ := va.tup
      obtain ⟨q, ys, rfl, q1, q2⟩ := vb.tup
      refine ⟨p, q, xs, ys, rfl, rfl, SqT.rd s.sub p1, SqT.rd s.sub q1, by rw [p2.length, q2.length]; exact hz, fun z => ?_, fun _ z => ?_, fun _ _ r hr => fin_t s h hr (p2.app q2)⟩
      · subst z
        cases p2
        exact fin_d s h (.tup q1 q2)
      · subst z
        cases q2
        exact fin_d s (by simpa using h) (.tup p1 p2)
    · cases e
  · cases e
theorem fCatL_ok : BinOk C rCat fCatL := by
  intro a b res v u μ F H st Q s va vb e h
  unfold fCatL at e
  split at e
  · split at e
    · rename_i hz
      cases e
      obtain ⟨p, xs, rfl, p1, p2⟩ := va
      obtain ⟨q, ys, rfl, q1, q2⟩ := vb
      exact ⟨p, q, xs, ys, rfl, rfl, p1, q1, by rw [p2.length, q2.length]; exact hz, fun r hr => fin_n s h hr ⟨_, rfl, p2.app q2⟩⟩
    · cases e
  · cases e
end
end Cp
/-! Cp2: comparisons, tests, places, slices, displays. -/
namespace Cp
open PySem L2
section
variable {X : Cx} {C : Cn} {Q : VK} {μ : Mu} {F H : Hp} {st : Sto} {e a b c : Expr} {m ma mb mc : Ev} {pos : Pos}
/-! ### comparisons -/
def CmpOk (C : Cn) (r : R2) (g : PyData → PyData → Option Bool) : Prop :=
  ∀ (a b : PyData) (k : Bool) (v u : V) (μ : Mu) (F H : Hp) (st : Sto) (Q : VK), SR C.K μ F H st → Vw C.K F H v a → Vw C.K F H u b → g a b = some k → Q (.bl k) H → r v u H Q
def cmp2 (g : PyData → PyData → Option Bool) (s : Sto) (x y : Vl) : Option Bool := match view s x, view s y with
  | some a, some b => g a b
  | _, _ => none
def okB (o : Option Bool) (s : Sto) : Res Bool := match o with
  | some k => .ok k s
  | none => .no
/-- a test's answer as a value -/
def bV (m : En → Sto → Res Bool) : Ev := fun ρ st => (m ρ st).bind fun k s => .ok (.d (.bool k)) s
def mCmp (g : PyData → PyData → Option Bool) (ma mb : Ev) : En → Sto → Res Bool := fun ρ st => (mV ma ρ st).bind fun x s1 => (mV mb ρ s1).bind fun y s2 => okB (cmp2 g s2 x y) s2
theorem CmpOk.or {r r' : R2} {f f' : PyData → PyData → Option Bool} (h : CmpOk C r f) (h' : CmpOk C r' f') : CmpOk C (fun x y H Q => r x y H Q ∨ r' x y H Q) (fun a b => match f a b with | some z => some z | none => f' a b) := by
  intro a b res v u μ F H st Q s va vb e p
  cases q : f a b with
  | some z => simp only [q] at e; cases e; exact .inl (h a b _ v u μ F H st Q s va vb q p)
  | none => simp only [q] at e; exact .inr (h' a b res v u μ F H st Q s va vb e p)
theorem cmp_core {β : Type} {G : β → Sto → Mu → Hp → Hp → Prop} (gl : Lat G) {r : R2} {g : PyData → PyData → Option Bool} (ok : CmpOk C r g) {σ : St} {ρ : En} {R : VK} (h1 : Eok C.K F μ ρ σ) {kk : Bool → Sto → Res β}
    (h3 : Post (C.at σ) G μ F H ((mCmp g ma mb ρ st).bind kk)) (fin : ∀ k s μ1 F1 H1, Ext μ F H μ1 F1 H1 → SR C.K μ1 F1 H1 s → Post (C.at σ) G μ1 F1 H1 (kk k s) → R (.bl k) H1) :
    PostV (C.at σ) (fun x H1 => tV C (mV mb) σ H1 fun y H2 => r x y H2 R) μ F H (mV ma ρ st) := by
  have h3' : Post (C.at σ) G μ F H ((mV ma ρ st).bind fun x s1 => ((mV mb ρ s1).bind fun y s2 => okB (cmp2 g s2 x y) s2).bind kk) := by
    revert h3
    unfold mCmp
    cases mV ma ρ st <;> exact id
  refine Post.bindV gl h3' fun x s v μ1 F1 H1 x1 r1 k1 h4 => ⟨ρ, s, μ1, F1, h1.ext x1, r1, ?_⟩
  have h4' : Post (C.at σ) G μ1 F1 H1 ((mV mb ρ s).bind fun y s2 => (okB (cmp2 g s2 x y) s2).bind kk) := by
    revert h4
    cases mV mb ρ s <;> exact id
  refine Post.bindV gl h4' fun y s2 u μ2 F2 H2 x2 r2 k2 h5 => ?_
  unfold cmp2 at h5
  cases q1 : view s2 x with
  | none => simp only [q1, okB] at h5; exact False.elim h5
  | some da =>
    cases q2 : view s2 y with
    | none => simp only [q1, q2, okB] at h5; exact False.elim h5
    | some db =>
      cases q3 : g da db with
      | none => simp only [q1, q2, q3, okB] at h5; exact False.elim h5
      | some k =>
        simp only [q1, q2, q3, okB] at h5
        exact ok da db k v u μ2 F2 H2 s2 R r2 (view_ok r2 (k1.ext x2) q1) (view_ok r2 k2 q2) q3 (fin k s2 μ2 F2 H2 (x1.trans x2) r2 h5)
theorem s_cmp {op : CmpOp} {r : R2} {g : PyData → PyData → Option Bool} (ho : OpR X (compareOp op) r) (ok : CmpOk C r g) (ha : PE X a (tM C ma)) (hb : PE X b (tM C mb)) (hm : behindInMarks op b = false) : PE X (.Compare a [op] [b] pos) (tM C (bV (mCmp g ma mb))) :=
  (pe_cmpR ho (pv_frz ha) (pv_frz hb) hm).imp fun σ H Q ⟨ρ, st, μ, F, h1, h2, h3⟩ => ⟨ρ, st, μ, F, h1, h2, cmp_core gE_lat ok h1 h3 fun k s μ1 F1 H1 x1 r1 h => fin_d r1 h (.bl k)⟩
theorem s_cmpT {op : CmpOp} {r : R2} {g : PyData → PyData → Option Bool} (ho : OpR X (compareOp op) r) (ok : CmpOk C r g) (ha : PE X a (tM C ma)) (hb : PE X b (tM C mb)) (hm : behindInMarks op b = false) : PT X (.Compare a [op] [b] pos) (tT C (mCmp g ma mb)) := by
  have h := pt_cmpR (pos := pos) ho (pv_frz ha) (pv_frz hb) hm
  refine ⟨fun pins s σ H Q I ⟨ρ, st, μ, F, h1, h2, h3⟩ => h.run pins s σ H Q I ⟨ρ, st, μ, F, h1, h2, ?_⟩⟩
  have h3' : PostB (C.at σ) Q μ F H ((mCmp g ma mb ρ st).bind fun k s => .ok k s) := by
    revert h3
    cases mCmp g ma mb ρ st <;> exact id
  exact cmp_core gB_lat ok h1 h3' fun k s μ1 F1 H1 x1 r1 h => ⟨k, rfl, h μ1 F1 H1 Ext.refl r1⟩
/-! ### their answers -/
mutual
theorem Dq.dp {K : Kw} {K' : PySem.W.Frag} {H : Hp} : ∀ {v : V} {d : PyData}, Dq K H v d → d.canLay0 = true → Dp K' H v d
  | _, _, .non, _ => .non
  | _, _, .bl b, _ => .bl b
  | _, _, .int i, _ => .int i
  | _, _, .str x, _ => .str x
  | _, _, .lst h r, c => .lst (SqL.of h) (DqAll.dp r c)
  | _, _, .tup h r, c => .tup (.inl h) (DqAll.dp r c)
  | _, _, .dic _ _, c => by simp [PyData.canLay0] at c
  | _, _, .dig _ _ _ _, c => by simp [PyData.canLay0] at c
  | _, _, .ins _ _ _, c => by simp [PyData.canLay0] at c
theorem DqAll.dp {K : Kw} {K' : PySem.W.Frag} {H : Hp} : ∀ {vs : List V} {ds : List PyData}, DqAll K H vs ds → PyData.canLayAll0 ds = true → DpAll K' H vs ds
  | _, _, .nil, _ => .nil
  | _, _, .cons h r, c => by
    rw [PyData.canLayAll0, Bool.and_eq_true] at c
    exact .cons (Dq.dp h c.1) (DqAll.dp r c.2)
end
def gEq (a b : PyData) : Option Bool := if SeqAt.shaped a && SeqAt.shaped b then some (PyData.eqv a b) else none
def gNe (a b : PyData) : Option Bool := if SeqAt.shaped a && SeqAt.shaped b then some (!PyData.eqv a b) else none
theorem gEq_ok {K : PySem.W.Frag} : CmpOk C (rEqD K) gEq := by
  intro a b k v u μ F H st Q s va vb e q
  unfold gEq at e
  split at e
  · rename_i hh
    rw [Bool.and_eq_true] at hh
    cases e
    exact ⟨a, b, (va.dq s.sub).dp (SeqAt.canLay_of_shaped hh.1), (vb.dq s.sub).dp (SeqAt.canLay_of_shaped hh.2), hh.1, hh.2, q⟩
  · cases e
theorem gNe_ok {K : PySem.W.Frag} : CmpOk C (rNeD K) gNe := by
  intro a b k v u μ F H st Q s va vb e q
  unfold gNe at e
  split at e
  · rename_i hh
    rw [Bool.and_eq_true] at hh
    cases e
    exact ⟨a, b, (va.dq s.sub).dp (SeqAt.canLay_of_shaped hh.1), (vb.dq s.sub).dp (SeqAt.canLay_of_shaped hh.2), hh.1, hh.2, q⟩
  · cases e
def gI (p : Int → Int → Bool) : PyData → PyData → Option Bool
  | .int i, .int j => some (p i j)
  | _, _ => none
theorem gI_ok {p : Int → Int → Bool} : CmpOk C (rI0 fun i j => .bl (p i j)) (gI p) := by
  intro a b k v u μ F H st Q s va vb e q
  unfold gI at e
  split at e
  · cases e; exact ⟨_, _, va.int, vb.int, q⟩
  · cases e
/-- is None; is True, is False -/
def gIsN : PyData → PyData → Option Bool
  | .none, .none => some true
  | _, .none => some false
  | _, _ => none
def gNotN (a b : PyData) : Option Bool := (gIsN a b).map (!·)
def isNone : PyData → Bool
  | .none => true
  | _ => false
theorem Vw.isN {K : Kw} {v : V} {d : PyData} (h : Vw K F H v d) : decide (v = .non) = isNone d := by
  cases d with
  | none => rw [h.non]; rfl
  | bool b => rw [h.bl]; rfl
  | int b => rw [h.int]; rfl
  | str b => rw [h.str]; rfl
  | tuple b => obtain ⟨p, xs, rfl, _⟩ := h.tup; rfl
  | list b => obtain ⟨p, xs, rfl, _⟩ := h; rfl
  | dict b =>
    rcases h with ⟨p, xs, rfl, _⟩ | ⟨x, r, rfl, h⟩
    · rfl
    · cases h <;> rfl
theorem gIsN_ok : CmpOk C (fun x y H Q => y = .non ∧ Q (.bl (decide (x = .non))) H) gIsN := by
  intro a b k v u μ F H st Q s va vb e q
  cases b with
  | none =>
    refine ⟨vb.non, ?_⟩
    rw [va.isN]
    cases a <;> (cases e; exact q)
  | _ => cases a <;> cases e
theorem gNotN_ok : CmpOk C (fun x y H Q => y = .non ∧ Q (.bl (!decide (x = .non))) H) gNotN := by
  intro a b k v u μ F H st Q s va vb e q
  cases b with
  | none =>
    refine ⟨vb.non, ?_⟩
    rw [va.isN]
    cases a <;> (cases e; exact q)
  | _ => cases a <;> cases e
/-- in a list or tuple of flat things -/
def flatD : PyData → Bool
  | .none => true
  | .bool _ => true
  | .int _ => true
  | .str _ => true
  | _ => false
def eqF : PyData → PyData → Bool
  | .none, .none => true
  | .bool a, .bool b => a == b
  | .bool a, .int b => (if a then 1 else 0) == b
  | .int a, .bool b => a == (if b then 1 else 0)
  | .int a, .int b => a == b
  | .str a, .str b => a == b
  | _, _ => false
def itemsD : PyData → Option (List PyData)
  | .list xs => some xs
  | .tuple xs => some xs
  | _ => none
def gIn (neg : Bool) (a b : PyData) : Option Bool := match itemsD b with
  | some xs => if flatD a && xs.all flatD then some (if neg then !xs.any (fun y => eqF y a) else xs.any (fun y => eqF y a)) else none
  | none => none
theorem flat_dq {K : Kw} {v : V} {d : PyData} (h : Dq K F v d) (f : flatD d = true) : flatV v = true ∧ ∀ {u : V} {e : PyData}, Dq K F u e → flatD e = true → eqV u v = eqF e d := by
  cases h with
  | non => exact ⟨rfl, fun {u e} g fe => by cases g <;> first | rfl | cases fe⟩
  | bl b => exact ⟨rfl, fun {u e} g fe => by cases g <;> first | rfl | cases fe⟩
  | int b => exact ⟨rfl, fun {u e} g fe => by cases g <;> first | rfl | cases fe⟩
  | str b => exact ⟨rfl, fun {u e} g fe => by cases g <;> first | rfl | cases fe⟩
  | lst _ _ => cases f
  | tup _ _ => cases f
  | dic _ _ => cases f
  | dig _ _ _ _ => cases f
  | ins _ _ _ => cases f
theorem flat_all {K : Kw} {v : V} {d : PyData} (h : Dq K F v d) (f : flatD d = true) : ∀ {vs : List V} {ds : List PyData}, DqAll K F vs ds → ds.all flatD = true → vs.all flatV = true ∧ inV v vs = ds.any (fun y => eqF y d)
  | _, _, .nil, _ => ⟨rfl, rfl⟩
  | _, _, .cons (v := u) (vs := us) (d := e) (ds := es) g r, c => by
    rw [List.all_cons, Bool.and_eq_true] at c
    obtain ⟨h1, h2⟩ := flat_all h f r c.2
    refine ⟨by rw [List.all_cons, (flat_dq g c.1).1, h1]; rfl, ?_⟩
    show ((u :: us).any fun y => eqV y v) = ((e :: es).any fun y => eqF y d)
    rw [List.any_cons, List.any_cons, (flat_dq h f).2 g c.1]
    exact congrArg _ h2
theorem Vw.flat {K : Kw} {v : V} {d : PyData} (h : Vw K F H v d) (f : flatD d = true) : Dq K F v d := by
  cases d with
  | list xs => cases f
  | dict xs => cases f
  | _ => exact h
theorem gIn_ok {K : PySem.W.Frag} {neg : Bool} : CmpOk C (rIn K neg) (gIn neg) := by
  intro a b k v u μ F H st Q s va vb e q
  unfold gIn at e
  cases b with
  | list ds =>
    simp only [itemsD] at e
    split at e
    · rename_i hh
      rw [Bool.and_eq_true] at hh
      cases e
      obtain ⟨p, xs, rfl, p1, p2⟩ := vb
      obtain ⟨h1, h2⟩ := flat_all (va.flat hh.1) hh.1 p2 hh.2
      exact ⟨p, xs, rfl, .inl (SqL.of p1), (flat_dq (va.flat hh.1) hh.1).1, h1, by rw [h2]; exact q⟩
    · cases e
  | tuple ds =>
    simp only [itemsD] at e
    split at e
    · rename_i hh
      rw [Bool.and_eq_true] at hh
      cases e
      obtain ⟨p, xs, rfl, p1, p2⟩ := vb.tup
      obtain ⟨h1, h2⟩ := flat_all (va.flat hh.1) hh.1 p2 hh.2
      exact ⟨p, xs, rfl, .inr (SqT.rd s.sub p1), (flat_dq (va.flat hh.1) hh.1).1, h1, by rw [h2]; exact q⟩
    · cases e
  | _ => cases e
/-! ### truth, and, or, not, if -/
def truD : PyData → Option Bool
  | .none => some false
  | .bool b => some b
  | .int i => some (i != 0)
  | .str y => if y.length ≤ sizeLine then some ((y.length : Int) != 0) else none
  | .list xs => some (!xs.isEmpty)
  | .tuple xs => some (!xs.isEmpty)
  | .dict xs => if flK xs then some (!xs.isEmpty) else none
theorem truD_ok {K : Kw} {K' : PySem.W.Frag} {v : V} {d : PyData} {k : Bool} (s : Same F H) (h : Vw K F H v d) (e : truD d = some k) : TruV K' v H k := by
  cases d with
  | none => cases e; rw [h.non]; exact rfl
  | bool b => cases e; rw [h.bl]; exact rfl
  | int b => cases e; rw [h.int]; exact rfl
  | str b =>
    rw [h.str]
    simp only [truD] at e
    by_cases hz : b.length ≤ sizeLine
    · rw [if_pos hz] at e; cases e; exact ⟨hz, rfl⟩
    · rw [if_neg hz] at e; cases e
  | list b => cases e; obtain ⟨p, xs, rfl, h1, h2⟩ := h; exact .inl ⟨xs, SqL.of h1, by cases h2 <;> rfl⟩
  | tuple b => cases e; obtain ⟨p, xs, rfl, h1, h2⟩ := h.tup; exact .inr (.inl ⟨xs, SqT.rd s h1, by cases h2 <;> rfl⟩)
  | dict b =>
    simp only [truD] at e
    by_cases hf : flK b = true
    · rw [if_pos hf] at e; cases e; obtain ⟨p, xs, rfl, h1, h2⟩ := h.flat_dict hf; exact .inr (.inr ⟨xs, h1, by cases h2 <;> rfl⟩)
    · rw [if_neg hf] at e; cases e
def mTru (m : Ev) : En → Sto → Res Bool := fun ρ st => (mV m ρ st).bind fun x s => okB ((view s x).bind truD) s
/-- an expression as a test -/
theorem s_test (h : PE X e (tM C m)) (he : ∀ whole, isTrue e X.env whole = (do let v ← whole; standAt e.pos; holding [v] (truthy v))) : PT X e (tT C (mTru m)) := by
  have h := pt_truth (pv_frz h) he
  refine ⟨fun pins s σ H Q I ⟨ρ, st, μ, F, h1, h2, h3⟩ => h.run pins s σ H Q I ⟨ρ, st, μ, F, h1, h2, ?_⟩⟩
  refine Post.bindV gB_lat h3 fun x s v μ1 F1 H1 x1 r1 k1 h4 => ?_
  cases q1 : view s x with
  | none => simp only [q1, Option.bind, okB] at h4; exact False.elim h4
  | some d =>
    cases q2 : truD d with
    | none => simp only [q1, q2, Option.bind, okB] at h4; exact False.elim h4
    | some k =>
      simp only [q1, q2, Option.bind, okB] at h4
      exact ⟨k, truD_ok r1.sub (view_ok r1 k1 q1) q2, h4 μ1 F1 H1 Ext.refl r1⟩
/-- a test as it is seen by one that wants the answer's continuation -/
theorem tT_bind {β : Type} {G : β → Sto → Mu → Hp → Hp → Prop} (gl : Lat G) {m : En → Sto → Res Bool} {kk : Bool → Sto → Res β} {σ : St} {ρ : En} {R : Bool → Hp → Prop} (h1 : Eok C.K F μ ρ σ) (h2 : SR C.K μ F H st)
    (h3 : Post (C.at σ) G μ F H ((m ρ st).bind kk)) (fin : ∀ k s μ1 F1 H1, Ext μ F H μ1 F1 H1 → SR C.K μ1 F1 H1 s → Eok C.K F1 μ1 ρ σ → Post (C.at σ) G μ1 F1 H1 (kk k s) → R k H1) : tT C m σ H R :=
  ⟨ρ, st, μ, F, h1, h2, Post.bindB gl h3 fun x s μ1 F1 H1 x1 r1 h4 => fin x s μ1 F1 H1 x1 r1 (h1.ext x1) h4⟩
def bAnd (ma mb : En → Sto → Res Bool) : En → Sto → Res Bool := fun ρ st => (ma ρ st).bind fun k s => if k = true then mb ρ s else .ok false s
def bOr (ma mb : En → Sto → Res Bool) : En → Sto → Res Bool := fun ρ st => (ma ρ st).bind fun k s => if k = true then .ok true s else mb ρ s
def bNot (ma : En → Sto → Res Bool) : En → Sto → Res Bool := fun ρ st => (ma ρ st).bind fun k s => .ok (!k) s
variable {ba bb bc : En → Sto → Res Bool} {rest : List Expr}
theorem w_and1 (ha : PT X a (tT C ba)) : PW X (.BoolOp .And [a] pos) (tT C ba) := pw_and1 ha
theorem w_or1 (ha : PT X a (tT C ba)) : PW X (.BoolOp .Or [a] pos) (tT C ba) := pw_or1 ha
theorem _root_.L2.PW.imp {t t' : TT} (h : PW X e t) (w : ∀ σ H Q, t' σ H Q → t σ H Q) : PW X e t' := ⟨fun wh pins s σ H Q I h' => h.run wh pins s σ H Q I (w σ H Q h')⟩
theorem _root_.L2.PT.imp {t t' : TT} (h : PT X e t) (w : ∀ σ H Q, t' σ H Q → t σ H Q) : PT X e t' := ⟨fun pins s σ H Q I h' => h.run pins s σ H Q I (w σ H Q h')⟩
theorem w_and (ha : PT X a (tT C ba)) (hb : PW X (.BoolOp .And (b :: rest) pos) (tT C bb)) : PW X (.BoolOp .And (a :: b :: rest) pos) (tT C (bAnd ba bb)) :=
  (pw_and ha hb).imp fun σ H Q ⟨ρ, st, μ, F, h1, h2, h3⟩ => tT_bind gB_lat h1 h2 h3 fun k s μ1 F1 H1 x1 r1 e1 h4 => by
    cases k with
    | true => simp only [if_true] at h4 ⊢; exact ⟨ρ, s, μ1, F1, e1, r1, h4⟩
    | false => simp only [Bool.false_eq_true, if_false] at h4 ⊢; exact h4 μ1 F1 H1 Ext.refl r1
theorem w_or (ha : PT X a (tT C ba)) (hb : PW X (.BoolOp .Or (b :: rest) pos) (tT C bb)) : PW X (.BoolOp .Or (a :: b :: rest) pos) (tT C (bOr ba bb)) :=
  (pw_or ha hb).imp fun σ H Q ⟨ρ, st, μ, F, h1, h2, h3⟩ => tT_bind gB_lat h1 h2 h3 fun k s μ1 F1 H1 x1 r1 e1 h4 => by
    cases k with
    | false => simp only [Bool.false_eq_true, if_false] at h4 ⊢; exact ⟨ρ, s, μ1, F1, e1, r1, h4⟩
    | true => simp only [if_true] at h4 ⊢; exact h4 μ1 F1 H1 Ext.refl r1
theorem s_notT (ha : PT X a (tT C ba)) : PT X (.UnaryOp .Not a pos) (tT C (bNot ba)) :=
  (pt_not ha).imp fun σ H Q ⟨ρ, st, μ, F, h1, h2, h3⟩ => tT_bind gB_lat h1 h2 h3 fun k s μ1 F1 H1 x1 r1 e1 h4 => h4 μ1 F1 H1 Ext.refl r1
def eIf (c : En → Sto → Res Bool) (ma mb : Ev) : Ev := fun ρ st => (c ρ st).bind fun k s => if k = true then ma ρ s else mb ρ s
theorem s_ifE {ce : Expr} (hc : PT X ce (tT C bc)) (ha : PE X a (tM C ma)) (hb : PE X b (tM C mb)) : PE X (.IfExp ce a b pos) (tM C (eIf bc ma mb)) :=
  (pe_ifExp hc ha hb).imp fun σ H Q ⟨ρ, st, μ, F, h1, h2, h3⟩ => tT_bind gE_lat h1 h2 h3 fun k s μ1 F1 H1 x1 r1 e1 h4 => by
    cases k with
    | true => simp only [if_true] at h4 ⊢; exact ⟨ρ, s, μ1, F1, e1, r1, h4⟩
    | false => simp only [Bool.false_eq_true, if_false] at h4 ⊢; exact ⟨ρ, s, μ1, F1, e1, r1, h4⟩
def eAnd (ma mb : Ev) : Ev := fun ρ st => (mV ma ρ st).bind fun x s => match x with
  | .d (.bool true) => mb ρ s
  | .d (.bool false) => .ok (.d (.bool false)) s
  | _ => .no
def eOr (ma mb : Ev) : Ev := fun ρ st => (mV ma ρ st).bind fun x s => match x with
  | .d (.bool true) => .ok (.d (.bool true)) s
  | .d (.bool false) => mb ρ s
  | _ => .no
def eNot (ma : Ev) : Ev := fun ρ st => (mV ma ρ st).bind fun x s => match x with
  | .d (.bool k) => .ok (.d (.bool (!k))) s
  | _ => .no
theorem s_one {op} (ha : PE X a (tM C ma)) : PE X (.BoolOp op [a] pos) (tM C ma) := pe_one ha
theorem s_and (ha : PE X a (tM C ma)) (hb : PE X (.BoolOp .And (b :: rest) pos) (tM C mb)) : PE X (.BoolOp .And (a :: b :: rest) pos) (tM C (eAnd ma mb)) :=
  (pe_and (pv_frz ha) hb).imp fun σ H Q ⟨ρ, st, μ, F, h1, h2, h3⟩ => ⟨ρ, st, μ, F, h1, h2, Post.bindV gE_lat h3 fun x s v μ1 F1 H1 x1 r1 k1 h4 => by
    cases x with
    | c i => exact False.elim h4
    | s i => exact False.elim h4
    | o i => exact False.elim h4
    | d x =>
      cases x with
      | bool k =>
        cases (show Dq C.K F1 v (.bool k) from k1)
        refine ⟨k, rfl, ?_⟩
        cases k with
        | true => simp only [if_true]; exact ⟨ρ, s, μ1, F1, h1.ext x1, r1, h4⟩
        | false => simp only [Bool.false_eq_true, if_false]; exact fin_d r1 h4 (.bl false)
      | _ => exact False.elim h4⟩
theorem s_or (ha : PE X a (tM C ma)) (hb : PE X (.BoolOp .Or (b :: rest) pos) (tM C mb)) : PE X (.BoolOp .Or (a :: b :: rest) pos) (tM C (eOr ma mb)) :=
  (pe_or (pv_frz ha) hb).imp fun σ H Q ⟨ρ, st, μ, F, h1, h2, h3⟩ => ⟨ρ, st, μ, F, h1, h2, Post.bindV gE_lat h3 fun x s v μ1 F1 H1 x1 r1 k1 h4 => by
    cases x with
    | c i => exact False.elim h4
    | s i => exact False.elim h4
    | o i => exact False.elim h4
    | d x =>
      cases x with
      | bool k =>
        cases (show Dq C.K F1 v (.bool k) from k1)
        refine ⟨k, rfl, ?_⟩
        cases k with
        | false => simp only [Bool.false_eq_true, if_false]; exact ⟨ρ, s, μ1, F1, h1.ext x1, r1, h4⟩
        | true => simp only [if_true]; exact fin_d r1 h4 (.bl true)
      | _ => exact False.elim h4⟩
theorem s_not (ha : PE X a (tM C ma)) : PE X (.UnaryOp .Not a pos) (tM C (eNot ma)) :=
  (pe_not (pv_frz ha)).imp fun σ H Q ⟨ρ, st, μ, F, h1, h2, h3⟩ => ⟨ρ, st, μ, F, h1, h2, Post.bindV gE_lat h3 fun x s v μ1 F1 H1 x1 r1 k1 h4 => by
    cases x with
    | c i => exact False.elim h4
    | s i => exact False.elim h4
    | o i => exact False.elim h4
    | d x =>
      cases x with
      | bool k =>
        cases (show Dq C.K F1 v (.bool k) from k1)
        exact ⟨k, rfl, fin_d r1 h4 (.bl _)⟩
      | _ => exact False.elim h4⟩
end
end Cp
/-! Cp3: places, slices, displays, calls of built-in functions and methods. -/
namespace Cp
open PySem L2
section
variable {X : Cx} {C : Cn} {Q : VK} {μ : Mu} {F H : Hp} {st : Sto} {e a b c : Expr} {m ma mb mc : Ev} {pos : Pos} {es : List Expr}
/-! ### places -/
theorem atI_dq {K : Kw} {xs : List V} {ds : List PyData} {i : Int} {d : PyData} (r : DqAll K F xs ds) (h : atI ds i = some d) : ∃ v, atI xs i = some v ∧ Dq K F v d := by
  unfold atI at h ⊢
  rw [r.length]
  cases q : ixN ds.length i with
  | none => rw [q] at h; cases h
  | some j =>
    rw [q] at h
    obtain ⟨v, h1, h2⟩ := r.get (show ds[j]? = some d from h)
    exact ⟨v, h1, h2⟩
theorem atI_ints {ns : List Int} {i k : Int} (h : atI ns i = some k) : atI (ns.map V.int) i = some (.int k) := by
  unfold atI at h ⊢
  rw [List.length_map]
  cases q : ixN ns.length i with
  | none => rw [q] at h; cases h
  | some j =>
    rw [q] at h
    have h : ns[j]? = some k := h
    show (ns.map V.int)[j]? = some (.int k)
    rw [List.getElem?_map, h]; rfl
def fIx : PyData → PyData → Option Rv
  | .list xs, .int i => (atI xs i).map .d
  | .tuple xs, .int i => (atI xs i).map .d
  | .str z, .int i => if z.length ≤ sizeLine then (atI z.cps.toList i).map fun c => .d (.str ⟨#[c]⟩) else none
  | _, _ => none
theorem fIx_ok {K : PySem.W.Frag} : BinOk C (rIx K) fIx := by
  intro a b res v u μ F H st Q s va vb e h
  unfold fIx at e
  split at e
  · obtain ⟨p, xs, rfl, p1, p2⟩ := va
    obtain ⟨d, hd, rfl⟩ := Option.map_eq_some_iff.mp e
    obtain ⟨w, h1, h2⟩ := atI_dq p2 hd
    exact .inl ⟨p, xs, _, w, rfl, vb.int, SqL.of p1, h1, fin_d s h h2⟩
  · obtain ⟨p, xs, rfl, p1, p2⟩ := va.tup
    obtain ⟨d, hd, rfl⟩ := Option.map_eq_some_iff.mp e
    obtain ⟨w, h1, h2⟩ := atI_dq p2 hd
    exact .inr (.inl ⟨p, xs, _, w, rfl, vb.int, SqT.rd s.sub p1, h1, fin_d s h h2⟩)
  · split at e
    · rename_i hz
      obtain ⟨d, hd, rfl⟩ := Option.map_eq_some_iff.mp e
      exact .inr (.inr ⟨_, _, d, va.str, vb.int, hz, hd, fin_d s h (.str _)⟩)
    · cases e
  · cases e
theorem s_ix (ha : PE X a (tM C ma)) (hb : PE X b (tM C mb)) (hs : PlainIx b) : PE X (.Subscript a b pos) (tM C (mBin fIx ma mb)) :=
  s_two (pe_ix ix_seq (pv_frz ha) (pv_frz hb) hs) fIx_ok
/-- script[i] -/
def mSix (ma mb : Ev) : Ev := fun ρ st => (mV ma ρ st).bind fun x s1 => (mV mb ρ s1).bind fun y s2 => match x, y with
  | .s ns, .d (.int i) => match atI ns i with
    | some k => .ok (.d (.int k)) s2
    | none => .no
  | _, _ => .no
theorem s_six (hK : C.K = X.K) (ha : PE X a (tM C ma)) (hb : PE X b (tM C mb)) (hs : PlainIx b) : PE X (.Subscript a b pos) (tM C (mSix ma mb)) :=
  (pe_ix ix_seq (pv_frz ha) (pv_frz hb) hs).imp fun σ H Q ⟨ρ, st, μ, F, h1, h2, h3⟩ => ⟨ρ, st, μ, F, h1, h2, Post.bindV gE_lat h3 fun x s v μ1 F1 H1 x1 r1 k1 h4 =>
    ⟨ρ, s, μ1, F1, h1.ext x1, r1, Post.bindV gE_lat h4 fun y s2 u μ2 F2 H2 x2 r2 k2 h5 => by
      cases x with
      | d _ => exact False.elim h5
      | c _ => exact False.elim h5
      | o _ => exact False.elim h5
      | s ns =>
        cases y with
        | s _ => exact False.elim h5
        | o _ => exact False.elim h5
        | c _ => exact False.elim h5
        | d y =>
          cases y with
          | int i =>
            cases q : atI ns i with
            | none => simp only [q] at h5; exact False.elim h5
            | some k =>
              simp only [q] at h5
              obtain ⟨p, rfl, hp⟩ := k1
              cases (show Dq C.K F2 u (.int i) from k2)
              exact .inl ⟨p, _, i, .int k, rfl, rfl, hK ▸ (r2.sub).seq (x2.same.seq hp), atI_ints q, fin_d r2 h5 (.int k)⟩
          | _ => exact False.elim h5⟩⟩
/-! ### argument lists, displays -/
def aNil : En → Sto → Res (List Vl) := fun _ st => .ok [] st
def aCons (mv : En → Sto → Res Vl) (mr : En → Sto → Res (List Vl)) : En → Sto → Res (List Vl) := fun ρ st => (mv ρ st).bind fun x s1 => (mr ρ s1).bind fun xs s2 => .ok (x :: xs) s2
theorem _root_.L2.PA.imp {t t' : TA} (h : PA X es t) (w : ∀ σ H Q, t' σ H Q → t σ H Q) : PA X es t' := ⟨fun pos pins s σ H Q I h' => h.run pos pins s σ H Q I (w σ H Q h')⟩
theorem a_nil : PA X [] (tAs C aNil) := pa_nil.imp fun σ H Q ⟨ρ, st, μ, F, h1, h2, h3⟩ => h3 [] μ F H Ext.refl h2 .nil
theorem a_consV {mv : En → Sto → Res Vl} {mr : En → Sto → Res (List Vl)} (ha : PE X e (tV C mv)) (hr : PA X es (tAs C mr)) (hs : starEach (e :: es) X.env = (false, eval e X.env) :: starEach es X.env := by rfl) : PA X (e :: es) (tAs C (aCons mv mr)) :=
  (pa_cons ha hr hs).imp fun σ H Q ⟨ρ, st, μ, F, h1, h2, h3⟩ => ⟨ρ, st, μ, F, h1, h2, Post.bindV gA_lat h3 fun x s v μ1 F1 H1 x1 r1 k1 h4 =>
    ⟨ρ, s, μ1, F1, h1.ext x1, r1, Post.bindA gA_lat h4 fun y s2 u μ2 F2 H2 x2 r2 k2 h5 => h5 (v :: u) μ2 F2 H2 Ext.refl r2 (.cons (k1.ext x2) k2)⟩⟩
theorem a_cons {mr : En → Sto → Res (List Vl)} (ha : PE X e (tM C m)) (hr : PA X es (tAs C mr)) (hs : starEach (e :: es) X.env = (false, eval e X.env) :: starEach es X.env := by rfl) : PA X (e :: es) (tAs C (aCons (mV m) mr)) := a_consV (pv_frz ha) hr hs
theorem a_consC {mr : En → Sto → Res (List Vl)} (ha : PE X e (tM C m)) (hr : PA X es (tAs C mr)) (hs : starEach (e :: es) X.env = (false, eval e X.env) :: starEach es X.env := by rfl) : PA X (e :: es) (tAs C (aCons (mVc m) mr)) := a_consV (pv_cell ha) hr hs
def allD : List Vl → Option (List PyData)
  | [] => some []
  | .d x :: r => match allD r with
    | some xs => some (x :: xs)
    | none => none
  | _ :: _ => none
theorem allD_ok {K : Kw} : ∀ {xs : List Vl} {vs : List V} {ds : List PyData}, VokAll K F μ xs vs → allD xs = some ds → DqAll K F vs ds
  | _, _, _, .nil, e => by cases e; exact .nil
  | x :: xs, _, _, .cons h r, e => by
    cases x with
    | c i => cases e
    | s i => cases e
    | o i => cases e
    | d x =>
      unfold allD at e
      cases q : allD xs with
      | none => simp only [q] at e; cases e
      | some ys => simp only [q] at e; cases e; exact .cons h (allD_ok r q)
def mTup (ma : En → Sto → Res (List Vl)) : Ev := fun ρ st => (ma ρ st).bind fun xs s => match allD xs with
  | some ds => if ds.length ≤ sizeLine then .ok (.d (.tuple ds)) s else .no
  | none => .no
def mLst (ma : En → Sto → Res (List Vl)) : Ev := fun ρ st => (ma ρ st).bind fun xs s => match allD xs with
  | some ds => if ds.length ≤ sizeLine then .ok (.n (.l ds)) s else .no
  | none => .no
variable {mas : En → Sto → Res (List Vl)}
theorem s_tup {k} (h : PA X es (tAs C mas)) : PE X (.Tuple es k pos) (tM C (mTup mas)) := (pe_tup h).imp fun σ H Q ⟨ρ, st, μ, F, h1, h2, h3⟩ => ⟨ρ, st, μ, F, h1, h2, Post.bindA gE_lat h3 fun x s v μ1 F1 H1 x1 r1 k1 h4 => by
  cases q : allD x with
  | none => simp only [q] at h4; exact False.elim h4
  | some ds =>
    simp only [q] at h4
    have r := allD_ok k1 q
    split at h4
    · exact ⟨by rw [r.length]; assumption, fun p hp => fin_t r1 h4 hp r⟩
    · exact False.elim h4⟩
theorem s_lst (h : PA X es (tAs C mas)) : PE X (.List es pos) (tM C (mLst mas)) := (pe_lst h).imp fun σ H Q ⟨ρ, st, μ, F, h1, h2, h3⟩ => ⟨ρ, st, μ, F, h1, h2, Post.bindA gE_lat h3 fun x s v μ1 F1 H1 x1 r1 k1 h4 => by
  cases q : allD x with
  | none => simp only [q] at h4; exact False.elim h4
  | some ds =>
    simp only [q] at h4
    have r := allD_ok k1 q
    split at h4
    · exact ⟨by rw [r.length]; assumption, fun p hp => fin_n r1 h4 hp ⟨_, rfl, r⟩⟩
    · exact False.elim h4⟩
/-! ### slices -/
abbrev gO (C : Cn) (Q : Option Int → Hp → Prop) : Option Int → Sto → Mu → Hp → Hp → Prop := fun o st μ F H => ∀ μ' F' H', Ext μ F H μ' F' H' → SR C.K μ' F' H' st → Q o H'
def tO (C : Cn) (m : En → Sto → Res (Option Int)) : TO := fun σ H Q => At C σ H fun ρ st μ F => Post (C.at σ) (gO C Q) μ F H (m ρ st)
def oNone : En → Sto → Res (Option Int) := fun _ st => .ok none st
def oSome (m : Ev) : En → Sto → Res (Option Int) := fun ρ st => (mV m ρ st).bind fun x s => match x with
  | .d (.int i) => .ok (some i) s
  | _ => .no
theorem _root_.L2.PO.imp {o : Option Expr} {t t' : TO} (h : PO X o t) (w : ∀ σ H Q, t' σ H Q → t σ H Q) : PO X o t' := ⟨fun pins s σ H Q I h' => h.run pins s σ H Q I (w σ H Q h')⟩
theorem o_none : PO X none (tO C oNone) := po_none.imp fun σ H Q ⟨ρ, st, μ, F, h1, h2, h3⟩ => h3 μ F H Ext.refl h2
theorem gO_lat {Q : Option Int → Hp → Prop} : Lat (gO C Q) := ⟨fun x h μ' F' H' y s => h μ' F' H' (x.trans y) s⟩
theorem o_some (h : PE X e (tM C m)) : PO X (some e) (tO C (oSome m)) := (po_some (pv_frz h)).imp fun σ H Q ⟨ρ, st, μ, F, h1, h2, h3⟩ => ⟨ρ, st, μ, F, h1, h2, Post.bindV gO_lat h3 fun x s v μ1 F1 H1 x1 r1 k1 h4 => by
  cases x with
  | c i => exact False.elim h4
  | s i => exact False.elim h4
  | o i => exact False.elim h4
  | d x =>
    cases x with
    | int i => cases (show Dq C.K F1 v (.int i) from k1); exact ⟨i, rfl, h4 μ1 F1 H1 Ext.refl r1⟩
    | _ => exact False.elim h4⟩
def cutD (xs : List PyData) (lo hi : Option Int) : List PyData := (xs.drop (HT.sIx xs.length 0 lo)).take (HT.sIx xs.length xs.length hi - HT.sIx xs.length 0 lo)
def fSl (a : PyData) (lo hi : Option Int) : Option Rv := match a with
  | .list xs => some (.n (.l (cutD xs lo hi)))
  | .tuple xs => some (.d (.tuple (cutD xs lo hi)))
  | .str z => if z.length ≤ sizeLine then some (.d (.str (cutS z lo hi))) else none
  | _ => none
theorem cut_dq {K : Kw} {xs : List V} {ds : List PyData} (r : DqAll K F xs ds) (lo hi : Option Int) : DqAll K F (cutV xs lo hi) (cutD ds lo hi) := by
  unfold cutV cutD
  rw [r.length]
  exact (r.drop _).take _
def mSl (ma : Ev) (ml mh : En → Sto → Res (Option Int)) : Ev := fun ρ st => (mV ma ρ st).bind fun x s1 => (ml ρ s1).bind fun l s2 => (mh ρ s2).bind fun h s3 => match view s3 x with
  | some d => match fSl d l h with
    | some r => .ok r s3
    | none => .no
  | none => .no
theorem s_sl {lo hi : Option Expr} {p2 : Pos} {ml mh : En → Sto → Res (Option Int)} (ha : PE X a (tM C ma)) (hl : PO X lo (tO C ml)) (hh : PO X hi (tO C mh)) : PE X (.Subscript a (.Slice lo hi none p2) pos) (tM C (mSl ma ml mh)) := by
  have h := pe_slice (pos := pos) (p2 := p2) (SlR.or (sl_list (X := X)) (SlR.or sl_tupA sl_str)) (pv_frz ha) hl hh
  refine h.imp fun σ H Q ⟨ρ, st, μ, F, h1, h2, h3⟩ => ⟨ρ, st, μ, F, h1, h2, Post.bindV gE_lat h3 fun x s v μ1 F1 H1 x1 r1 k1 h4 => ⟨ρ, s, μ1, F1, h1.ext x1, r1, ?_⟩⟩
  have bindO : ∀ {β : Type} {G : β → Sto → Mu → Hp → Hp → Prop} (g : Lat G) {mm : Res (Option Int)} {k : Option Int → Sto → Res β} {R : Option Int → Hp → Prop} {μ : Mu} {F H : Hp}, Post (C.at σ) G μ F H (mm.bind k) →
      (∀ x s μ1 F1 H1, Ext μ F H μ1 F1 H1 → SR C.K μ1 F1 H1 s → Post (C.at σ) G μ1 F1 H1 (k x s) → R x H1) → Post (C.at σ) (gO C R) μ F H mm := by
    intro β G g mm k R μ F H h hk
    cases mm with
    | ok x s => exact fun μ1 F1 H1 e s1 => hk x s μ1 F1 H1 e s1 (Post.later g e h)
    | er e s => exact h
    | no => exact h
  refine bindO gE_lat h4 fun l s2 μ2 F2 H2 x2 r2 h5 => ⟨ρ, s2, μ2, F2, (h1.ext x1).ext x2, r2, bindO gE_lat h5 fun hh s3 μ3 F3 H3 x3 r3 h6 => ?_⟩
  have k3 := (k1.ext x2).ext x3
  cases q : view s3 x with
  | none => simp only [q] at h6; exact False.elim h6
  | some d =>
    simp only [q] at h6
    have w := view_ok r3 k3 q
    cases d with
    | list ds =>
      simp only [fSl] at h6
      obtain ⟨p, xs, rfl, p1, p2⟩ := w
      exact .inl ⟨p, xs, rfl, SqL.of p1, fun r hr => fin_n r3 h6 hr ⟨_, rfl, cut_dq p2 _ _⟩⟩
    | tuple ds =>
      simp only [fSl] at h6
      obtain ⟨p, xs, rfl, p1, p2⟩ := w.tup
      refine .inr (.inl ⟨p, xs, rfl, SqT.rd r3.sub p1, fun hw => ?_, fun _ r hr => fin_t r3 h6 hr (cut_dq p2 _ _)⟩)
      have e : cutD ds l hh = ds := by
        rw [p2.length] at hw
        unfold cutD
        rw [hw.1, hw.2]; simp
      rw [e] at h6
      exact fin_d r3 h6 (.tup p1 p2)
    | str z =>
      simp only [fSl] at h6
      by_cases hz : z.length ≤ sizeLine
      · rw [if_pos hz] at h6
        exact .inr (.inr ⟨z, w.str, hz, fin_d r3 h6 (.str _)⟩)
      · rw [if_neg hz] at h6; exact False.elim h6
    | _ => exact False.elim h6
end
end Cp
/-! Cs: data read off the heap, sorted, shown. -/
namespace Cp
open PySem L2
section
variable {X : Cx} {pins : List (Addr × Obj)} {σ : St} {H F : Hp} {s : Shared} {K : Kw}
theorem key_reads {P : Program} {w : World} {h : Heap} (k : Key) (v : Value) (e : (mixKind P w).is k v = true) : Reads h v (kD k) [] := by
  rcases keyIs_shape (k := k) (v := v) e with ⟨i, t, rfl, rfl⟩ | ⟨x, t, rfl, rfl⟩
  · exact .int i t
  · exact .str x t
mutual
theorem Dq.reads (I : Inv X pins σ H s) : ∀ {v : V} {d : PyData} {u : Value}, Dq K H v d → RelV v u → d.hasDict = false → ∃ as, Reads s.heap u d as
  | _, _, _, .non, r, _ => by cases r; exact ⟨_, .none⟩
  | _, _, _, .bl b, r, _ => by cases r; exact ⟨_, .bool b⟩
  | _, _, _, .int i, r, _ => by obtain ⟨t, rfl⟩ := r; exact ⟨_, .int i t⟩
  | _, _, _, .str x, r, _ => by obtain ⟨t, rfl⟩ := r; exact ⟨_, .str x t⟩
  | _, _, _, .lst h q, r, n => by
    cases r
    obtain ⟨its, rv, ⟨o, k, ho, hc, _, hd⟩, _⟩ := I.list (SqL.of h)
    obtain ⟨as, hr⟩ := DqAll.reads I q rv n
    exact ⟨_, .list ho hc hd hr⟩
  | _, _, _, .tup h q, r, n => by
    cases r
    obtain ⟨its, rv, ⟨o, ho, hc, k, hd⟩, _⟩ := I.tuple (.inl h)
    obtain ⟨as, hr⟩ := DqAll.reads I q rv n
    exact ⟨_, .tuple ho hc hd hr⟩
  | _, _, _, .dic _ _, _, n => by cases n
  | _, _, _, .dig _ _ _ _, _, n => by cases n
  | _, _, _, .ins _ _ _, _, n => by cases n
theorem DqAll.reads (I : Inv X pins σ H s) : ∀ {vs : List V} {ds : List PyData} {us : List Value}, DqAll K H vs ds → Vals vs us → PyData.hasDictAll ds = false → ∃ as, ReadsAll s.heap us ds as
  | _, _, _, .nil, r, _ => by cases r; exact ⟨_, .nil⟩
  | _, _, _, .cons h q, r, n => by
    have n' : (PyData.hasDict _ || PyData.hasDictAll _) = false := n
    rw [Bool.or_eq_false_iff] at n'
    cases r with
    | cons r1 r2 =>
      obtain ⟨as, q1⟩ := Dq.reads I h r1 n'.1
      obtain ⟨bs, q2⟩ := DqAll.reads I q r2 n'.2
      exact ⟨_, .cons q1 q2⟩
end
end
/-! ### sorted of a list or a tuple -/
end Cp
/-! Cp4: calls of built-in functions. -/
namespace Cp
open PySem L2
section
variable {X : Cx} {C : Cn} {Q : VK} {μ : Mu} {F H : Hp} {st : Sto} {e a b c : Expr} {m ma mb mc : Ev} {pos p : Pos} {es : List Expr} {mas : En → Sto → Res (List Vl)} {x : Str} {id T : String}
def CallOk (C : Cn) (r : List V → Hp → VK → Prop) (g : Sto → List Vl → Option Rv) : Prop :=
  ∀ (xs : List Vl) (res : Rv) (vs : List V) (μ : Mu) (F H : Hp) (st : Sto) (Q : VK), SR C.K μ F H st → VokAll C.K F μ xs vs → g st xs = some res → PostE C Q μ F H (.ok res st) → r vs H Q
def mCal (g : Sto → List Vl → Option Rv) (ma : En → Sto → Res (List Vl)) : Ev := fun ρ st => (ma ρ st).bind fun xs s => match g s xs with
  | some r => .ok r s
  | none => .no
theorem s_args {r : List V → Hp → VK → Prop} {g : Sto → List Vl → Option Rv} (h : PE X e (tCB r (tAs C mas))) (ok : CallOk C r g) : PE X e (tM C (mCal g mas)) :=
  h.imp fun σ H Q ⟨ρ, st, μ, F, h1, h2, h3⟩ => ⟨ρ, st, μ, F, h1, h2, Post.bindA gE_lat h3 fun x s v μ1 F1 H1 x1 r1 k1 h4 => by
    cases q : g s x with
    | none => simp only [q] at h4; exact False.elim h4
    | some res => simp only [q] at h4; exact ok x res v μ1 F1 H1 s _ r1 k1 q h4⟩
theorem s_callB {r : List V → Hp → VK → Prop} {g : Sto → List Vl → Option Rv} (hc : CallR X (.builtin id) r) (ok : CallOk C r g) (hg : Gl X x) (hm : X.mg x = none) (hv : bootBuiltins x = some (.builtin id)) (ha : PA X (e :: es) (tAs C mas)) (hn : x ≠ "__name__" := by decide) (hdb : (x == ("__debug__" : Str)) = false := by decide)
    (he : starEach (e :: es) X.env = (false, eval e X.env) :: starEach es X.env := by rfl) (hpl : (backTo pos (starEach es X.env)).any (·.1) = false := by rfl) : PE X (.Call (.Name x p) (e :: es) [] pos) (tM C (mCal g mas)) := s_args (pe_callB hc hg hm hv ha hn hdb he hpl) ok
theorem s_callTy {r : List V → Hp → VK → Prop} {g : Sto → List Vl → Option Rv} (hc : CallR X (.type T) r) (ok : CallOk C r g) (hg : Gl X x) (hm : X.mg x = none) (hv : bootBuiltins x = some (.type T)) (ha : PA X (e :: es) (tAs C mas)) (hn : x ≠ "__name__" := by decide) (hdb : (x == ("__debug__" : Str)) = false := by decide)
    (he : starEach (e :: es) X.env = (false, eval e X.env) :: starEach es X.env := by rfl) (hpl : (backTo pos (starEach es X.env)).any (·.1) = false := by rfl) : PE X (.Call (.Name x p) (e :: es) [] pos) (tM C (mCal g mas)) := s_args (pe_callTy hc hg hm hv ha hn hdb he hpl) ok
theorem VokAll.one {K : Kw} {y : Vl} {vs : List V} (h : VokAll K F μ [y] vs) : ∃ v, vs = [v] ∧ Vok K F μ y v := by cases h with | cons h r => cases r; exact ⟨_, rfl, h⟩
theorem VokAll.two {K : Kw} {y z : Vl} {vs : List V} (h : VokAll K F μ [y, z] vs) : ∃ v u, vs = [v, u] ∧ Vok K F μ y v ∧ Vok K F μ z u := by
  cases h with
  | cons h r =>
    cases r with
    | cons h2 r => cases r; exact ⟨_, _, rfl, h, h2⟩
/-- a function of one value's content -/
def g1 (f : PyData → Option Rv) : Sto → List Vl → Option Rv
  | s, [y] => match view s y with
    | some d => f d
    | none => none
  | _, _ => none
theorem g1_ok {r : List V → Hp → VK → Prop} {f : PyData → Option Rv}
    (h : ∀ (d : PyData) (res : Rv) (v : V) (μ : Mu) (F H : Hp) (st : Sto) (Q : VK), SR C.K μ F H st → Vw C.K F H v d → f d = some res → PostE C Q μ F H (.ok res st) → r [v] H Q) : CallOk C r (g1 f) := by
  intro xs res vs μ F H st Q s k e p
  unfold g1 at e
  split at e
  · obtain ⟨v, rfl, hv⟩ := k.one
    split at e
    · rename_i hq
      exact h _ res v μ F H _ Q s (view_ok s hv hq) e p
    · cases e
  · cases e
/-- .. of two ints -/
def gII (f : Int → Int → Int) : Sto → List Vl → Option Rv
  | _, [.d (.int i), .d (.int j)] => some (.d (.int (f i j)))
  | _, _ => none
theorem gII_ok {r : List V → Hp → VK → Prop} {f : Int → Int → Int} (h : ∀ (i j : Int) (H : Hp) (Q : VK), Q (.int (f i j)) H → r [.int i, .int j] H Q) : CallOk C r (gII f) := by
  intro xs res vs μ F H st Q s k e p
  unfold gII at e
  split at e
  · obtain ⟨v, u, rfl, hv, hu⟩ := k.two
    cases e
    cases (show Dq C.K F v (.int _) from hv)
    cases (show Dq C.K F u (.int _) from hu)
    exact h _ _ H Q (fin_d s p (.int _))
  · cases e
def fAbs : PyData → Option Rv
  | .int i => some (.d (.int (if i < 0 then -i else i)))
  | _ => none
theorem c_abs : CallR X (.builtin "abs") (fun xs H Q => ∃ i, xs = [.int i] ∧ Q (.int (if i < 0 then -i else i)) H) ∧ CallOk C (fun xs H Q => ∃ i, xs = [.int i] ∧ Q (.int (if i < 0 then -i else i)) H) (g1 fAbs) :=
  ⟨call_abs, g1_ok fun d res v μ F H st Q s w e p => by
    cases d with
    | int i => cases e; exact ⟨i, by rw [w.int], fin_d s p (.int _)⟩
    | _ => cases e⟩
/-- len -/
def fLen : PyData → Option Rv
  | .str y => if y.length ≤ sizeLine then some (.d (.int y.length)) else none
  | .list xs => some (.d (.int xs.length))
  | .tuple xs => some (.d (.int xs.length))
  | _ => none
def gLen : Sto → List Vl → Option Rv
  | _, [.s ns] => some (.d (.int ns.length))
  | s, xs => g1 fLen s xs
theorem gLen_ok (hK : C.K = X.K) : CallOk C (fun xs H Q => ∃ x n, xs = [x] ∧ LenV X.K x H n ∧ Q (.int n) H) gLen := by
  intro xs res vs μ F H st Q s k e p
  unfold gLen at e
  split at e
  · obtain ⟨v, rfl, q, rfl, hq⟩ := k.one
    cases e
    exact ⟨_, _, rfl, .inl ⟨_, hK ▸ s.sub.seq hq, by rw [List.length_map]⟩, fin_d s p (.int _)⟩
  · refine g1_ok (C := C) (r := fun xs H Q => ∃ x n, xs = [x] ∧ LenV X.K x H n ∧ Q (.int n) H) (fun d res v μ F H st Q s w e p => ?_) xs res vs μ F H _ Q s k e p
    cases d with
    | str y =>
      simp only [fLen] at e
      split at e
      · cases e; exact ⟨_, _, rfl, by rw [w.str]; exact ⟨by assumption, rfl⟩, fin_d s p (.int _)⟩
      · cases e
    | list ys =>
      cases e
      obtain ⟨q, zs, rfl, q1, q2⟩ := w
      exact ⟨_, _, rfl, .inl ⟨zs, SqL.of q1, q2.length.symm⟩, fin_d s p (.int _)⟩
    | tuple ys =>
      cases e
      obtain ⟨q, zs, rfl, q1, q2⟩ := w.tup
      exact ⟨_, _, rfl, .inr ⟨zs, SqT.rd s.sub q1, q2.length.symm⟩, fin_d s p (.int _)⟩
    | _ => cases e
/-- int of an int, a bool -/
def fInt : PyData → Option Rv
  | .int i => some (.d (.int i))
  | .bool k => some (.d (.int (if k then 1 else 0)))
  | _ => none
theorem fInt_ok : CallOk C (fun xs H Q => (∃ i, xs = [.int i] ∧ Q (.int i) H) ∨ ∃ k, xs = [.bl k] ∧ Q (.int (if k then 1 else 0)) H) (g1 fInt) := g1_ok fun d res v μ F H st Q s w e p => by
  cases d with
  | int i => cases e; exact .inl ⟨i, by rw [w.int], fin_d s p (.int _)⟩
  | bool i => cases e; exact .inr ⟨i, by rw [w.bl], fin_d s p (.int _)⟩
  | _ => cases e
/-- str of an int -/
def fStr : PyData → Option Rv
  | .int i => if i.natAbs.log2 < 1920 then some (.d (.str (toString i))) else none
  | _ => none
theorem fStr_ok : CallOk C (fun xs H Q => ∃ i, xs = [.int i] ∧ i.natAbs.log2 < 1920 ∧ Q (.str (toString i)) H) (g1 fStr) := g1_ok fun d res v μ F H st Q s w e p => by
  cases d with
  | int i =>
    simp only [fStr] at e
    split at e
    · cases e; exact ⟨i, by rw [w.int], by assumption, fin_d s p (.str _)⟩
    · cases e
  | _ => cases e
def boolsD : List PyData → Option (List Bool)
  | [] => some []
  | .bool i :: r => (boolsD r).map (i :: ·)
  | _ :: _ => none
theorem boolsD_ok {K : Kw} : ∀ {vs : List V} {ds : List PyData} {ns : List Bool}, DqAll K F vs ds → boolsD ds = some ns → vs = ns.map V.bl
  | _, _, _, .nil, e => by cases e; rfl
  | _, d :: ds, _, .cons h r, e => by
    cases d with
    | bool i =>
      obtain ⟨ms, hm, rfl⟩ := Option.map_eq_some_iff.mp (show (boolsD ds).map (i :: ·) = _ from e)
      cases h
      rw [boolsD_ok r hm]; rfl
    | _ => cases e
def fAll : PyData → Option Rv
  | .list xs => (boolsD xs).map fun ns => .d (.bool (ns.all fun b => b))
  | _ => none
theorem fAll_ok {K : PySem.W.Frag} : CallOk C (rAll K) (g1 fAll) := g1_ok fun d res v μ F H st Q s w e p => by
  cases d with
  | list ys =>
    obtain ⟨ns, hn, rfl⟩ := Option.map_eq_some_iff.mp (show (boolsD ys).map _ = _ from e)
    obtain ⟨q, zs, rfl, q1, q2⟩ := w
    exact ⟨q, ns, rfl, SqL.of (by rw [← boolsD_ok q2 hn]; exact q1), fin_d s p (.bl _)⟩
  | _ => cases e
/-- list, tuple of a list or a tuple -/
def fList : PyData → Option Rv
  | .list xs => some (.n (.l xs))
  | .tuple xs => some (.n (.l xs))
  | _ => none
def fTuple : PyData → Option Rv
  | .list xs => some (.d (.tuple xs))
  | .tuple xs => some (.d (.tuple xs))
  | _ => none
theorem fList_ok {K : PySem.W.Frag} : CallOk C (fun xs H Q => ∃ p ys, xs = [.ref p] ∧ (SqL K H p ys ∨ SqT K H p ys) ∧ ∀ l, H l = none → Q (.ref l) (upd H l (.lst ys))) (g1 fList) := g1_ok fun d res v μ F H st Q s w e p => by
  cases d with
  | list ys => cases e; obtain ⟨q, zs, rfl, q1, q2⟩ := w; exact ⟨q, zs, rfl, .inl (SqL.of q1), fun l hl => fin_n s p hl ⟨_, rfl, q2⟩⟩
  | tuple ys => cases e; obtain ⟨q, zs, rfl, q1, q2⟩ := w.tup; exact ⟨q, zs, rfl, .inr (SqT.rd s.sub q1), fun l hl => fin_n s p hl ⟨_, rfl, q2⟩⟩
  | _ => cases e
theorem fTuple_ok {K : PySem.W.Frag} : CallOk C (fun xs H Q => ∃ p ys, xs = [.ref p] ∧ ((SqL K H p ys ∧ ∀ l, H l = none → Q (.ref l) (upd H l (.tup ys))) ∨ (SqT K H p ys ∧ Q (.ref p) H))) (g1 fTuple) := g1_ok fun d res v μ F H st Q s w e p => by
  cases d with
  | list ys => cases e; obtain ⟨q, zs, rfl, q1, q2⟩ := w; exact ⟨q, zs, rfl, .inl ⟨SqL.of q1, fun l hl => fin_t s p hl q2⟩⟩
  | tuple ys => cases e; obtain ⟨q, zs, rfl, q1, q2⟩ := w.tup; exact ⟨q, zs, rfl, .inr ⟨SqT.rd s.sub q1, fin_d s p (.tup q1 q2)⟩⟩
  | _ => cases e
end
/-! ### sorted -/
/-! ### repr -/
section
mutual
def noLst : PyData → Bool
  | .list xs => noLstA xs
  | .tuple xs => noLstA xs
  | .dict kvs => flK kvs && noLstK kvs
  | _ => true
def noLstA : List PyData → Bool
  | [] => true
  | x :: xs => noLst x && noLstA xs
def noLstK : List (PyData × PyData) → Bool
  | [] => true
  | (_, x) :: xs => noLst x && noLstK xs
end
variable {X : Cx} {C : Cn} {pins : List (Addr × Obj)} {σ : St} {H F : Hp} {s : Shared} {K : Kw}
/-- the table of modules is a dict -/
def SysK (K : PySem.W.Frag) : Prop := ∃ o es n, K.lookup sysModules = some o ∧ o.data = .dict es n
mutual
theorem Dq.sys (hS : SysK X.K) (I : Inv X pins σ H s) : ∀ {v : V} {d : PyData} {u : Value}, Dq K H v d → RelV v u → noLst d = true → ∃ as, Reads s.heap u d as ∧ sysModules ∉ as
  | _, _, _, .non, r, _ => by cases r; exact ⟨_, .none, by simp⟩
  | _, _, _, .bl b, r, _ => by cases r; exact ⟨_, .bool b, by simp⟩
  | _, _, _, .int i, r, _ => by obtain ⟨t, rfl⟩ := r; exact ⟨_, .int i t, by simp⟩
  | _, _, _, .str x, r, _ => by obtain ⟨t, rfl⟩ := r; exact ⟨_, .str x t, by simp⟩
  | _, _, _, .lst (a := a) h q, r, n => by
    cases r
    obtain ⟨its, rv, ⟨o, k, ho, hc, _, hd⟩, _⟩ := I.list (SqL.of h)
    obtain ⟨as, hr, hs⟩ := DqAll.sys hS I q rv (by simpa [noLst] using n)
    refine ⟨_, .list ho hc hd hr, ?_⟩
    rw [List.mem_cons, not_or]
    refine ⟨fun e => ?_, hs⟩
    subst e
    obtain ⟨o', es, m, g1, g2⟩ := hS
    rw [I.kIn _ _ g1] at ho
    cases ho
    rw [g2] at hd; cases hd
  | _, _, _, .tup h q, r, n => by
    cases r
    obtain ⟨its, rv, ⟨o, ho, hc, n', hd⟩, _⟩ := I.tuple (.inl h)
    obtain ⟨as, hr, hs⟩ := DqAll.sys hS I q rv (by simpa [noLst] using n)
    exact ⟨_, .tuple ho hc hd hr, hs⟩
  | _, _, _, .dic h q, r, n => by
    cases r
    obtain ⟨_, na, vs, kv, hd⟩ := I.hok _ _ h
    have n' : (flK _ && noLstK _) = true := n
    rw [Bool.and_eq_true] at n'
    obtain ⟨bs, p, hs⟩ := DqKv.sys hS I q kv n'.2
    refine ⟨_, PyProof.V.reads_dictOf (fun k v e => key_reads k v e) hd p, ?_⟩
    rw [List.mem_cons, not_or]
    exact ⟨fun e => by rw [← e] at na; simp at na, hs⟩
  | _, _, _, .dig h q _ z, r, n => by
    have n' : (flK _ && noLstK _) = true := n
    rw [Bool.and_eq_true] at n'
    cases q with
    | nil => exact absurd rfl z
    | cons g _ _ _ _ =>
      have f := n'.1
      unfold flK at f
      rw [List.all_cons, Bool.and_eq_true] at f
      cases g <;> exact absurd f.1 Bool.false_ne_true
  | _, _, _, .ins _ _ _, _, n => by cases n
theorem DqAll.sys (hS : SysK X.K) (I : Inv X pins σ H s) : ∀ {vs : List V} {ds : List PyData} {us : List Value}, DqAll K H vs ds → Vals vs us → noLstA ds = true → ∃ as, ReadsAll s.heap us ds as ∧ sysModules ∉ as
  | _, _, _, .nil, r, _ => by cases r; exact ⟨_, .nil, by simp⟩
  | _, _, _, .cons h q, r, n => by
    rw [noLstA, Bool.and_eq_true] at n
    cases r with
    | cons r1 r2 =>
      obtain ⟨as, q1, s1⟩ := Dq.sys hS I h r1 n.1
      obtain ⟨bs, q2, s2⟩ := DqAll.sys hS I q r2 n.2
      exact ⟨_, .cons q1 q2, by rw [List.mem_append, not_or]; exact ⟨s1, s2⟩⟩
theorem DqKv.sys (hS : SysK X.K) (I : Inv X pins σ H s) : ∀ {ws : List (Key × V)} {kvs : List (PyData × PyData)} {us : List (Key × Value)}, DqKv K H ws kvs → KV ws us → noLstK kvs = true → ∃ bs, PyProof.V.PairsRead s.heap kD us kvs bs ∧ sysModules ∉ bs
  | _, _, _, .nil, r, _ => by cases r; exact ⟨_, .nil, by simp⟩
  | _, _, _, .cons h q, r, n => by
    rw [noLstK, Bool.and_eq_true] at n
    cases r with
    | cons r1 r2 =>
      obtain ⟨k', v'⟩ := ‹Key × Value›
      obtain ⟨e, r1⟩ := r1
      cases e
      obtain ⟨as, q1, s1⟩ := Dq.sys hS I h r1 n.1
      obtain ⟨bs, q2, s2⟩ := DqKv.sys hS I q r2 n.2
      exact ⟨_, .cons q1 q2, by rw [List.mem_append, not_or]; exact ⟨s1, s2⟩⟩
end
/-- what can be shown -/
def shw (d : PyData) : Bool := d.showable && (!d.hasDict || noLst d) && decide (d.shown.length ≤ sizeLine) && decide (d.depth ≤ 60)
def fRepr (d : PyData) : Option Rv := if shw d then some (.d (.str d.shown)) else none
def rRepr : List V → Hp → VK → Prop := fun vs H Q => ∃ (K : Kw) (v : V) (d : PyData), vs = [v] ∧ Dq K H v d ∧ shw d = true ∧ Q (.str d.shown) H
theorem cr_repr (hS : SysK X.K) (hu : X.A.units + 64 < cLine) (hg : X.A.guards = some []) : CallR X (.builtin "repr") rRepr := by
  intro pins s σ H vs us Q I r h
  obtain ⟨K, v, d, rfl, hd, hs, q⟩ := h
  obtain ⟨u, rfl, ru⟩ := vals1 r
  unfold shw at hs
  simp only [Bool.and_eq_true, Bool.or_eq_true, decide_eq_true_eq, Bool.not_eq_true'] at hs
  obtain ⟨⟨⟨h1, h2⟩, h3⟩, h4⟩ := hs
  obtain ⟨as, hr, hm⟩ : ∃ as, Reads s.heap u d as ∧ (d.hasDict = true → sysModules ∉ as) := by
    rcases h2 with h2 | h2
    · obtain ⟨as, hr⟩ := hd.reads I ru h2
      exact ⟨as, hr, fun z => by rw [h2] at z; cases z⟩
    · obtain ⟨as, hr, hz⟩ := hd.sys hS I ru h2
      exact ⟨as, hr, fun _ => hz⟩
  have go : ∀ a, u = Value.ref a → wpAny (model X.prog X.w) X.A (call (.builtin "repr") [u]) (EP X pins σ Q) X.xe s := fun a e => by
    subst e
    exact PySem.repr_of_reads' hr h1 hm hg (by omega) (fun _ _ e => e) (fun h' t tk hk => ⟨.str d.shown, H, I.kept hk, ⟨t, rfl⟩, q⟩) h3
  cases hd with
  | non => cases ru; exact PySem.P.repr_of_none ⟨.str "None", H, I.tok _, ⟨_, rfl⟩, by simpa [PyData.shown] using q⟩
  | bl b => cases ru; exact PySem.P.repr_of_bool ⟨.str (if b then "True" else "False"), H, I.tok _, ⟨_, rfl⟩, by simpa [PyData.shown] using q⟩
  | int i =>
    obtain ⟨t, rfl⟩ := ru
    exact PySem.P.repr_of_int (by simpa [PyData.showable] using h1) ⟨.str (toString i), H, I.tok _, ⟨_, rfl⟩, by simpa [PyData.shown] using q⟩
  | str x =>
    obtain ⟨t, rfl⟩ := ru
    exact PySem.P.repr_of_str ⟨.str (reprText x), H, I.tok _, ⟨_, rfl⟩, by simpa [PyData.shown] using q⟩ (by simpa [PyData.shown] using h3)
  | lst _ _ => exact go _ ru
  | tup _ _ => exact go _ ru
  | dic _ _ => exact go _ ru
  | dig _ _ _ _ => exact go _ ru
  | ins _ _ _ => exact go _ ru
theorem fRepr_ok : CallOk C rRepr (g1 fRepr) := g1_ok fun d res v μ F H st Q s w e p => by
  unfold fRepr at e
  split at e
  · cases e; exact ⟨C.K, v, d, rfl, w.dq s.sub, by assumption, fin_d s p (.str _)⟩
  · cases e
end
end Cp
/-! Cp5: statements. -/
namespace Cp
open PySem L2
/-- how a statement ends -/
inductive RS where
  | nx (ρ : En) (s : Sto)
  | bk (ρ : En) (s : Sto)
  | ct (ρ : En) (s : Sto)
  | rt (r : Rv) (s : Sto)
  | er (e : Er) (s : Sto)
  | no
abbrev Sv := En → Sto → RS
def gN (C : Cn) (P : St → Hp → Prop) (ρ : En) (st : Sto) (μ : Mu) (F H : Hp) : Prop := ∀ σ' μ' F' H', Ext μ F H μ' F' H' → SR C.K μ' F' H' st → Eok C.K F' μ' ρ σ' → P σ' H'
def PostS (C : Cn) (D : Ends) (μ : Mu) (F H : Hp) : RS → Prop
  | .nx ρ s => gN C D.nx ρ s μ F H
  | .bk ρ s => gN C D.bk ρ s μ F H
  | .ct ρ s => gN C D.ct ρ s μ F H
  | .rt r s => gE C D.rt r s μ F H
  | .er e s => Erw C μ F H e s
  | .no => False
def tS (C : Cn) (m : Sv) : TS := fun D σ H => At C σ H fun ρ st μ F => PostS (C.at σ) D μ F H (m ρ st)
section
variable {X : Cx} {C : Cn} {Q : VK} {μ μ1 : Mu} {F H F1 H1 : Hp} {st : Sto} {e a b c : Expr} {m ma mb mc : Ev} {pos p : Pos} {es : List Expr} {D : Ends} {s t : Stmt} {ss : List Stmt} {sa sb : Sv}
theorem gN.later {P : St → Hp → Prop} {ρ : En} (x : Ext μ F H μ1 F1 H1) (h : gN C P ρ st μ F H) : gN C P ρ st μ1 F1 H1 := fun σ' μ' F' H' y s k => h σ' μ' F' H' (x.trans y) s k
theorem PostS.later {r : RS} (x : Ext μ F H μ1 F1 H1) (h : PostS C D μ F H r) : PostS C D μ1 F1 H1 r := by
  cases r with
  | nx ρ s => exact gN.later x h
  | bk ρ s => exact gN.later x h
  | ct ρ s => exact gN.later x h
  | rt r s => exact gE_lat.it x h
  | er e s => exact Erw.later x h
  | no => exact h
theorem _root_.L2.PS.imp {t' u : TS} (h : PS X s t') (w : ∀ D σ H, u D σ H → t' D σ H) : PS X s u := ⟨fun pins s σ H D I h' => h.run pins s σ H D I (w D σ H h')⟩
theorem _root_.L2.PSs.imp {t' u : TS} (h : PSs X ss t') (w : ∀ D σ H, u D σ H → t' D σ H) : PSs X ss u := ⟨fun pins s σ H D I h' => h.run pins s σ H D I (w D σ H h')⟩
/-- what a sub-meaning gives, then a statement's rest -/
@[reducible] def Res.toS {α : Type} (r : Res α) (k : α → Sto → RS) : RS := match r with
  | .ok a s => k a s
  | .er e s => .er e s
  | .no => .no
theorem PostS.bindV {m : Res Vl} {k : Vl → Sto → RS} {Q : VK} (h : PostS C D μ F H (m.toS k))
    (hk : ∀ x s v μ1 F1 H1, Ext μ F H μ1 F1 H1 → SR C.K μ1 F1 H1 s → Vok C.K F1 μ1 x v → PostS C D μ1 F1 H1 (k x s) → Q v H1) : PostV C Q μ F H m := by
  cases m with
  | ok x s => exact fun v μ1 F1 H1 e s1 o => hk x s v μ1 F1 H1 e s1 o (PostS.later e h)
  | er e s => exact h
  | no => exact h
theorem PostS.bindE {m : Res Rv} {k : Rv → Sto → RS} {Q : VK} (h : PostS C D μ F H (m.toS k))
    (hk : ∀ x s v μ1 F1 H1, Out C.K μ F H s x v μ1 F1 H1 → PostS C D μ F H (k x s) → Q v H1) : PostE C Q μ F H m := by
  cases m with
  | ok x s => exact fun v μ1 F1 H1 o => hk x s v μ1 F1 H1 o h
  | er e s => exact h
  | no => exact h
theorem PostS.bindB {m : Res Bool} {k : Bool → Sto → RS} {Q : Bool → Hp → Prop} (h : PostS C D μ F H (m.toS k))
    (hk : ∀ x s μ1 F1 H1, Ext μ F H μ1 F1 H1 → SR C.K μ1 F1 H1 s → PostS C D μ1 F1 H1 (k x s) → Q x H1) : PostB C Q μ F H m := by
  cases m with
  | ok x s => exact fun μ1 F1 H1 e s1 => hk x s μ1 F1 H1 e s1 (PostS.later e h)
  | er e s => exact h
  | no => exact h
theorem PostS.bindA {m : Res (List Vl)} {k : List Vl → Sto → RS} {Q : List V → Hp → Prop} (h : PostS C D μ F H (m.toS k))
    (hk : ∀ x s v μ1 F1 H1, Ext μ F H μ1 F1 H1 → SR C.K μ1 F1 H1 s → VokAll C.K F1 μ1 x v → PostS C D μ1 F1 H1 (k x s) → Q v H1) : PostA C Q μ F H m := by
  cases m with
  | ok x s => exact fun v μ1 F1 H1 e s1 o => hk x s v μ1 F1 H1 e s1 o (PostS.later e h)
  | er e s => exact h
  | no => exact h
theorem Erw.flat {σ σ' : St} (fl : C.Flat) {e : Er} {st : Sto} (h : Erw (C.at σ) μ F H e st) : Erw (C.at σ') μ F H e st := fun cls dd μ' F' H' x s o => fl _ _ _ _ _ (h cls dd μ' F' H' x s o)
theorem PostS.flat {σ σ' : St} (fl : C.Flat) {r : RS} (h : PostS (C.at σ) D μ F H r) : PostS (C.at σ') D μ F H r := by
  cases r with
  | er e s => exact Erw.flat fl h
  | nx ρ s => exact h
  | bk ρ s => exact h
  | ct ρ s => exact h
  | rt r s => exact h
  | no => exact h
/-! ### blocks -/
def sNil : Sv := fun ρ st => .nx ρ st
def sSeq (x y : Sv) : Sv := fun ρ st => match x ρ st with
  | .nx ρ' s => y ρ' s
  | r => r
theorem x_nil : PSs X [] (tS C sNil) := pss_nil.imp fun D σ H ⟨ρ, st, μ, F, h1, h2, h3⟩ => h3 σ μ F H Ext.refl h2 h1
theorem x_cons (ha : PS X s (tS C sa)) (hb : PSs X ss (tS C sb)) (fl : C.Flat := by exact fun _ _ _ _ _ h => h) : PSs X (s :: ss) (tS C (sSeq sa sb)) := (pss_cons ha hb).imp fun D σ H ⟨ρ, st, μ, F, h1, h2, h3⟩ => ⟨ρ, st, μ, F, h1, h2, by
  show PostS (C.at σ) { D with nx := tS C sb D } μ F H (sa ρ st)
  simp only [sSeq] at h3
  cases q : sa ρ st with
  | nx ρ' s' =>
    simp only [q] at h3
    exact fun σ' μ' F' H' x r k => ⟨ρ', s', μ', F', k, r, PostS.flat fl (PostS.later x h3)⟩
  | bk ρ' s' => simp only [q] at h3; exact h3
  | ct ρ' s' => simp only [q] at h3; exact h3
  | rt r s' => simp only [q] at h3; exact h3
  | er r s' => simp only [q] at h3; exact h3
  | no => simp only [q] at h3; exact h3⟩
theorem x_one (ha : PS X s (tS C sa)) : PSs X [s] (tS C sa) := pss_one ha
theorem x_no : PSs X ss (tS C fun _ _ => .no) := ⟨fun pins s σ H D I ⟨ρ, st, μ, F, h1, h2, h3⟩ => False.elim h3⟩
theorem x_pass : PS X (.Pass pos) (tS C sNil) := ps_pass.imp fun D σ H ⟨ρ, st, μ, F, h1, h2, h3⟩ => h3 σ μ F H Ext.refl h2 h1
def sExp (m : Ev) : Sv := fun ρ st => (m ρ st).toS fun _ s => .nx ρ s
theorem x_expr (h : PE X e (tM C m)) (hs : swapsWith e none pos.line X.env = pure false := by rfl) : PS X (.Expr e pos) (tS C (sExp m)) := (ps_expr h hs).imp fun D σ H ⟨ρ, st, μ, F, h1, h2, h3⟩ =>
  ⟨ρ, st, μ, F, h1, h2, PostS.bindE h3 fun x s v μ1 F1 H1 o h4 => h4 σ μ1 F1 H1 o.ext o.sr (h1.ext o.ext)⟩
def sRet (m : Ev) : Sv := fun ρ st => (m ρ st).toS fun r s => .rt r s
theorem x_ret (h : PE X e (tM C m)) : PS X (.Return (some e) pos) (tS C (sRet m)) := (ps_ret h).imp fun D σ H ⟨ρ, st, μ, F, h1, h2, h3⟩ => ⟨ρ, st, μ, F, h1, h2, PostS.bindE h3 fun x s v μ1 F1 H1 o h4 => h4 v μ1 F1 H1 o⟩
def sRetN : Sv := fun _ st => .rt (.d .none) st
def sIf (c : En → Sto → Res Bool) (x y : Sv) : Sv := fun ρ st => (c ρ st).toS fun k s => if k = true then x ρ s else y ρ s
theorem x_if {bc : En → Sto → Res Bool} {A B : List Stmt} (hc : PT X c (tT C bc)) (ha : PSs X A (tS C sa)) (hb : PSs X B (tS C sb)) : PS X (.If c A B pos) (tS C (sIf bc sa sb)) := (ps_if hc ha hb).imp fun D σ H ⟨ρ, st, μ, F, h1, h2, h3⟩ =>
  ⟨ρ, st, μ, F, h1, h2, PostS.bindB h3 fun k s μ1 F1 H1 x r h4 => by
    cases k with
    | true => simp only [if_true] at h4 ⊢; exact ⟨ρ, s, μ1, F1, h1.ext x, r, h4⟩
    | false => simp only [Bool.false_eq_true, if_false] at h4 ⊢; exact ⟨ρ, s, μ1, F1, h1.ext x, r, h4⟩⟩
/-! ### targets: where a value goes; the slots ws alone change -/
def Agr (ws : List Nat) (σ σ' : St) : Prop := σ'.length = σ.length ∧ ∀ j, j ∉ ws → σ'[j]? = σ[j]?
abbrev Gm := Vl → En → Sto → Res En
abbrev gG (C : Cn) (ws : List Nat) (σ : St) (P : St → Hp → Prop) : En → Sto → Mu → Hp → Hp → Prop := fun ρ st μ F H => ∀ σ' μ' F' H', Ext μ F H μ' F' H' → SR C.K μ' F' H' st → Eok C.K F' μ' ρ σ' → Agr ws σ σ' → P σ' H'
theorem gG_lat {ws : List Nat} {σ : St} {P : St → Hp → Prop} : Lat (gG C ws σ P) := ⟨fun x h σ' μ' F' H' y s k => h σ' μ' F' H' (x.trans y) s k⟩
def tG (C : Cn) (ws : List Nat) (g : Gm) : TG := fun v σ H P => ∃ ρ st μ F x, Eok C.K F μ ρ σ ∧ SR C.K μ F H st ∧ Vok C.K F μ x v ∧ Post (C.at σ) (gG C ws σ P) μ F H (g x ρ st)
theorem _root_.L2.PG.imp {tg : Expr} {t u : TG} (h : PG X tg t) (w : ∀ v σ H Q, u v σ H Q → t v σ H Q) : PG X tg u := ⟨fun pins s σ H v u Q I r h' => h.run pins s σ H v u Q I r (w v σ H Q h')⟩
def gNm (i : Nat) : Gm := fun x ρ st => .ok (ρ.set i (some x)) st
theorem eok_set {K : Kw} {ρ : En} {σ : St} {i : Nat} {x : Vl} {v : V} (h : Eok K F μ ρ σ) (k : Vok K F μ x v) : Eok K F μ (ρ.set i (some x)) (σ.set i (some v)) := by
  refine ⟨by simp [h.1], fun j y e => ?_⟩
  by_cases hj : i = j
  · subst hj
    have hi : i < ρ.length := by
      have := (List.getElem?_eq_some_iff.mp e).1
      simpa using this
    rw [List.getElem?_set_self hi] at e
    cases e
    exact ⟨v, by rw [List.getElem?_set_self (by rw [← h.1]; exact hi)], k⟩
  · rw [List.getElem?_set_ne hj] at e
    obtain ⟨w, h1, h2⟩ := h.2 j y e
    exact ⟨w, by rw [List.getElem?_set_ne hj]; exact h1, h2⟩
theorem agr_set {i : Nat} {σ : St} {v : Option V} : Agr [i] σ (σ.set i v) := ⟨by simp, fun j h => List.getElem?_set_ne (fun e => h (by simp [e]))⟩
theorem t_name {i : Nat} {tg : Expr} (h : PG X tg (gName i)) : PG X tg (tG C [i] (gNm i)) := h.imp fun v σ H Q ⟨ρ, st, μ, F, x, h1, h2, h3, h4⟩ => h4 _ μ F H Ext.refl h2 (eok_set h1 h3) agr_set
/-- several, from a tuple -/
abbrev Gms := List PyData → En → Sto → Res En
def gNil9 : Gms := fun ds ρ st => match ds with
  | [] => .ok ρ st
  | _ :: _ => .no
def gCons9 (g : Gm) (r : Gms) : Gms := fun ds ρ st => match ds with
  | [] => .no
  | d :: ds => (g (.d d) ρ st).bind fun ρ' s => r ds ρ' s
def tGs (C : Cn) (ws : List Nat) (g : Gms) : TGs := fun vs σ H P => ∃ ρ st μ F ds, Eok C.K F μ ρ σ ∧ SR C.K μ F H st ∧ DqAll C.K F vs ds ∧ Post (C.at σ) (gG C ws σ P) μ F H (g ds ρ st)
theorem _root_.L2.PGs.imp {tg : List Expr} {t u : TGs} (h : PGs X tg t) (w : ∀ v σ H Q, u v σ H Q → t v σ H Q) : PGs X tg u := ⟨fun pins s σ H v u Q I r h' => h.run pins s σ H v u Q I r (w v σ H Q h')⟩
theorem t_nil : PGs X [] (tGs C [] gNil9) := pgs_nil.imp fun v σ H Q ⟨ρ, st, μ, F, ds, h1, h2, h3, h4⟩ => by
  cases h3 with
  | nil => exact ⟨rfl, h4 σ μ F H Ext.refl h2 h1 ⟨rfl, fun _ _ => rfl⟩⟩
  | cons _ _ => exact False.elim h4
theorem t_cons {tg : Expr} {tgs : List Expr} {ws ws' : List Nat} {g : Gm} {r : Gms} (h : PG X tg (tG C ws g)) (hr : PGs X tgs (tGs C ws' r)) (hs : (assignEach (tg :: tgs) X.env).map (·.2) = assign tg X.env :: (assignEach tgs X.env).map (·.2) := by rfl) (fl : C.Flat := by exact fun _ _ _ _ _ h => h) :
    PGs X (tg :: tgs) (tGs C (ws ++ ws') (gCons9 g r)) := (pgs_cons h hr hs).imp fun v σ H Q ⟨ρ, st, μ, F, ds, h1, h2, h3, h4⟩ => by
  cases h3 with
  | nil => exact False.elim h4
  | @cons v' vs' d' ds' k kr =>
    refine ⟨_, _, rfl, ρ, st, μ, F, .d d', h1, h2, k, ?_⟩
    have h4 : Post (C.at σ) (gG C (ws ++ ws') σ Q) μ F H ((g (.d d') ρ st).bind fun ρ' s => r ds' ρ' s) := h4
    cases q : g (.d d') ρ st with
    | no => rw [q] at h4; exact h4
    | er e s => rw [q] at h4; exact h4
    | ok ρ1 s1 =>
      rw [q] at h4
      intro σ1 μ1 F1 H1 x1 r1 k1 a1
      refine ⟨ρ1, s1, μ1, F1, ds', k1, r1, kr.same x1.same, ?_⟩
      have h5 := Post.later gG_lat x1 (show Post (C.at σ) (gG C (ws ++ ws') σ Q) μ F H (r ds' ρ1 s1) from h4)
      have wk : ∀ {ρ' s'}, gG C (ws ++ ws') σ Q ρ' s' μ1 F1 H1 → gG C ws' σ1 Q ρ' s' μ1 F1 H1 := fun {ρ' s'} z σ2 μ2 F2 H2 x2 r2 k2 a2 => z σ2 μ2 F2 H2 x2 r2 k2 ⟨a2.1.trans a1.1, fun j hj => by
        rw [List.mem_append, not_or] at hj
        rw [a2.2 j hj.2, a1.2 j hj.1]⟩
      cases q2 : r ds' ρ1 s1 with
      | no => rw [q2] at h5; exact h5
      | er e s => rw [q2] at h5; exact Erw.flat fl h5
      | ok ρ2 s2 => rw [q2] at h5; exact wk h5
def gTp (n : Nat) (r : Gms) : Gm := fun x ρ st => match x with
  | .d (.tuple ds) => if ds.length = n then r ds ρ st else .no
  | _ => .no
theorem t_tup {k : Nat} {ws : List Nat} {r : Gms} {n : Nat} (hc : X.calm = true) (h : PGs X es (tGs C ws r)) (hn : (assignEach es X.env).length = n := by rfl) (hst : (assignEach es X.env).findIdx? (·.1) = none := by rfl) : PG X (.Tuple es k pos) (tG C ws (gTp n r)) :=
  (pg_tup hc h hn hst).imp fun v σ H Q ⟨ρ, st, μ, F, x, h1, h2, h3, h4⟩ => by
    cases x with
    | c i => exact False.elim h4
    | s i => exact False.elim h4
    | o i => exact False.elim h4
    | d x =>
      cases x with
      | tuple ds =>
        cases (show Dq C.K F v (.tuple ds) from h3) with
        | tup q1 q2 =>
          simp only [gTp] at h4
          split at h4
          · rename_i hl
            exact ⟨_, _, rfl, SqT.rd h2.sub q1, by rw [q2.length]; exact hl, ρ, st, μ, F, ds, h1, h2, q2, h4⟩
          · exact False.elim h4
      | _ => exact False.elim h4
/-- a list's place -/
def gPl (mo mi : Ev) : Gm := fun x ρ st => match x with
  | .d d => (mV mo ρ st).bind fun o s1 => (mV mi ρ s1).bind fun i s2 => match o, i with
    | .c k, .d (.int j) => match s2[k]? with
      | some (.l xs) => match ixN xs.length j with
        | some n => .ok ρ (s2.set k (.l (xs.set n d)))
        | none => .no
      | _ => .no
    | _, _ => .no
  | _ => .no
theorem t_pl {o i : Expr} {mo mi : Ev} (ho : PE X o (tM C mo)) (hi : PE X i (tM C mi))
    (ha : ∀ v, assign (.Subscript o i pos) X.env v = (do
      let ov ← holding [v] (eval o X.env)
      let iv ← holding [v, ov] (eval i X.env)
      standAt pos
      holding [v, ov, iv] (setItem ov iv v)
      release [v, ov, iv] []) := by intro _; rfl) : PG X (.Subscript o i pos) (tG C [] (gPl mo mi)) :=
  (pg_sub (pv_frz ho) (pv_frz hi) set_list ha).imp fun v σ H Q ⟨ρ, st, μ, F, x, h1, h2, h3, h4⟩ => by
    cases x with
    | c i => exact False.elim h4
    | s i => exact False.elim h4
    | o i => exact False.elim h4
    | d d =>
      have h4 : Post (C.at σ) (gG C [] σ Q) μ F H ((mV mo ρ st).bind fun o s1 => (mV mi ρ s1).bind fun i s2 => match o, i with
        | .c k, .d (.int j) => match s2[k]? with
          | some (.l xs) => match ixN xs.length j with
            | some n => .ok ρ (s2.set k (.l (xs.set n d)))
            | none => .no
          | _ => .no
        | _, _ => .no) := h4
      refine ⟨ρ, st, μ, F, h1, h2, Post.bindV gG_lat h4 fun o s1 vo μ1 F1 H1 x1 r1 k1 h5 => ⟨ρ, s1, μ1, F1, h1.ext x1, r1, Post.bindV gG_lat h5 fun i s2 vi μ2 F2 H2 x2 r2 k2 h6 => ?_⟩⟩
      have k1 := k1.ext x2
      cases o with
      | d _ => exact False.elim h6
      | s _ => exact False.elim h6
      | o _ => exact False.elim h6
      | c k =>
        cases i with
        | c _ => exact False.elim h6
        | s _ => exact False.elim h6
        | o _ => exact False.elim h6
        | d i =>
          cases i with
          | int j =>
            cases q : s2[k]? with
            | none => simp only [q] at h6; exact False.elim h6
            | some cl =>
              cases cl with
              | m _ => simp only [q] at h6; exact False.elim h6
              | l xs =>
                cases q2 : ixN xs.length j with
                | none => simp only [q, q2] at h6; exact False.elim h6
                | some n =>
                  simp only [q, q2] at h6
                  obtain ⟨p, hp, rfl⟩ := k1
                  obtain ⟨p', o', g1, g2, ys, rfl, g3⟩ := r2.cell k _ q
                  rw [hp] at g1; cases g1
                  cases (show Dq C.K F2 vi (.int j) from k2)
                  have dv : Dq C.K F2 v d := Dq.same (x1.trans x2).same h3
                  obtain ⟨w1, w2⟩ := r2.write (c := .l (xs.set n d)) (o := .lst (ys.set n v)) hp ⟨_, rfl, g3.set dv n⟩ q
                  exact ⟨p, ys, j, n, rfl, rfl, g2, by rw [g3.length]; exact q2, h6 σ μ2 F2 _ w2 w1 (((h1.ext x1).ext x2).ext w2) ⟨rfl, fun _ _ => rfl⟩⟩
          | _ => exact False.elim h6
/-- target = value -/
def sAsg (g : Gm) (mv : En → Sto → Res Vl) : Sv := fun ρ st => (mv ρ st).toS fun x s => (g x ρ s).toS fun ρ' s' => .nx ρ' s'
theorem x_asg {tg : Expr} {ws : List Nat} {g : Gm} {mv : En → Sto → Res Vl} (he : PE X e (tV C mv)) (hg : PG X tg (tG C ws g)) (hs : swapsWithSole [tg] e pos.line X.env = pure false := by rfl) (hw : swappedStores [tg] e X.env = pure none := by rfl)
    (h1 : (assignEach [tg] X.env).map (·.2) = [assign tg X.env] := by rfl) : PS X (.Assign [tg] e pos) (tS C (sAsg g mv)) := (ps_asg he hg hs hw h1).imp fun D σ H ⟨ρ, st, μ, F, h1, h2, h3⟩ =>
  ⟨ρ, st, μ, F, h1, h2, PostS.bindV h3 fun x s v μ1 F1 H1 x1 r1 k1 h4 => ⟨ρ, s, μ1, F1, x, h1.ext x1, r1, k1, by
    cases q : g x ρ s with
    | no => rw [q] at h4; exact h4
    | er e' s' => rw [q] at h4; exact h4
    | ok ρ' s' => rw [q] at h4; exact fun σ' μ' F' H' y r k _ => h4 σ' μ' F' H' y r k⟩⟩
/-- name = [..] (a comprehension on one line): ps_setLc's form -/
theorem x_asgLc {i : Nat} {t : TE} {mv : En → Sto → Res Vl} (h : PS X s (tAsg t (gName i))) (w : ∀ σ H Q, tV C mv σ H Q → t σ H Q) : PS X s (tS C (sAsg (gNm i) mv)) := h.imp fun D σ H ⟨ρ, st, μ, F, h1, h2, h3⟩ => w σ H _
  ⟨ρ, st, μ, F, h1, h2, PostS.bindV h3 fun x s v μ1 F1 H1 x1 r1 k1 h4 => h4 _ μ1 F1 H1 Ext.refl r1 (eok_set (h1.ext x1) k1)⟩
/-- two, three names at once -/
def sPar (is : List Nat) (ma : En → Sto → Res (List Vl)) : Sv := fun ρ st => (ma ρ st).toS fun xs s => match is, xs with
  | [i, j], [x, y] => .nx ((ρ.set i (some x)).set j (some y)) s
  | [i, j, l], [x, y, z] => .nx (((ρ.set i (some x)).set j (some y)).set l (some z)) s
  | _, _ => .no
variable {mas : En → Sto → Res (List Vl)}
theorem x_par {i j : Nat} (h : PS X s (tPar i j (tAs C mas))) : PS X s (tS C (sPar [i, j] mas)) := h.imp fun D σ H ⟨ρ, st, μ, F, h1, h2, h3⟩ => ⟨ρ, st, μ, F, h1, h2, PostS.bindA h3 fun xs s vs μ1 F1 H1 x1 r1 k1 h4 => by
  match xs, k1, h4 with
  | [], _, h4 => exact False.elim h4
  | [_], _, h4 => exact False.elim h4
  | [x, y], k1, h4 =>
    obtain ⟨v, u, rfl, hv, hu⟩ := k1.two
    exact ⟨v, u, rfl, h4 _ μ1 F1 H1 Ext.refl r1 (eok_set (eok_set (h1.ext x1) hv) hu)⟩
  | _ :: _ :: _ :: _, _, h4 => exact False.elim h4⟩
theorem x_par3 {i j l : Nat} (h : PS X s (tPar3 i j l (tAs C mas))) : PS X s (tS C (sPar [i, j, l] mas)) := h.imp fun D σ H ⟨ρ, st, μ, F, h1, h2, h3⟩ => ⟨ρ, st, μ, F, h1, h2, PostS.bindA h3 fun xs s vs μ1 F1 H1 x1 r1 k1 h4 => by
  match xs, k1, h4 with
  | [], _, h4 => exact False.elim h4
  | [_], _, h4 => exact False.elim h4
  | [_, _], _, h4 => exact False.elim h4
  | [x, y, z], k1, h4 =>
    cases k1 with
    | cons hv k2 =>
      obtain ⟨v, u, rfl, hu, hw⟩ := k2.two
      exact ⟨_, v, u, rfl, h4 _ μ1 F1 H1 Ext.refl r1 (eok_set (eok_set (eok_set (h1.ext x1) hv) hu) hw)⟩
  | _ :: _ :: _ :: _ :: _, _, h4 => exact False.elim h4⟩
end
end Cp
/-! Cp6: lists that change, what is walked, for, while, comprehensions. -/
namespace Cp
open PySem L2
section
variable {X : Cx} {C : Cn} {Q : VK} {μ μ1 : Mu} {F H F1 H1 : Hp} {st : Sto} {e a b c o tg iter : Expr} {m mo ma mb mc : Ev} {pos p apos cpos : Pos} {es : List Expr} {D : Ends} {s t : Stmt} {ss body : List Stmt} {sa sb : Sv}
/-! ### methods of a list that changes -/
def lstAt (s : Sto) (x : Vl) : Option (List PyData) := match x with
  | .c k => match s[k]? with
    | some (.l xs) => some xs
    | _ => none
  | _ => none
theorem lstAt_get {k : Nat} {xs : List PyData} (e : lstAt st (.c k) = some xs) : st[k]? = some (.l xs) := by
  simp only [lstAt] at e
  split at e
  · rename_i h; cases e; exact h
  · cases e
theorem lstAt_ok {K : Kw} {x : Vl} {v : V} {xs : List PyData} (s : SR K μ F H st) (k : Vok K F μ x v) (e : lstAt st x = some xs) : ∃ i p ys, x = .c i ∧ v = .ref p ∧ μ.l[i]? = some p ∧ H p = some (.lst ys) ∧ DqAll K F ys xs := by
  cases x with
  | d _ => cases e
  | s _ => cases e
  | o _ => cases e
  | c i =>
    obtain ⟨p, hp, rfl⟩ := k
    simp only [lstAt] at e
    cases q : st[i]? with
    | none => simp only [q] at e; cases e
    | some cl =>
      cases cl with
      | m _ => simp only [q] at e; cases e
      | l zs =>
        simp only [q] at e; cases e
        obtain ⟨p', o', g1, g2, ys, rfl, g3⟩ := s.cell i _ q
        rw [hp] at g1; cases g1
        exact ⟨i, p, ys, rfl, rfl, hp, g2, g3⟩
def fApp (xs : List PyData) (d : PyData) : Option (List PyData) := if xs.length < sizeLine then some (xs ++ [d]) else none
def fExt (xs : List PyData) (d : PyData) : Option (List PyData) := match d with
  | .list ys => if xs.length + ys.length ≤ sizeLine then some (xs ++ ys) else none
  | _ => none
/-- x.append(e): e is data (a cell would be shared) -/
def mApp (mo ma : Ev) : Ev := fun ρ st => (mV mo ρ st).bind fun x s1 => match lstAt s1 x with
  | none => .no
  | some _ => (mV ma ρ s1).bind fun y s2 => match x, lstAt s2 x, y with
    | .c k, some xs, .d d => match fApp xs d with
      | some zs => .ok (.d .none) (s2.set k (.l zs))
      | none => .no
    | _, _, _ => .no
theorem s_app (h : PE X e (tBM X.K "list" rAppend (tV C (mV mo)) (tCons (tV C (mV ma)) tNil))) : PE X e (tM C (mApp mo ma)) :=
  h.imp fun σ H Q ⟨ρ, st, μ, F, h1, h2, h3⟩ => ⟨ρ, st, μ, F, h1, h2, Post.bindV gE_lat h3 fun x s v μ1 F1 H1 x1 r1 k1 h4 => by
    cases q : lstAt s x with
    | none => simp only [q] at h4; exact False.elim h4
    | some zs =>
      simp only [q] at h4
      obtain ⟨i, pp, ys, rfl, rfl, g1, g2, g3⟩ := lstAt_ok r1 k1 q
      refine ⟨.inl ⟨rfl, _, SqL.of g2⟩, ρ, s, μ1, F1, h1.ext x1, r1, Post.bindV gE_lat h4 fun y s2 u μ2 F2 H2 x2 r2 k2 h5 => ?_⟩
      have k1' := k1.ext x2
      cases q2 : lstAt s2 (.c i) with
      | none => simp only [q2] at h5; exact False.elim h5
      | some ws =>
        cases y with
        | c _ => simp only [q2] at h5; exact False.elim h5
        | s _ => simp only [q2] at h5; exact False.elim h5
        | o _ => simp only [q2] at h5; exact False.elim h5
        | d d =>
          obtain ⟨i', pp', ys', e1, e2, g1', g2', g3'⟩ := lstAt_ok r2 k1' q2
          cases e1
          cases e2
          simp only [q2, fApp] at h5
          split at h5
          · rename_i zz hz
            split at hz
            · cases hz
              obtain ⟨w1, w2⟩ := r2.write (c := .l (ws ++ [d])) (o := .lst (ys' ++ [u])) g1' ⟨_, rfl, g3'.app (.cons k2 .nil)⟩ (lstAt_get q2)
              exact ⟨_, _, _, rfl, rfl, g2', by rw [g3'.length]; assumption, h5 .non _ _ _ ⟨w2, w1, .non, fun _ z => nomatch z⟩⟩
            · cases hz
          · exact False.elim h5⟩
def mExt (mo ma : Ev) : Ev := fun ρ st => (mV mo ρ st).bind fun x s1 => match lstAt s1 x with
  | none => .no
  | some _ => (mV ma ρ s1).bind fun y s2 => match x, lstAt s2 x, view s2 y with
    | .c k, some xs, some d => match fExt xs d with
      | some zs => .ok (.d .none) (s2.set k (.l zs))
      | none => .no
    | _, _, _ => .no
theorem s_ext (h : PE X e (tBM X.K "list" rExtend (tV C (mV mo)) (tCons (tV C (mV ma)) tNil))) : PE X e (tM C (mExt mo ma)) :=
  h.imp fun σ H Q ⟨ρ, st, μ, F, h1, h2, h3⟩ => ⟨ρ, st, μ, F, h1, h2, Post.bindV gE_lat h3 fun x s v μ1 F1 H1 x1 r1 k1 h4 => by
    cases q : lstAt s x with
    | none => simp only [q] at h4; exact False.elim h4
    | some zs =>
      simp only [q] at h4
      obtain ⟨i, pp, ys, rfl, rfl, g1, g2, g3⟩ := lstAt_ok r1 k1 q
      refine ⟨.inl ⟨rfl, _, SqL.of g2⟩, ρ, s, μ1, F1, h1.ext x1, r1, Post.bindV gE_lat h4 fun y s2 u μ2 F2 H2 x2 r2 k2 h5 => ?_⟩
      have k1' := k1.ext x2
      cases q2 : lstAt s2 (.c i) with
      | none => simp only [q2] at h5; exact False.elim h5
      | some ws =>
        cases q3 : view s2 y with
        | none => simp only [q2, q3] at h5; exact False.elim h5
        | some d =>
          obtain ⟨i', pp', ys', e1, e2, g1', g2', g3'⟩ := lstAt_ok r2 k1' q2
          cases e1
          cases e2
          have vw := view_ok r2 k2 q3
          cases d with
          | list ds =>
            obtain ⟨pb, zs', rfl, b1, b2⟩ := vw
            simp only [q2, q3, fExt] at h5
            split at h5
            · rename_i zz hz
              split at hz
              · cases hz
                obtain ⟨w1, w2⟩ := r2.write (c := .l (ws ++ ds)) (o := .lst (ys' ++ zs')) g1' ⟨_, rfl, g3'.app b2⟩ (lstAt_get q2)
                exact ⟨_, _, _, _, rfl, rfl, g2', b1, by rw [g3'.length, b2.length]; assumption, h5 .non _ _ _ ⟨w2, w1, .non, fun _ z => nomatch z⟩⟩
              · cases hz
            · exact False.elim h5
          | _ => simp only [q2, q3, fExt] at h5; exact False.elim h5⟩
def mPop (mo : Ev) : Ev := fun ρ st => (mV mo ρ st).bind fun x s1 => match x, lstAt s1 x with
  | .c k, some xs => match xs[xs.length - 1]? with
    | some d => .ok (.d d) (s1.set k (.l xs.dropLast))
    | none => .no
  | _, _ => .no
theorem DqAll.dropLast {K : Kw} {vs : List V} {ds : List PyData} (h : DqAll K F vs ds) : DqAll K F vs.dropLast ds.dropLast := by
  rw [List.dropLast_eq_take, List.dropLast_eq_take, h.length]
  exact h.take _
theorem s_pop (h : PE X e (tBM0 X.K "list" rPop (tV C (mV mo)))) : PE X e (tM C (mPop mo)) :=
  h.imp fun σ H Q ⟨ρ, st, μ, F, h1, h2, h3⟩ => ⟨ρ, st, μ, F, h1, h2, Post.bindV gE_lat h3 fun x s v μ1 F1 H1 x1 r1 k1 h4 => by
    cases q : lstAt s x with
    | none => cases x <;> (simp only [q] at h4; exact False.elim h4)
    | some zs =>
      obtain ⟨i, pp, ys, rfl, rfl, g1, g2, g3⟩ := lstAt_ok r1 k1 q
      simp only [q] at h4
      cases q2 : zs[zs.length - 1]? with
      | none => simp only [q2] at h4; exact False.elim h4
      | some d =>
        simp only [q2] at h4
        obtain ⟨v', g4, g5⟩ := g3.get q2
        obtain ⟨w1, w2⟩ := r1.write (c := .l zs.dropLast) (o := .lst ys.dropLast) g1 ⟨_, rfl, g3.dropLast⟩ (lstAt_get q)
        exact ⟨.inl ⟨rfl, _, SqL.of g2⟩, _, _, _, rfl, rfl, g2, by rw [g3.length]; exact g4, h4 v' _ _ _ ⟨w2, w1, g5, fun _ z => nomatch z⟩⟩⟩
/-! ### what is walked -/
def Grd (g : Option (Nat × List PyData)) (ds : List PyData) (st : Sto) : Prop := match g with
  | none => True
  | some k => st[k.1]? = some (.l k.2)
/-- what data and cells lean on stands -/
structure Sx (μ : Mu) (F : Hp) (μ' : Mu) (F' : Hp) : Prop where
  same : Same F F'
  pre : ∃ r, μ'.l = μ.l ++ r
  preη : ∃ r, μ'.η = μ.η ++ r
theorem Ext.sx (x : Ext μ F H μ1 F1 H1) : Sx μ F μ1 F1 := ⟨x.same, x.pre, x.preη⟩
theorem Sx.refl : Sx μ F μ F := ⟨Same.refl F, ⟨[], by simp⟩, ⟨[], by simp⟩⟩
theorem Sx.trans {μ2 : Mu} {F2 : Hp} (x : Sx μ F μ1 F1) (y : Sx μ1 F1 μ2 F2) : Sx μ F μ2 F2 := by
  obtain ⟨r, e⟩ := x.pre
  obtain ⟨r', e'⟩ := y.pre
  obtain ⟨q, k⟩ := x.preη
  obtain ⟨q', k'⟩ := y.preη
  exact ⟨x.same.trans y.same, ⟨r ++ r', by rw [e', e, List.append_assoc]⟩, ⟨q ++ q', by rw [k', k, List.append_assoc]⟩⟩
theorem Sx.get (a : Sx μ F μ1 F1) {i : Nat} {x : Addr} (h : μ.l[i]? = some x) : μ1.l[i]? = some x := by
  obtain ⟨r, e⟩ := a.pre
  rw [e, List.getElem?_append_left (List.getElem?_eq_some_iff.mp h).1]
  exact h
/-- the thing J walks the data ds, while what stood stands (and the cell g holds them still) -/
structure Wk (KK : Kw) (J : It) (ds : List PyData) (g : Option (Nat × List PyData)) (μ : Mu) (F : Hp) : Prop where
  go : ∀ (i : Nat) (μ1 : Mu) (F1 H1 : Hp) (st1 : Sto) (d : PyData), Sx μ F μ1 F1 → SR KK μ1 F1 H1 st1 → Grd g ds st1 → ds[i]? = some d →
    J.go i H1 ∧ ∀ x H2, J.yld i H1 x H2 → ∃ F2, Ext μ1 F1 H1 μ1 F2 H2 ∧ SR KK μ1 F2 H2 st1 ∧ Dq KK F2 x d
  stop : ∀ (μ1 : Mu) (F1 H1 : Hp) (st1 : Sto), Sx μ F μ1 F1 → SR KK μ1 F1 H1 st1 → Grd g ds st1 → J.stop ds.length H1
abbrev Src := List PyData × Option (Nat × List PyData)
abbrev gW (C : Cn) (R : It → Hp → Prop) : Src → Sto → Mu → Hp → Hp → Prop := fun dg st μ F H => ∀ J μ' F' H', Ext μ F H μ' F' H' → SR C.K μ' F' H' st → Wk C.K J dg.1 dg.2 μ' F' → R J H'
theorem gW_lat {R : It → Hp → Prop} : Lat (gW C R) := ⟨fun x h J μ' F' H' y s w => h J μ' F' H' (x.trans y) s w⟩
def tI (C : Cn) (mi : En → Sto → Res Src) : TI := fun σ H R => At C σ H fun ρ st μ F => Post (C.at σ) (gW C R) μ F H (mi ρ st)
theorem _root_.L2.PI.imp {t u : TI} (h : PI X tg iter t) (w : ∀ σ H R, u σ H R → t σ H R) : PI X tg iter u := ⟨fun pins s σ H R I h' => h.run pins s σ H R I (w σ H R h')⟩
/-- a list, a tuple, a text -/
def iSeq (K : PySem.W.Frag) (te : TE) : TI := fun σ H R => te σ H fun v H1 => (∃ q xs, v = .ref q ∧ SqL K H1 q xs ∧ R (Itl K q) H1) ∨ (∃ q xs, v = .ref q ∧ SqT K H1 q xs ∧ R (Itt K q) H1) ∨ ∃ z, v = .str z ∧ R (Its z) H1
theorem pi_seq {te : TE} (h : PE X e te) : PI X tg e (iSeq X.K te) := by
  refine ⟨fun pins s σ H R I hw => thn (h.run pins s σ H _ I hw) fun u s1 ⟨v, H1, I1, rv, q⟩ => ?_⟩
  rcases q with ⟨q, xs, rfl, hq, hr⟩ | ⟨q, xs, rfl, hq, hr⟩ | ⟨z, rfl, hr⟩
  · obtain ⟨its, r2, pl, _⟩ := I1.list hq
    cases rv
    exact PySem.wpAny_pyIter_list pl.isList (pi_one (tk := s1.toks) I1 _ (turn_list q _) ⟨_, Heap.get?_push_size _ rfl, rfl, rfl⟩ hr)
  · obtain ⟨its, r2, pl, _⟩ := I1.tuple hq
    cases rv
    exact PySem.wpAny_pyIter_tuple (show s1.heap.IsTuple q its.toArray from pl) (pi_one (tk := s1.toks) I1 _ (turn_tuple q _) ⟨_, Heap.get?_push_size _ rfl, rfl, rfl⟩ hr)
  · obtain ⟨t, rfl⟩ := rv
    cases hw : z.cps.all (· < 128)
    · exact wpAny_pyIter_wide hw (pi_one (tk := s1.toks) I1 _ (turn_str _ z t "str_iterator" (.inr rfl)) ⟨_, Heap.get?_push_size _ rfl, rfl, rfl⟩ hr)
    · exact wpAny_pyIter_ascii hw (pi_one (tk := s1.toks) I1 _ (turn_str _ z t "str_ascii_iterator" (.inl rfl)) ⟨_, Heap.get?_push_size _ rfl, rfl, rfl⟩ hr)
def signs (z : Str) : List PyData := z.cps.toList.map fun c => .str ⟨#[c]⟩
def srcOf (s : Sto) (x : Vl) : Option Src := match x with
  | .c k => match s[k]? with
    | some (.l xs) => some (xs, some (k, xs))
    | _ => none
  | .d (.list xs) => some (xs, none)
  | .d (.tuple xs) => some (xs, none)
  | .d (.str z) => some (signs z, none)
  | .o (.tp xs) => some (xs, none)
  | _ => none
def okO {α : Type} (o : Option α) (s : Sto) : Res α := match o with
  | some k => .ok k s
  | none => .no
def iOf (m : Ev) : En → Sto → Res Src := fun ρ st => (mV m ρ st).bind fun x s => okO (srcOf s x) s
theorem wk_list {K : PySem.W.Frag} {q : Addr} {ds : List PyData} {g : Option (Nat × List PyData)} (hx : ∀ μ1 F1 H1 st1, Sx μ F μ1 F1 → SR C.K μ1 F1 H1 st1 → Grd g ds st1 → ∃ ys, H1 q = some (.lst ys) ∧ DqAll C.K F1 ys ds) : Wk C.K (Itl K q) ds g μ F := by
  refine ⟨fun i μ1 F1 H1 st1 d x1 r1 k1 e => ?_, fun μ1 F1 H1 st1 x1 r1 k1 => ?_⟩
  · obtain ⟨ys, g1, g2⟩ := hx μ1 F1 H1 st1 x1 r1 k1
    obtain ⟨v, g3, g4⟩ := g2.get e
    refine ⟨⟨ys, v, SqL.of g1, g3⟩, fun x H2 ⟨e1, e2⟩ => ?_⟩
    subst e1
    have := e2 ys (SqL.of g1)
    rw [g3] at this
    cases this
    exact ⟨F1, Ext.refl, r1, g4⟩
  · obtain ⟨ys, g1, g2⟩ := hx μ1 F1 H1 st1 x1 r1 k1
    exact ⟨ys, SqL.of g1, Nat.le_of_eq g2.length⟩
theorem wk_tup {K : PySem.W.Frag} {xs : List V} {q : Addr} {ds : List PyData} {g : Option (Nat × List PyData)} (h1 : Rd F q (.tup xs)) (h2 : DqAll C.K F xs ds) : Wk C.K (Itt K q) ds g μ F := by
  refine ⟨fun i μ1 F1 H1 st1 d x1 r1 k1 e => ?_, fun μ1 F1 H1 st1 x1 r1 k1 => ?_⟩
  · have g1 : SqT K H1 q xs := SqT.rd r1.sub (same_rd x1.same h1)
    obtain ⟨v, g3, g4⟩ := (h2.same x1.same).get e
    refine ⟨⟨xs, v, g1, g3⟩, fun x H2 ⟨e1, e2⟩ => ?_⟩
    subst e1
    have := e2 xs (g1)
    rw [g3] at this
    cases this
    exact ⟨F1, Ext.refl, r1, g4⟩
  · exact ⟨xs, SqT.rd r1.sub (same_rd x1.same h1), Nat.le_of_eq h2.length⟩
theorem wk_str {z : Str} {g : Option (Nat × List PyData)} : Wk C.K (Its z) (signs z) g μ F := by
  refine ⟨fun i μ1 F1 H1 st1 d x1 r1 k1 e => ?_, fun μ1 F1 H1 st1 x1 r1 k1 => ?_⟩
  · unfold signs at e
    rw [List.getElem?_map] at e
    obtain ⟨cc, h1, rfl⟩ := Option.map_eq_some_iff.mp e
    rw [Array.getElem?_toList] at h1
    refine ⟨(Array.getElem?_eq_some_iff.mp h1).1, fun x H2 ⟨e1, c', e2, e3⟩ => ?_⟩
    subst e1 e3
    rw [h1] at e2; cases e2
    exact ⟨F1, Ext.refl, r1, .str _⟩
  · show z.cps.size ≤ (signs z).length
    unfold signs
    rw [List.length_map, Array.length_toList]
    exact Nat.le_refl _
theorem i_seq (h : PE X e (tM C m)) : PI X tg e (tI C (iOf m)) := (pi_seq (pv_frz h)).imp fun σ H R ⟨ρ, st, μ, F, h1, h2, h3⟩ => ⟨ρ, st, μ, F, h1, h2, Post.bindV gW_lat h3 fun x s v μ1 F1 H1 x1 r1 k1 h4 => by
  cases x with
  | s _ => exact False.elim h4
  | o y =>
    cases y with
    | tp xs =>
      obtain ⟨a, ys, o, rfl, q1, _, q2⟩ := k1
      exact .inr (.inl ⟨_, _, rfl, SqT.rd r1.sub (.inr ⟨o, q1⟩), h4 _ μ1 F1 H1 Ext.refl r1 (wk_tup (.inr ⟨o, q1⟩) q2)⟩)
    | _ => exact False.elim h4
  | c k =>
    cases q : s[k]? with
    | none => simp only [srcOf, q, okO] at h4; exact False.elim h4
    | some cl =>
      cases cl with
      | m _ => simp only [srcOf, q, okO] at h4; exact False.elim h4
      | l xs =>
        simp only [srcOf, q, okO] at h4
        obtain ⟨pp, hp, rfl⟩ := k1
        obtain ⟨p', o', g1, g2, ys, rfl, g3⟩ := r1.cell k _ q
        rw [hp] at g1; cases g1
        refine .inl ⟨pp, ys, rfl, SqL.of g2, h4 _ μ1 F1 H1 Ext.refl r1 (wk_list fun μ2 F2 H2 st2 x2 r2 k2 => ?_)⟩
        obtain ⟨p2, o2, e1, e2, zs, rfl, e3⟩ := r2.cell k _ k2
        rw [x2.get hp] at e1; cases e1
        exact ⟨zs, e2, e3⟩
  | d x =>
    cases x with
    | list xs =>
      cases (show Dq C.K F1 v (.list xs) from k1) with
      | lst q1 q2 => exact .inl ⟨_, _, rfl, SqL.of (r1.sub _ _ q1), h4 _ μ1 F1 H1 Ext.refl r1 (wk_list fun μ2 F2 H2 st2 x2 r2 k2 => ⟨_, r2.sub _ _ (x2.same _ _ q1), q2.same x2.same⟩)⟩
    | tuple xs =>
      cases (show Dq C.K F1 v (.tuple xs) from k1) with
      | tup q1 q2 => exact .inr (.inl ⟨_, _, rfl, SqT.rd r1.sub q1, h4 _ μ1 F1 H1 Ext.refl r1 (wk_tup q1 q2)⟩)
    | str z =>
      cases (show Dq C.K F1 v (.str z) from k1)
      exact .inr (.inr ⟨z, rfl, h4 _ μ1 F1 H1 Ext.refl r1 wk_str⟩)
    | _ => exact False.elim h4⟩
/-- range -/
def rngD (lo hi : Int) : List PyData := (List.range (hi - lo).toNat).map fun i => .int (lo + (i : Nat))
theorem wk_rng {lo : Int} {n : Nat} {g : Option (Nat × List PyData)} : Wk C.K (Itr lo n) ((List.range n).map fun i => .int (lo + (i : Nat))) g μ F := by
  refine ⟨fun i μ1 F1 H1 st1 d x1 r1 k1 e => ?_, fun μ1 F1 H1 st1 x1 r1 k1 => ?_⟩
  · rw [List.getElem?_map] at e
    obtain ⟨cc, h1, rfl⟩ := Option.map_eq_some_iff.mp e
    obtain ⟨hl, he⟩ := List.getElem?_eq_some_iff.mp h1
    rw [List.getElem_range] at he
    subst he
    rw [List.length_range] at hl
    refine ⟨hl, fun x H2 ⟨e1, e2⟩ => ?_⟩
    subst e1 e2
    exact ⟨F1, Ext.refl, r1, .int _⟩
  · show n ≤ _
    rw [List.length_map, List.length_range]
    exact Nat.le_refl _
def rOk (i j : Int) : Bool := decide (-(2 ^ 62) ≤ i) && decide (i < 2 ^ 62) && decide (-(2 ^ 62) ≤ j) && decide (j < 2 ^ 62)
def oneI (xs : List Vl) : Option Int := match xs with
  | [.d (.int j)] => some j
  | _ => none
def twoI (xs : List Vl) : Option (Int × Int) := match xs with
  | [.d (.int i), .d (.int j)] => some (i, j)
  | _ => none
theorem oneI_ok {K : Kw} {xs : List Vl} {vs : List V} {j : Int} (k : VokAll K F μ xs vs) (e : oneI xs = some j) : vs = [.int j] := by
  unfold oneI at e
  split at e
  · cases e
    obtain ⟨v, rfl, hv⟩ := k.one
    cases (show Dq K F v (.int j) from hv)
    rfl
  · cases e
def iRg1 (mas : En → Sto → Res (List Vl)) : En → Sto → Res Src := fun ρ st => (mas ρ st).bind fun xs s => match oneI xs with
  | some j => if rOk 0 j = true then .ok (rngD 0 j, none) s else .no
  | none => .no
def iRg2 (mas : En → Sto → Res (List Vl)) : En → Sto → Res Src := fun ρ st => (mas ρ st).bind fun xs s => match twoI xs with
  | some ij => if rOk ij.1 ij.2 = true then .ok (rngD ij.1 ij.2, none) s else .no
  | none => .no
variable {mas : En → Sto → Res (List Vl)}
theorem rOk_of {i j : Int} (h : rOk i j = true) : -(2 ^ 62) ≤ i ∧ i < 2 ^ 62 ∧ -(2 ^ 62) ≤ j ∧ j < 2 ^ 62 := by
  unfold rOk at h
  simp only [Bool.and_eq_true, decide_eq_true_eq] at h
  exact ⟨h.1.1.1, h.1.1.2, h.1.2, h.2⟩
theorem i_rng1 (hg : Gl X "range") (hm : X.mg "range" = none) (ha : PA X [a] (tAs C mas)) (hs : starEach [a] X.env = [(false, eval a X.env)] := by rfl) : PI X tg (.Call (.Name "range" p) [a] [] pos) (tI C (iRg1 mas)) :=
  (pi_range1 hg hm ha hs).imp fun σ H R ⟨ρ, st, μ, F, h1, h2, h3⟩ => ⟨ρ, st, μ, F, h1, h2, Post.bindA gW_lat h3 fun xs s vs μ1 F1 H1 x1 r1 k1 h4 => by
    cases q : oneI xs with
    | none => simp only [q] at h4; exact False.elim h4
    | some j =>
      simp only [q] at h4
      by_cases hr : rOk 0 j = true
      · rw [if_pos hr] at h4
        obtain ⟨_, _, q1, q2⟩ := rOk_of hr
        refine ⟨j, oneI_ok k1 q, q1, q2, h4 _ μ1 F1 H1 Ext.refl r1 ?_⟩
        show Wk C.K (Itr 0 j.toNat) (rngD 0 j) none μ1 F1
        unfold rngD
        rw [Int.sub_zero]
        exact wk_rng
      · rw [if_neg hr] at h4
        exact False.elim h4⟩
/-- list(range(..)) -/
def mLr (mi : En → Sto → Res (Int × Int)) : Ev := fun ρ st => (mi ρ st).bind fun ij s => if rOk ij.1 ij.2 = true ∧ (ij.2 - ij.1).toNat ≤ 2 ^ 24 then .ok (.n (.l (rngD ij.1 ij.2))) s else .no
end
end Cp
/-! Cp7: for, while, comprehensions. -/
namespace Cp
open PySem L2
section
variable {X : Cx} {C : Cn} {Q : VK} {μ μ1 : Mu} {F H F1 H1 : Hp} {st : Sto} {e a b c o tg iter : Expr} {m mo ma mb mc : Ev} {pos p apos cpos : Pos} {es : List Expr} {D : Ends} {s t : Stmt} {ss body : List Stmt} {sa sb : Sv}
/-! ### for -/
open Classical in
noncomputable def forGo (g : Gm) (b : Sv) (gd : Option (Nat × List PyData)) (all : List PyData) : List PyData → En → Sto → RS
  | [], ρ, st => if Grd gd all st then .nx ρ st else .no
  | d :: r, ρ, st => if Grd gd all st then (g (.d d) ρ st).toS fun ρ1 s1 => match b ρ1 s1 with
      | .nx ρ2 s2 => forGo g b gd all r ρ2 s2
      | .ct ρ2 s2 => forGo g b gd all r ρ2 s2
      | .bk ρ2 s2 => .nx ρ2 s2
      | .rt v s2 => .rt v s2
      | .er x s2 => .er x s2
      | .no => .no
    else .no
noncomputable def sFor (mi : En → Sto → Res Src) (g : Gm) (b : Sv) : Sv := fun ρ st => (mi ρ st).toS fun dg s => forGo g b dg.2 dg.1 dg.1 ρ s
theorem PostS.bindI {m : Res Src} {k : Src → Sto → RS} {R : It → Hp → Prop} (h : PostS C D μ F H (m.toS k))
    (hk : ∀ x s J μ1 F1 H1, Ext μ F H μ1 F1 H1 → SR C.K μ1 F1 H1 s → Wk C.K J x.1 x.2 μ1 F1 → PostS C D μ1 F1 H1 (k x s) → R J H1) : Post C (gW C R) μ F H m := by
  cases m with
  | ok x s => exact fun J μ1 F1 H1 e s1 w => hk x s J μ1 F1 H1 e s1 w (PostS.later e h)
  | er e s => exact h
  | no => exact h
theorem PostS.bindG {m : Res En} {k : En → Sto → RS} {ws : List Nat} {σ : St} {P : St → Hp → Prop} (h : PostS C D μ F H (m.toS k))
    (hk : ∀ ρ s σ' μ1 F1 H1, Ext μ F H μ1 F1 H1 → SR C.K μ1 F1 H1 s → Eok C.K F1 μ1 ρ σ' → Agr ws σ σ' → PostS C D μ1 F1 H1 (k ρ s) → P σ' H1) : Post C (gG C ws σ P) μ F H m := by
  cases m with
  | ok x s => exact fun σ' μ1 F1 H1 e s1 k1 a => hk x s σ' μ1 F1 H1 e s1 k1 a (PostS.later e h)
  | er e s => exact h
  | no => exact h
theorem drop_cons {α : Type} : ∀ {l : List α} {i : Nat} (h : i < l.length), ∃ d, l[i]? = some d ∧ l.drop i = d :: l.drop (i + 1)
  | x :: l, 0, _ => ⟨x, rfl, rfl⟩
  | x :: l, i + 1, h => by
    obtain ⟨d, h1, h2⟩ := drop_cons (l := l) (i := i) (by simpa using h)
    exact ⟨d, by simpa using h1, by simpa using h2⟩
theorem x_for {mi : En → Sto → Res Src} {ws : List Nat} {g : Gm} (hp : PassesOwn (model X.prog X.w) X.A X.env X.xe) (hc : X.calm = true) (hi : PI X tg iter (tI C mi)) (hg : PG X tg (tG C ws g)) (hb : PSs X body (tS C sb))
    (hs : ∀ x, foldedSetIterable iter X.env x = pure x := by intro _; rfl) (fl : C.Flat := by exact fun _ _ _ _ _ h => h) : PS X (.For tg iter body [] pos) (tS C (sFor mi g sb)) := (ps_for hp hc hi hg hb hs).imp fun D σ0 H ⟨ρ, st, μ, F, h1, h2, h3⟩ => by
  refine ⟨ρ, st, μ, F, h1, h2, PostS.bindI h3 fun dg s J μ' F' Hs x0 r0 wk h4 => ?_⟩
  obtain ⟨ds, gd⟩ := dg
  refine ⟨fun i m σ H => m = ds.length - i ∧ i ≤ ds.length ∧ ∃ ρ1 st1 μ1 F1, Ext μ' F' Hs μ1 F1 H ∧ SR C.K μ1 F1 H st1 ∧ Eok C.K F1 μ1 ρ1 σ ∧ PostS (C.at σ0) D μ1 F1 H (forGo g sb gd ds (ds.drop i) ρ1 st1),
    ⟨ds.length, rfl, Nat.zero_le _, ρ, s, μ', F', Ext.refl, r0, h1.ext x0, h4⟩, ?_⟩
  rintro i m σ H ⟨rfl, hi, ρ1, st1, μ1, F1, x1, r1, k1, h5⟩
  by_cases hl : i < ds.length
  · obtain ⟨d, e1, e2⟩ := drop_cons hl
    rw [e2] at h5
    unfold forGo at h5
    by_cases hgd : Grd gd ds st1
    · rw [if_pos hgd] at h5
      obtain ⟨go, step⟩ := wk.go i μ1 F1 H st1 d x1.sx r1 hgd e1
      refine .inr ⟨go, fun σ' H' => ∃ ρ2 st2 μ2 F2, Ext μ' F' Hs μ2 F2 H' ∧ SR C.K μ2 F2 H' st2 ∧ Eok C.K F2 μ2 ρ2 σ' ∧ PostS (C.at σ0) D μ2 F2 H' (forGo g sb gd ds (ds.drop (i + 1)) ρ2 st2),
        fun σ' H' hn => ⟨ds.length - (i + 1), by omega, rfl, hl, hn⟩, fun x H2 y => ?_⟩
      obtain ⟨F2, x2, r2, kd⟩ := step x H2 y
      refine ⟨ρ1, st1, μ1, F2, .d d, k1.ext x2, r2, kd, PostS.bindG (C := C.at σ) (PostS.flat fl (PostS.later x2 h5)) fun ρ2 s2 σ2 μ3 F3 H3 x3 r3 k3 ag h6 => ⟨ρ2, s2, μ3, F3, k3, r3, ?_⟩⟩
      have h6 := PostS.flat (σ' := σ2) fl h6
      show PostS (C.at σ2) _ μ3 F3 H3 (sb ρ2 s2)
      cases q : sb ρ2 s2 with
      | nx ρ4 s4 => simp only [q] at h6; exact fun σ4 μ4 F4 H4 x4 r4 k4 => ⟨ρ4, s4, μ4, F4, ((x1.trans x2).trans x3).trans x4, r4, k4, PostS.flat fl (PostS.later x4 h6)⟩
      | ct ρ4 s4 => simp only [q] at h6; exact fun σ4 μ4 F4 H4 x4 r4 k4 => ⟨ρ4, s4, μ4, F4, ((x1.trans x2).trans x3).trans x4, r4, k4, PostS.flat fl (PostS.later x4 h6)⟩
      | bk ρ4 s4 => simp only [q] at h6; exact h6
      | rt v s4 => simp only [q] at h6; exact h6
      | er v s4 => simp only [q] at h6; exact h6
      | no => simp only [q] at h6; exact h6
    · rw [if_neg hgd] at h5; exact False.elim h5
  · have e : i = ds.length := by omega
    subst e
    rw [List.drop_length] at h5
    unfold forGo at h5
    by_cases hgd : Grd gd ds st1
    · rw [if_pos hgd] at h5
      exact .inl ⟨wk.stop μ1 F1 H st1 x1.sx r1 hgd, h5 σ μ1 F1 H Ext.refl r1 k1⟩
    · rw [if_neg hgd] at h5; exact False.elim h5
/-! ### while: at most n turns -/
def whGo (c : En → Sto → Res Bool) (b : Sv) : Nat → Sv
  | 0, _, _ => .no
  | n + 1, ρ, st => (c ρ st).toS fun k s => if k = true then (match b ρ s with
      | .nx ρ2 s2 => whGo c b n ρ2 s2
      | .ct ρ2 s2 => whGo c b n ρ2 s2
      | .bk ρ2 s2 => .nx ρ2 s2
      | .rt v s2 => .rt v s2
      | .er x s2 => .er x s2
      | .no => .no) else .nx ρ s
theorem x_while {bc : En → Sto → Res Bool} (n : Nat) (hp : PassesOwn (model X.prog X.w) X.A X.env X.xe) (hc : PT X c (tT C bc)) (hb : PSs X body (tS C sb)) (fl : C.Flat := by exact fun _ _ _ _ _ h => h) : PS X (.While c body [] pos) (tS C (whGo bc sb n)) := (ps_while hp hc hb).imp fun D σ0 H ⟨ρ, st, μ, F, h1, h2, h3⟩ => by
  refine ⟨fun m σ' H' => ∃ ρ1 st1 μ1 F1, SR C.K μ1 F1 H' st1 ∧ Eok C.K F1 μ1 ρ1 σ' ∧ PostS (C.at σ0) D μ1 F1 H' (whGo bc sb m ρ1 st1), ⟨n, ρ, st, μ, F, h2, h1, h3⟩, ?_⟩
  rintro m σ1 H1 ⟨ρ1, st1, μ1, F1, r1, k1, h4⟩
  cases m with
  | zero => exact False.elim h4
  | succ m =>
    unfold whGo at h4
    refine ⟨ρ1, st1, μ1, F1, k1, r1, PostS.bindB (C := C.at σ1) (PostS.flat fl h4) fun k s2 μ2 F2 H2 x2 r2 h5 => ?_⟩
    cases k with
    | false => simp only [Bool.false_eq_true, if_false] at h5 ⊢; exact h5 σ1 μ2 F2 H2 Ext.refl r2 (k1.ext x2)
    | true =>
      simp only [if_true] at h5 ⊢
      refine ⟨fun σ' H' => ∃ ρ1 st1 μ1 F1, SR C.K μ1 F1 H' st1 ∧ Eok C.K F1 μ1 ρ1 σ' ∧ PostS (C.at σ0) D μ1 F1 H' (whGo bc sb m ρ1 st1), fun σ' H' hn => ⟨m, Nat.lt_succ_self _, hn⟩, ρ1, s2, μ2, F2, k1.ext x2, r2, ?_⟩
      show PostS (C.at σ1) _ μ2 F2 H2 (sb ρ1 s2)
      cases q : sb ρ1 s2 with
      | nx ρ4 s4 => simp only [q] at h5; exact fun σ4 μ4 F4 H4 x4 r4 k4 => ⟨ρ4, s4, μ4, F4, r4, k4, PostS.flat fl (PostS.later x4 h5)⟩
      | ct ρ4 s4 => simp only [q] at h5; exact fun σ4 μ4 F4 H4 x4 r4 k4 => ⟨ρ4, s4, μ4, F4, r4, k4, PostS.flat fl (PostS.later x4 h5)⟩
      | bk ρ4 s4 => simp only [q] at h5; exact h5
      | rt v s4 => simp only [q] at h5; exact h5
      | er v s4 => simp only [q] at h5; exact h5
      | no => simp only [q] at h5; exact h5
/-! ### comprehensions -/
def wipeE (ρ : En) : List Nat → En
  | [] => ρ
  | v :: vs => (wipeE ρ vs).set v none
theorem wipeE_len (ρ : En) : ∀ vs : List Nat, (wipeE ρ vs).length = ρ.length
  | [] => rfl
  | v :: vs => by unfold wipeE; rw [List.length_set, wipeE_len ρ vs]
theorem eok_wipe {K : Kw} {ρ : En} {σ : St} (h : Eok K F μ ρ σ) : ∀ vs : List Nat, Eok K F μ (wipeE ρ vs) (wipe σ vs)
  | [] => h
  | v :: vs => by
    have ih := eok_wipe h vs
    refine ⟨by rw [wipeE_len, wipe_length]; exact h.1, fun j y e => ?_⟩
    unfold wipeE at e
    unfold wipe
    by_cases hj : v = j
    · subst hj
      by_cases hv : v < (wipeE ρ vs).length
      · rw [List.getElem?_set_self hv] at e; cases e
      · rw [List.getElem?_eq_none (by simpa using hv)] at e; cases e
    · rw [List.getElem?_set_ne hj] at e
      obtain ⟨w, h1, h2⟩ := ih.2 j y e
      exact ⟨w, by rw [List.getElem?_set_ne hj]; exact h1, h2⟩
theorem wipe_agr {σ σ' : St} {ws vs : List Nat} (a : Agr ws (wipe σ vs) σ') (hv : ∀ i, i ∈ ws → i ∈ vs) : wipe σ' vs = wipe σ vs := by
  have key : ∀ {τ : St} {us : List Nat} {j : Nat}, (wipe τ us)[j]? = if j ∈ us then (if j < τ.length then some none else none) else τ[j]? := by
    intro τ us
    induction us with
    | nil => intro j; simp [wipe]
    | cons u us ih =>
      intro j
      unfold wipe
      by_cases hj : u = j
      · subst hj
        rw [if_pos (by simp)]
        by_cases hl : u < τ.length
        · rw [List.getElem?_set_self (by rw [wipe_length]; exact hl), if_pos hl]
        · rw [List.getElem?_eq_none (by rw [List.length_set, wipe_length]; omega), if_neg hl]
      · rw [List.getElem?_set_ne hj, ih]
        by_cases hm : j ∈ us
        · rw [if_pos hm, if_pos (List.mem_cons_of_mem u hm)]
        · rw [if_neg hm, if_neg (fun z => (List.mem_cons.mp z).elim (fun e => hj e.symm) hm)]
  have hl : σ'.length = σ.length := by rw [a.1, wipe_length]
  apply List.ext_getElem?
  intro j
  rw [key, key, hl]
  by_cases hm : j ∈ vs
  · rw [if_pos hm, if_pos hm]
  · rw [if_neg hm, if_neg hm, a.2 j (fun z => hm (hv j z)), key, if_neg hm]
/-- within a comprehension no error leaves -/
def Cn.quiet (C : Cn) : Cn := { C with W := fun _ _ _ _ => False }
open Classical in
noncomputable def lcGo (g : Gm) (tt : En → Sto → Res Bool) (te : Ev) (gd : Option (Nat × List PyData)) (all : List PyData) (ρ : En) : List PyData → Sto → List PyData → Res (List PyData)
  | [], st, acc => if Grd gd all st then .ok acc st else .no
  | d :: r, st, acc => if Grd gd all st then (match g (.d d) ρ st with
      | .ok ρ1 s1 => match tt ρ1 s1 with
        | .ok true s2 => match mV te ρ1 s2 with
          | .ok (.d y) s3 => if acc.length < sizeLine then lcGo g tt te gd all ρ r s3 (acc ++ [y]) else .no
          | _ => .no
        | .ok false s2 => lcGo g tt te gd all ρ r s2 acc
        | _ => .no
      | _ => .no) else .no
noncomputable def mLc (mi : En → Sto → Res Src) (g : Gm) (tt : En → Sto → Res Bool) (te : Ev) (vs : List Nat) : Ev := fun ρ st => (mi ρ st).bind fun dg s => (lcGo g tt te dg.2 dg.1 (wipeE ρ vs) dg.1 s []).bind fun ys s' => .ok (.n (.l ys)) s'
theorem Post.bindI {β : Type} {G : β → Sto → Mu → Hp → Hp → Prop} (gl : Lat G) {m : Res Src} {k : Src → Sto → Res β} {R : It → Hp → Prop} (h : Post C G μ F H (m.bind k))
    (hk : ∀ x s J μ1 F1 H1, Ext μ F H μ1 F1 H1 → SR C.K μ1 F1 H1 s → Wk C.K J x.1 x.2 μ1 F1 → Post C G μ1 F1 H1 (k x s) → R J H1) : Post C (gW C R) μ F H m := by
  cases m with
  | ok x s => exact fun J μ1 F1 H1 e s1 w => hk x s J μ1 F1 H1 e s1 w (Post.later gl e h)
  | er e s => exact h
  | no => exact h
/-- the new list at L within: an object of nobody's is written -/
theorem SR.out {K : Kw} (s : SR K μ F H st) {L : Addr} {u : HO} (hF : F L = none) (hm : L ∉ μ) : SR K μ F (upd H L u) st := by
  refine ⟨s.nd, s.len, s.sep, fun b o h => ?_, fun i c i0 h => ?_, s.obs_kept fun j a hj o ho => ?_⟩
  · rw [upd_ne (fun z => by subst z; rw [hF] at h; cases h)]; exact s.sub b o h
  · obtain ⟨p, o, h1, h2, h3⟩ := s.cell0 i c i0 h
    refine ⟨p, o, h1, ?_, h3⟩
    rw [upd_ne (fun z => ?_)]; exact h2
    subst z
    exact hm (Mu.mem_l h1 i0)
  · rw [upd_ne (fun z => by subst z; exact hm (Mu.mem_η hj))]; exact ho
theorem Ext.out (x : Ext μ F H μ1 F1 H1) {L : Addr} {u : HO} (h0 : H L = none) (h1 : H1 L ≠ none ∨ True) : Ext μ F H μ1 F1 (upd H1 L u) := by
  refine ⟨x.same, x.pre, x.preη, fun b o h n => ?_, fun b h => ?_, x.nF, x.nC⟩
  · rw [upd_ne (fun z => by subst z; rw [h0] at h; cases h)]; exact x.fr b o h n
  · by_cases e : b = L
    · subst e; exact h0
    · rw [upd_ne e] at h; exact x.dom b h
/-- what is in nobody's hands stays so -/
theorem Ext.keepOut {L : Addr} {u : HO} (x : Ext μ F H μ1 F1 H1) (h : H L = some u) (hF : F L = none) (hm : L ∉ μ) : H1 L = some u ∧ F1 L = none ∧ L ∉ μ1 := by
  refine ⟨x.fr L u h hm, ?_, fun z => ?_⟩
  · cases q : F1 L with
    | none => rfl
    | some o =>
      rcases x.nF L o q with z | z | z
      · rw [hF] at z; cases z
      · rw [h] at z; cases z
      · exact absurd z hm
  · rcases x.nC L z with z | z
    · exact hm z
    · rw [h] at z; cases z
abbrev Blk (X : Cx) (scope : Scope) (J : Cx → Prop) : Prop := ∀ (s : Shared) (H : Hp) (A : Addr) (cl : List (Str × Addr)) (fp : List Addr), J (X.blk s H scope (compEnvC scope cl A X.env) fp)
/-- the state within a comprehension's loop: the list L so far -/
structure LcI (C : Cn) (μ' : Mu) (F' H' : Hp) (L : Addr) (ρ : En) (σ : St) (acc : List PyData) (H : Hp) (st : Sto) (μ1 : Mu) (F1 : Hp) : Prop where
  x : Ext μ' F' H' μ1 F1 H
  r : SR C.K μ1 F1 H st
  k : Eok C.K F1 μ1 ρ σ
  l : ∃ xs, H L = some (.lst xs) ∧ DqAll C.K F1 xs acc
  f : F1 L = none
  m : L ∉ μ1
theorem LcI.later {C : Cn} {μ' : Mu} {F' H' : Hp} {L : Addr} {ρ : En} {σ : St} {acc : List PyData} {μ2 : Mu} {F2 H2 : Hp} {st2 : Sto} (i : LcI C μ' F' H' L ρ σ acc H st μ1 F1) (x : Ext μ1 F1 H μ2 F2 H2) (r : SR C.K μ2 F2 H2 st2) : LcI C μ' F' H' L ρ σ acc H2 st2 μ2 F2 := by
  obtain ⟨xs, h1, h2⟩ := i.l
  obtain ⟨k1, k2, k3⟩ := x.keepOut h1 i.f i.m
  exact ⟨i.x.trans x, r, i.k.ext x, ⟨xs, k1, h2.same x.same⟩, k2, k3⟩
theorem LcI.put {C : Cn} {μ' : Mu} {F' H' : Hp} {L : Addr} {ρ : En} {σ : St} {acc : List PyData} {y : PyData} {v : V} (h0 : H' L = none) (i : LcI C μ' F' H' L ρ σ acc H st μ1 F1) (hv : Dq C.K F1 v y) :
    ∃ xs, H L = some (.lst xs) ∧ xs.length = acc.length ∧ LcI C μ' F' H' L ρ σ (acc ++ [y]) (upd H L (.lst (xs ++ [v]))) st μ1 F1 := by
  obtain ⟨xs, h1, h2⟩ := i.l
  exact ⟨xs, h1, h2.length, i.x.out h0 (.inr trivial), i.r.out i.f i.m, i.k, ⟨_, upd_same, h2.app (.cons hv .nil)⟩, i.f, i.m⟩
theorem s_lcT {scope : Scope} {own : List (Str × Nat)} {mi : En → Sto → Res Src} {ws : List Nat} {g : Gm} {tt : En → Sto → Res Bool} {te : Ev} (hws : ∀ i, i ∈ ws → i ∈ own.map (·.2)) (σ : St) (H : Hp) (Q : VK) (h : tM C (mLc mi g tt te (own.map (·.2))) σ H Q) :
    tLc (tI C mi) (tG C.quiet ws g) (tT C.quiet tt) (tV C.quiet (mV te)) (own.map (·.2)) σ H Q := by
  obtain ⟨ρ, st, μ, F, h1, h2, h3⟩ := h
  refine ⟨ρ, st, μ, F, h1, h2, Post.bindI gE_lat h3 fun dg s J μ' F' H' x0 r0 wk h4 L hL => ?_⟩
  obtain ⟨ds, gd⟩ := dg
  obtain ⟨rn, xn⟩ := r0.newly (o := .lst []) hL
  have dd := r0.dead hL
  refine ⟨fun i m H => m = ds.length - i ∧ i ≤ ds.length ∧ ∃ acc st1 μ1 F1, LcI C μ' F' H' L (wipeE ρ (own.map (·.2))) (wipe σ (own.map (·.2))) acc H st1 μ1 F1 ∧
      PostE (C.at σ) Q μ' F' H' ((lcGo g tt te gd ds (wipeE ρ (own.map (·.2))) (ds.drop i) st1 acc).bind fun ys s' => .ok (.n (.l ys)) s'),
    ⟨ds.length, rfl, Nat.zero_le _, [], s, μ', F', ⟨xn, rn, (eok_wipe (h1.ext x0) _), ⟨[], upd_same, .nil⟩, dd.1, dd.2⟩, h4⟩, ?_⟩
  rintro i m H ⟨rfl, hi, acc, st1, μ1, F1, I, h5⟩
  by_cases hl : i < ds.length
  · obtain ⟨d, e1, e2⟩ := drop_cons hl
    rw [e2] at h5
    unfold lcGo at h5
    by_cases hgd : Grd gd ds st1
    · rw [if_pos hgd] at h5
      obtain ⟨go, step⟩ := wk.go i μ1 F1 H st1 d I.x.sx I.r hgd e1
      refine .inr ⟨go, fun H2 => ∃ acc st1 μ1 F1, LcI C μ' F' H' L (wipeE ρ (own.map (·.2))) (wipe σ (own.map (·.2))) acc H2 st1 μ1 F1 ∧
        PostE (C.at σ) Q μ' F' H' ((lcGo g tt te gd ds (wipeE ρ (own.map (·.2))) (ds.drop (i + 1)) st1 acc).bind fun ys s' => .ok (.n (.l ys)) s'), fun H2 hn => ⟨ds.length - (i + 1), by omega, rfl, hl, hn⟩, fun x H2 y => ?_⟩
      obtain ⟨F2, x2, r2, kd⟩ := step x H2 y
      have I2 := I.later x2 r2
      refine ⟨_, st1, μ1, F2, .d d, I2.k, r2, kd, ?_⟩
      show Post (C.quiet.at _) _ μ1 F2 H2 (g (.d d) (wipeE ρ (own.map (·.2))) st1)
      cases q : g (.d d) (wipeE ρ (own.map (·.2))) st1 with
      | no => simp only [q] at h5; exact False.elim h5
      | er _ _ => simp only [q] at h5; exact False.elim h5
      | ok ρ2 s2 =>
        simp only [q] at h5
        intro σ3 μ3 F3 H3 x3 r3 k3 ag
        have I3 := I2.later x3 r3
        refine ⟨wipe_agr ag hws, ρ2, s2, μ3, F3, k3, r3, ?_⟩
        show Post (C.quiet.at _) _ μ3 F3 H3 (tt ρ2 s2)
        cases q2 : tt ρ2 s2 with
        | no => simp only [q2] at h5; exact False.elim h5
        | er _ _ => simp only [q2] at h5; exact False.elim h5
        | ok k s3 =>
          intro μ4 F4 H4 x4 r4
          have I4 := I3.later x4 r4
          cases k with
          | false =>
            simp only [q2] at h5
            simp only [Bool.false_eq_true, if_false]
            exact ⟨acc, s3, μ4, F4, I4, h5⟩
          | true =>
            simp only [q2] at h5
            simp only [if_true]
            refine ⟨ρ2, s3, μ4, F4, k3.ext x4, r4, ?_⟩
            show Post (C.quiet.at _) _ μ4 F4 H4 (mV te ρ2 s3)
            cases q3 : mV te ρ2 s3 with
            | no => simp only [q3] at h5; exact False.elim h5
            | er _ _ => simp only [q3] at h5; exact False.elim h5
            | ok z s4 =>
              intro v μ5 F5 H5 x5 r5 k5
              have I5 := I4.later x5 r5
              cases z with
              | c _ => simp only [q3] at h5; exact False.elim h5
              | s _ => simp only [q3] at h5; exact False.elim h5
              | o _ => simp only [q3] at h5; exact False.elim h5
              | d y =>
                simp only [q3] at h5
                by_cases hz : acc.length < sizeLine
                · rw [if_pos hz] at h5
                  obtain ⟨xs, g1, g2, g3⟩ := I5.put hL k5
                  exact ⟨xs, g1, by rw [g2]; exact hz, acc ++ [y], s4, μ5, F5, g3, h5⟩
                · rw [if_neg hz] at h5; exact False.elim h5
    · rw [if_neg hgd] at h5; exact False.elim h5
  · have e : i = ds.length := by omega
    subst e
    rw [List.drop_length] at h5
    unfold lcGo at h5
    by_cases hgd : Grd gd ds st1
    · rw [if_pos hgd] at h5
      obtain ⟨xs, g1, g2⟩ := I.l
      exact .inl ⟨wk.stop μ1 F1 H st1 I.x.sx I.r hgd, h5 _ μ1 F1 H ⟨I.x, I.r, ⟨L, _, rfl, g1, ⟨xs, rfl, g2⟩, I.f, I.m⟩, fun c _ => ⟨L, rfl, hL⟩⟩⟩
    · rw [if_neg hgd] at h5; exact False.elim h5
theorem s_lc {scope : Scope} {own : List (Str × Nat)} {ifs : List Expr} {mi : En → Sto → Res Src} {ws : List Nat} {g : Gm} {tt : En → Sto → Res Bool} {te : Ev} (hc : X.calm = true) (hN : X.N.Nodup) (hi : PI X tg iter (tI C mi)) (ok : BlkOk X.N X.env.scope scope own)
    (hg : Blk X scope fun Y => PG Y tg (tG C.quiet ws g)) (ht : Blk X scope fun Y => PTs Y ifs (tT C.quiet tt)) (he : Blk X scope fun Y => PE Y e (tM C.quiet te)) (hws : ∀ i, i ∈ ws → i ∈ own.map (·.2)) (hs : ∀ x, foldedSetIterable iter X.env x = pure x := by intro _; rfl) :
    PE X (.ListComp e [⟨tg, iter, ifs, 0⟩] scope pos) (tM C (mLc mi g tt te (own.map (·.2)))) :=
  (pe_lc hc hN hi ok (fun s H A cl fp => hg s H A cl fp) (fun s H A cl fp => ht s H A cl fp) (fun s H A cl fp => pv_frz (he s H A cl fp)) hs).imp fun σ H Q h => s_lcT (scope := scope) hws σ H Q h
def ttY : En → Sto → Res Bool := fun _ st => .ok true st
theorem pts_yes : PTs X [] (tT C ttY) := ⟨fun pins s σ H Q I ⟨ρ, st, μ, F, h1, h2, h3⟩ => pts_nil.run pins s σ H Q I (h3 μ F H Ext.refl h2)⟩
end
end Cp
/-! Cp8: comprehensions of two clauses. -/
namespace Cp
open PySem L2
section
variable {X : Cx} {C : Cn} {Q : VK} {μ μ1 : Mu} {F H F1 H1 : Hp} {st : Sto} {e tg iter tg1 iter1 : Expr} {pos : Pos} {D : Ends}
open Classical in
noncomputable def lc2Go (g : Gm) (tt : En → Sto → Res Bool) (mi1 : En → Sto → Res Src) (g1 : Gm) (tt1 : En → Sto → Res Bool) (te : Ev) (gd : Option (Nat × List PyData)) (all : List PyData) (vs1 : List Nat) (ρ : En) : List PyData → Sto → List PyData → Res (List PyData)
  | [], st, acc => if Grd gd all st then .ok acc st else .no
  | d :: r, st, acc => if Grd gd all st then (match g (.d d) ρ st with
      | .ok ρ1 s1 => match tt ρ1 s1 with
        | .ok true s2 => match mi1 ρ1 s2 with
          | .ok dg s3 => match lcGo g1 tt1 te dg.2 dg.1 (wipeE ρ1 vs1) dg.1 s3 acc with
            | .ok acc' s4 => lc2Go g tt mi1 g1 tt1 te gd all vs1 ρ r s4 acc'
            | _ => .no
          | _ => .no
        | .ok false s2 => lc2Go g tt mi1 g1 tt1 te gd all vs1 ρ r s2 acc
        | _ => .no
      | _ => .no) else .no
noncomputable def mLc2 (mi : En → Sto → Res Src) (g : Gm) (tt : En → Sto → Res Bool) (mi1 : En → Sto → Res Src) (g1 : Gm) (tt1 : En → Sto → Res Bool) (te : Ev) (vs vs1 : List Nat) : Ev := fun ρ st => (mi ρ st).bind fun dg s => (lc2Go g tt mi1 g1 tt1 te dg.2 dg.1 vs1 (wipeE ρ vs) dg.1 s []).bind fun ys s' => .ok (.n (.l ys)) s'
theorem Eok.sx {K : Kw} (a : Sx μ F μ1 F1) {ρ : En} {σ : St} (h : Eok K F μ ρ σ) : Eok K F1 μ1 ρ σ :=
  ⟨h.1, fun i x e => let ⟨v, h1, h2⟩ := h.2 i x e; ⟨v, h1, by
    cases x with
    | d x => exact Dq.same a.same h2
    | c i => obtain ⟨p, h3, h4⟩ := h2; exact ⟨p, a.get h3, h4⟩
    | s ns => obtain ⟨p, h3, h4⟩ := h2; exact ⟨p, h3, a.same.seq h4⟩
    | o x =>
      obtain ⟨r, e⟩ := a.preη
      show ObOk K F1 μ1.η x v
      rw [e]
      exact ObOk.same r a.same h2⟩⟩
end
end Cp
/-! Cp9: what a def means, and its call. -/
namespace Cp
open PySem L2
abbrev Fs := List Vl → Sto → Res Rv
/-- room for k calls, and nothing is being shown -/
structure Rm (k : Nat) (A : Around) : Prop where
  room : Room k A
  gd : A.guards = some []
theorem Rm.mono {j k : Nat} {A : Around} (r : Rm k A) (h : j ≤ k) : Rm j A := ⟨r.room.mono h, r.gd⟩
theorem Rm.hu {k : Nat} {A : Around} (r : Rm k A) : A.units + 64 < cLine := r.room.units
/-- a def's promise out of its meaning -/
def spF (K : Kw) (mg : Str → Option Value) (sem : Fs) : Sp := fun vs H Q E => ∃ args st μ F, VokAll K F μ args vs ∧ SR K μ F H st ∧ PostE (Cn.ofE K mg E) Q μ F H (sem args st)
structure FnC (P : Program) (w : World) (K : PySem.W.Frag) (mg : Str → Option Value) (base : Heap) (k : Nat) (f : Addr) (fd : FuncData) (ps : List Str) (sem : Fs) : Prop where
  len : ∀ vs H Q E, spF ⟨K, w⟩ mg sem vs H Q E → vs.length = ps.length
  run : ∀ (A : Around) (outer : List Env) (s : Shared) (H : Hp) (args : Args) (us : List Value) (vs : List V) (Q : VK) (E : XK), Rm k A → Env0 P w K mg base A outer s H → BindsTo s fd args (ps.zip us) → Vals vs us → spF ⟨K, w⟩ mg sem vs H Q E →
    codeAny (model P w) A (.call (.ref f) args) (CR (L2.CX P w) outer P w H s Q E) s
/-- a def that is known by its name -/
def Kn (P : Program) (w : World) (K : PySem.W.Frag) (mg : Str → Option Value) (base : Heap) (x : Str) (k : Nat) (sem : Fs) : Prop :=
  ∃ f fd ps, mg x = some (.ref f) ∧ PySem.W.keepIn K (.ref f) = true ∧ Binds K fd ps [] ∧ FnC P w K mg base k f fd ps sem
section
variable {P : Program} {w : World} {K : PySem.W.Frag} {mg : Str → Option Value} {base : Heap} {x : Str} {k j : Nat} {sem : Fs}
theorem Kn.mono (h : Kn P w K mg base x j sem) (hk : j ≤ k) : Kn P w K mg base x k sem := by
  obtain ⟨f, fd, ps, h1, h2, h3, G⟩ := h
  exact ⟨f, fd, ps, h1, h2, h3, G.len, fun A outer s H args us vs Q E r => G.run A outer s H args us vs Q E (r.mono hk)⟩
/-- a meaning that says less -/
theorem Kn.less {sem' : Fs} (h : Kn P w K mg base x k sem) (hs : ∀ args st, sem' args st = .no ∨ sem' args st = sem args st) : Kn P w K mg base x k sem' := by
  obtain ⟨f, fd, ps, h1, h2, h3, G⟩ := h
  have go : ∀ {vs H Q E}, spF ⟨K, w⟩ mg sem' vs H Q E → spF ⟨K, w⟩ mg sem vs H Q E := fun {vs H Q E} ⟨args, st, μ, F, a, b, c⟩ => ⟨args, st, μ, F, a, b, by
    rcases hs args st with e | e
    · rw [e] at c; exact False.elim c
    · rw [e] at c; exact c⟩
  exact ⟨f, fd, ps, h1, h2, h3, fun vs H Q E h => G.len vs H Q E (go h), fun A outer s H args us vs Q E r e0 b v h => G.run A outer s H args us vs Q E r e0 b v (go h)⟩
end
/-! ### the call -/
def gcR (n : Nat) : Res Rv → Res Rv
  | .ok r s => match r with
    | .d x => .ok (.d x) (s.take n)
    | .s ns => .ok (.s ns) (s.take n)
    | .o x => .ok (.o x) (s.take n)
    | .n c => .ok (.n c) (s.take n)
    | .c i => if i < n then .ok (.c i) (s.take n) else match s[i]? with
      | some c => if isGone c = true then .no else .ok (.n c) (s.take n)
      | none => .no
  | .er e s => .er e (s.take n)
  | .no => .no
def mCall (sem : Fs) (mas : En → Sto → Res (List Vl)) : Ev := fun ρ st => (mas ρ st).bind fun xs s => gcR st.length (sem xs s)
/-- what a body's rules ask of where it stands -/
structure Bd (k : Nat) (X : Cx) (C : Cn) : Prop where
  cm : X.calm = true
  nd : X.N.Nodup
  hp : PassesOwn (model X.prog X.w) X.A X.env X.xe
  ps : ∀ σ, PassesAt (L2.CX X.prog X.w) X σ (C.at σ).E
  hK : C.K.K = X.K
  hw : C.K.w = X.w
  hm : C.mg = X.mg
  rm : Rm k X.A
  tk : Takes X C.W
theorem Bd.blk {k : Nat} {X : Cx} {C : Cn} (B : Bd k X C) (s : Shared) (H : Hp) (scope : Scope) (e : Env) (fp : List Addr) : Bd k (X.blk s H scope e fp) C.quiet :=
  ⟨B.cm, B.nd, PassesOwn.never, fun _ _ _ _ _ _ _ z => passL _ _ _ _ _ _ (by assumption) z, B.hK, B.hw, B.hm, B.rm, fun _ _ ⟨_, _, _, _, _, _, _, _, _, _, _, _, _, _, _, _, w⟩ => False.elim w⟩
theorem call_post {C : Cn} {Q : VK} {μ μ1 : Mu} {F H F1 H1 : Hp} {st : Sto} {r : Res Rv} (h0 : SR C.K μ F H st) (x : Ext μ F H μ1 F1 H1) (h : PostE C Q μ F H (gcR st.length r)) : PostE C Q μ1 F1 H1 r := by
  cases r with
  | no => exact h
  | er e s2 =>
    intro cls dd μ2 F2 H2 y r2 k
    obtain ⟨c1, c2, c3⟩ := r2.cut (x.trans y) st.length h0.len h0.pos
    exact h cls dd _ F2 H2 c2 c1 k
  | ok r s2 =>
    intro v μ2 F2 H2 o
    obtain ⟨y, r2, ok, new⟩ := o
    have z := x.trans y
    obtain ⟨c1, c2, c3⟩ := r2.cut z st.length h0.len h0.pos
    cases r with
    | d d => exact h v _ F2 H2 ⟨c2, c1, ok, fun _ e => nomatch e⟩
    | s ns => exact h v _ F2 H2 ⟨c2, c1, ok, fun _ e => nomatch e⟩
    | o x => exact h v _ F2 H2 ⟨c2, c1, ok, fun _ e => nomatch e⟩
    | n c =>
      obtain ⟨a, o, rfl, g1, g2, g3, g4⟩ := ok
      obtain ⟨a', e1, g5⟩ := new c rfl
      cases e1
      refine h _ _ F2 H2 ⟨c2, c1, ⟨a, o, rfl, g1, g2, g3, fun hm => g4 ?_⟩, fun _ _ => ⟨a, rfl, x.dom a g5⟩⟩
      rcases hm with hm | hm
      · obtain ⟨i, hi, q⟩ := List.getElem_of_mem hm
        have q2 : (μ2.l.take st.length).tail[i]? = some a := (List.getElem?_eq_getElem hi).trans (congrArg some q)
        rw [List.getElem?_tail] at q2
        have hi2 : i + 1 < st.length := by
          have := (List.getElem?_eq_some_iff.mp q2).1
          rw [List.length_take] at this; omega
        rw [List.getElem?_take_of_lt hi2] at q2
        exact Mu.mem_l q2 (by omega)
      · exact .inr hm
    | c i =>
      obtain ⟨a, ha, rfl⟩ := ok
      simp only [gcR] at h
      by_cases hi : i < st.length
      · rw [if_pos hi] at h
        exact h _ _ F2 H2 ⟨c2, c1, ⟨a, by show (μ2.l.take st.length)[i]? = _; rw [List.getElem?_take_of_lt hi]; exact ha, rfl⟩, fun _ e => nomatch e⟩
      · rw [if_neg hi] at h
        cases q : s2[i]? with
        | none => simp only [q] at h; exact False.elim h
        | some cl =>
          simp only [q] at h
          have hz : isGone cl = false := by
            cases e : isGone cl with
            | false => rfl
            | true => rw [if_pos e] at h; exact False.elim h
          rw [if_neg (by rw [hz]; exact Bool.false_ne_true)] at h
          obtain ⟨b, o, g1, g2, g3⟩ := r2.cell i cl q hz
          rw [ha] at g1; cases g1
          have i0 := r2.ne0 q hz
          have hmem : a ∈ μ2 := Mu.mem_l ha i0
          have hn : a ∉ μ2.take st.length := fun hm => by
            rcases hm with hm | hm
            · obtain ⟨j, hj, e⟩ := List.getElem_of_mem hm
              have q2 : (μ2.l.take st.length).tail[j]? = some a := (List.getElem?_eq_getElem hj).trans (congrArg some e)
              rw [List.getElem?_tail] at q2
              have hj2 : j + 1 < st.length := by
                have := (List.getElem?_eq_some_iff.mp q2).1
                rw [List.length_take] at this; omega
              rw [List.getElem?_take_of_lt hj2] at q2
              have := r2.one ha q2 i0 (by omega)
              omega
            · obtain ⟨j, hj, e⟩ := List.getElem_of_mem hm
              exact r2.apart ha ((List.getElem?_eq_getElem hj).trans (congrArg some e)) i0 rfl
          have hn0 : a ∉ μ := fun hm => hn (by
            rcases hm with hm | hm
            · rw [c3] at hm; exact .inl hm
            · obtain ⟨r, e⟩ := z.preη
              exact .inr (by show a ∈ μ2.η; rw [e]; exact List.mem_append_left _ hm))
          exact h _ _ F2 H2 ⟨c2, c1, ⟨a, o, rfl, g2, g3, r2.sep i a cl ha q (notDead hz), hn⟩, fun _ _ => ⟨a, rfl, (z.nC a hmem).elim (fun e => absurd e hn0) id⟩⟩
theorem Post.bindA0 {C : Cn} {μ : Mu} {F H : Hp} {β : Type} {G : β → Sto → Mu → Hp → Hp → Prop} {m : Res (List Vl)} {k : List Vl → Sto → Res β} {Q : List V → Hp → Prop} (h : Post C G μ F H (m.bind k))
    (hk : ∀ x s v μ1 F1 H1, Ext μ F H μ1 F1 H1 → SR C.K μ1 F1 H1 s → VokAll C.K F1 μ1 x v → Post C G μ F H (k x s) → Q v H1) : PostA C Q μ F H m := by
  cases m with
  | ok x s => exact fun v μ1 F1 H1 e s1 o => hk x s v μ1 F1 H1 e s1 o h
  | er e s => exact h
  | no => exact h
section
variable {X : Cx} {C : Cn} {k j : Nat} {x : Str} {p pos : Pos} {e : Expr} {es : List Expr} {mas : En → Sto → Res (List Vl)} {sem : Fs}
theorem s_call (B : Bd k X C) (G : Kn X.prog X.w X.K X.mg X.base x j sem) (hj : j ≤ k) (hg : Gl X x) (ha : PA X (e :: es) (tAs C mas)) (hdb : (x == ("__debug__" : Str)) = false := by decide)
    (he : starEach (e :: es) X.env = (false, eval e X.env) :: starEach es X.env := by rfl) (hpl : (backTo pos (starEach es X.env)).any (·.1) = false := by rfl) : PE X (.Call (.Name x p) (e :: es) [] pos) (tM C (mCall sem mas)) := by
  obtain ⟨f, fd, ps, hm, hkp, hb, G⟩ := G
  obtain ⟨⟨K, w⟩, mg, W, σC⟩ := C
  obtain rfl : K = X.K := B.hK
  obtain rfl : w = X.w := B.hw
  obtain rfl : mg = X.mg := B.hm
  refine ⟨fun pins s σ H Q I ⟨ρ, st, μ, F, h1, h2, h3⟩ => ?_⟩
  refine wpAny_Call_Name_kw (ld_glob I hg hm ?_ hdb)
  refine PySem.W.callWith_K (h₀ := X.base) I.ok.mod.kin hkp (thn (ha.run pos pins s σ H (fun vs H1 => spF ⟨X.K, X.w⟩ X.mg sem vs H1 Q fun cls d H => W cls d σ H) I ⟨ρ, st, μ, F, h1, h2, Post.bindA0 h3 fun xs s1 vs μ1 F1 H1 x1 r1 k1 h4 => ?_⟩) fun us s1 ⟨vs, H1, I1, r, q⟩ => ⟨I1.kIn, ?_⟩) he hpl
  · exact ⟨xs, s1, μ1, F1, k1, r1, call_post h2 x1 h4⟩
  · have hl : us.length = ps.length := by rw [← r.length]; exact G.len _ _ _ _ q
    refine wpAny_call (codeAny_mono (G.run X.A X.stack s1 H1 ⟨us, []⟩ us vs Q (fun cls d H => W cls d σ H) (B.rm.mono hj) I1.env0 (by have hb' := hb s1 us I1.kIn (by simpa using hl); rw [List.append_nil] at hb'; exact hb') r q) fun r' s' hq => ?_)
    cases r' with
    | error e => exact B.ps σ pins H1 s1 e s' I1 hq
    | ok fl =>
      cases fl with
      | ret u => exact I1.after hq
      | next => exact False.elim hq
      | brk => exact False.elim hq
      | cont => exact False.elim hq
end
/-! ### a def of the text means its body -/
def bodyF (n k : Nat) (b : Sv) : Fs := fun args st => if args.length = k then match b (args.map some ++ List.replicate (n - args.length) none) st with
    | .rt r s => .ok r s
    | .nx _ s => .ok (.d .none) s
    | .er e s => .er e s
    | _ => .no
  else .no
section
variable {P : Program} {w : World} {K : PySem.W.Frag} {mg : Str → Option Value} {base : Heap} {k : Nat} {x : Str} {N ps : List Str} {sb : Sv}
theorem VokAll.length {K : Kw} {F : Hp} {μ : Mu} : ∀ {xs : List Vl} {vs : List V}, VokAll K F μ xs vs → xs.length = vs.length
  | _, _, .nil => rfl
  | _, _, .cons _ r => by rw [List.length_cons, List.length_cons, VokAll.length r]
theorem start_ok {K : Kw} {F : Hp} {μ : Mu} {args : List Vl} {vs : List V} (N : List Str) (h : VokAll K F μ args vs) : Eok K F μ (args.map some ++ List.replicate (N.length - args.length) none) (L2.start N vs) := by
  have hl := h.length
  refine ⟨by unfold L2.start; simp [hl], fun i y e => ?_⟩
  unfold L2.start
  by_cases hi : i < args.length
  · rw [List.getElem?_append_left (by simpa using hi), List.getElem?_map] at e
    rw [List.getElem?_append_left (by rw [List.length_map, ← hl]; exact hi), List.getElem?_map]
    have key : ∀ {xs : List Vl} {vs : List V} {i : Nat} {y : Vl}, VokAll K F μ xs vs → xs[i]? = some y → ∃ v, vs[i]? = some v ∧ Vok K F μ y v := by
      intro xs vs i y h e
      induction h generalizing i with
      | nil => simp at e
      | cons h1 r ih =>
        cases i with
        | zero => simp at e; subst e; exact ⟨_, rfl, h1⟩
        | succ i =>
          obtain ⟨v, k1, k2⟩ := ih (by simpa using e)
          exact ⟨v, by simpa using k1, k2⟩
    cases q : args[i]? with
    | none => rw [q] at e; cases e
    | some z =>
      rw [q] at e; cases e
      obtain ⟨v, k1, k2⟩ := key h q
      exact ⟨v, by rw [k1]; rfl, k2⟩
  · rw [List.getElem?_append_right (by simpa using hi), List.getElem?_replicate] at e
    split at e <;> cases e
theorem fn_of {st : Stmt} {f : Addr} {fd : FuncData} (F : Fun K x x st f fd) (S : FnScope N ps (defScope st))
    (body : ∀ (cdv : Value) (A : Around) (outer : List Env) (s : Shared) (H : Hp) (E : XK), Bd k (cxOf (L2.CX P w) P w K mg base N x (defScope st) f cdv A outer s H E) (Cn.ofE ⟨K, w⟩ mg E) →
      PSs (cxOf (L2.CX P w) P w K mg base N x (defScope st) f cdv A outer s H E) (defBody st) (tS (Cn.ofE ⟨K, w⟩ mg E) sb)) : FnC P w K mg base (k + 1) f fd ps (bodyF N.length ps.length sb) := by
  obtain ⟨oc, od, kV, doc, pm, an, cdv, ct, osl, rfl, lk, hcd⟩ := F.ex
  have hlen : ∀ vs H Q E, spF ⟨K, w⟩ mg (bodyF N.length ps.length sb) vs H Q E → vs.length = ps.length := fun vs H Q E ⟨args, st, μ, F, a, b, c⟩ => by
    unfold bodyF at c
    by_cases hl : args.length = ps.length
    · rw [← a.length, hl]
    · rw [if_neg hl] at c; exact False.elim c
  refine ⟨hlen, fun A outer s H args us vs Q E hr e0 hbd r hsp => ?_⟩
  have hl := hlen _ _ _ _ hsp
  have KX : K.In s.heap := e0.mod.kin.keeps fun b o e => (e0.bs b o e).1
  have lim : s.heap.NoLimit := e0.mod.nolimit.keeps fun b o e => (e0.bs b o e).1
  have hkind : ∀ y ∈ ps.zip us, (defScope st).names.lookup y.1 = some .local ∨ ((defScope st).names.lookup y.1 = some .cell ∧ ((cellsFrom (s.heap.objs.size + 1) (defScope st).names []).lookup y.1).isSome = true) := fun ⟨n, v⟩ hy =>
    (S.par n (List.of_mem_zip hy).1).imp id fun q => ⟨q, PySem.W.cellsFrom_some _ _ _ (.inl q)⟩
  refine codeAny_call_function hr.room.depth (KX _ _ lk) rfl S.co S.gen rfl (PySem.W.codeRec_of KX hcd) (hbd _ _ _ _ ?_)
  refine wpAny_newFunctionEnv_cells S.kind hkind fun env he s1 y => ?_
  subst he
  refine ⟨lim.keeps y.toInCall.keep, codeAny_func ?_⟩
  have hr2 : Rm k (A.deeper (PyProof.Rows.envOfC x (defScope st) s.heap.objs.size f cdv)) := ⟨hr.room.deeper _, hr.gd⟩
  have I : Inv (cxOf (L2.CX P w) P w K mg base N x (defScope st) f cdv A outer s H E) [] (L2.start N vs) H s1 := inv_start S hr.room.hd e0 hl r y
  have bd : Bd k (cxOf (L2.CX P w) P w K mg base N x (defScope st) f cdv A outer s H E) (Cn.ofE ⟨K, w⟩ mg E) := ⟨rfl, S.nd, passes_of rfl, fun σ pins H s e s' I c => passes_call (takes_of rfl rfl rfl rfl) (fun _ _ _ _ h => h) pins σ H s e s' I c, rfl, rfl, rfl, hr2, takes_of rfl rfl rfl rfl⟩
  obtain ⟨as, st0, μ, F0, a, b, c⟩ := hsp
  have hal : as.length = ps.length := by rw [a.length, hl]
  unfold bodyF at c
  rw [if_pos hal] at c
  refine wpAny_mono ((body cdv A outer s H E bd).run [] s1 (L2.start N vs) H { nx := fun _ H' => Q .non H', rt := Q } I ⟨_, st0, μ, F0, start_ok N a, b, ?_⟩) (fun fl s' hs => ?_) fun e s' hs => hs
  · show PostS _ _ μ F0 H (sb (as.map some ++ List.replicate (N.length - as.length) none) st0)
    cases q : sb (as.map some ++ List.replicate (N.length - as.length) none) st0 with
    | rt r s => simp only [q] at c; exact c
    | nx ρ s => simp only [q] at c; exact fun σ' μ' F' H' x2 r2 _ => c .non μ' F' H' ⟨x2, r2, .non, fun _ e => nomatch e⟩
    | er e s => simp only [q] at c; exact c
    | bk ρ s => simp only [q] at c; exact False.elim c
    | ct ρ s => simp only [q] at c; exact False.elim c
    | no => simp only [q] at c; exact False.elim c
  · have fin : ∀ {σ' : St} {H' : Hp} {v : V} {u : Value}, Inv (cxOf (L2.CX P w) P w K mg base N x (defScope st) f cdv A outer s H E) [] σ' H' s' → RelV v u → Q v H' → CE outer P w H s Q u s' :=
      fun {σ' H' v u} J rv q => ⟨v, H', J.os, J.bare, J.base, J.hok, rv, q⟩
    cases fl with
    | ret u => obtain ⟨v, σ', H', J, rv, q⟩ := hs; exact fin J rv q
    | next => obtain ⟨σ', H', J, q⟩ := hs; exact fin (v := V.non) (u := Value.none) J rfl q
    | brk => obtain ⟨_, _, _, q⟩ := hs; exact False.elim q
    | cont => obtain ⟨_, _, _, q⟩ := hs; exact False.elim q
end
end Cp
/-! Cpe: the end of a law. -/
namespace Cp
open PySem L2
section
open PySem.W PyProof.Rows
variable {P : Program} {w : World} {K : Frag} {mg mb : Str → Option Value} {k : Nat} {fa a : Addr} {fd : FuncData} {x : Str} {sem : Fs} {s0 : Shared} {vs : List Value} {ns : List Int}
/-- the law's own call where at most the script is tracked -/
theorem law_core (KX : K.In s0.heap) (hns : s0.heap.Ns mainGlobals mg) (hb : s0.heap.Ns builtinsNs mb) (hbb : ∀ y : Str, y ≠ "__name__" → mb y = bootBuiltins y) (hlim : s0.heap.NoLimit) (hg : s0.gens = #[])
    (ha : s0.heap.get? a = some { cls := .type "list", data := .seq vs.toArray }) (hr : Rm k callerA)
    (F : ∀ base : Heap, K.In base → base.Ns mainGlobals mg → FnC P w K mg base k fa fd [x] sem) (hbind : ∀ (s : Shared) (u : Value), BindsTo s fd ⟨[u], []⟩ [(x, u)])
    (H : Hp) (hO : Only H) (hS : SqL K H a (ns.map V.int)) (hok : HOk P w H s0.heap) (hA : ∀ b, H b ≠ none → b = a) (hK : H a ≠ none → K.lookup a = none) (hsem : ∃ st, sem [.s ns] [heapC []] = .ok (.d (.bool true)) st) :
    codeAny (model P w) callerA (.call (.ref fa) ⟨[.ref a], []⟩) (fun r s' => r = .ok (.ret (.bool true)) ∧ OldK s0.heap s'.heap ∧ s'.os = s0.os ∧ AllBare s'.gens) s0 := by
  have isA : ∀ {b : Addr} {u : HO}, H b = some u → b = a := fun {b u} q => hA b fun z => by rw [z] at q; cases q
  have notDict : ∀ {b : Addr} {o : Obj} {es : Array DictEntry} {n : Nat}, s0.heap.get? b = some o → o.data = .dict es n → H b = none := fun {b o es n} e d => by
    cases q : H b with
    | none => rfl
    | some u =>
      have := isA q
      subst this
      rw [ha] at e; cases e
      cases (show Data.seq vs.toArray _ = Data.dict es n from d)
  have same : ∀ {b : Addr} {m : Str → Option Value}, s0.heap.Ns b m → (hidT s0.heap H).Ns b m := fun ⟨o, es, n, e, d, r⟩ => ⟨o, es, n, hidT_get e (notDict e d), d, r⟩
  have inB : K.In (hidT s0.heap H) := fun b o e => hidT_get (KX b o e) (by
    cases q : H b with
    | none => rfl
    | some u =>
      have := isA q
      subst this
      rw [hK (by rw [q]; exact fun z => by cases z)] at e
      cases e)
  have M : Mod K mg (hidT s0.heap H) := ⟨inB, same hns, ⟨mb, same hb, hbb⟩, let ⟨mc, h1, h2⟩ := hlim; ⟨mc, same h1, h2⟩⟩
  have none0 : ∀ b : Addr, b ∉ frs [] := fun b z => by cases z
  have e0 : Env0 P w K mg (hidT s0.heap H) callerA [] s0 H := ⟨rfl, M, fun b o e => of_hidT e, Nat.le_of_eq (hidT_size _ _), trivial, fun b z => absurd z (none0 b), hok, .of_eq hg⟩
  obtain ⟨st, hsem⟩ := hsem
  have sp : spF ⟨K, w⟩ mg sem [.ref a] H (fun v _ => v = .bl true) (fun _ _ _ => False) := by
    refine ⟨[.s ns], [heapC []], ⟨[a], []⟩, H, .cons ⟨a, rfl, hS⟩ .nil, ⟨List.nodup_nil, rfl, (fun i b c z z2 z3 => by
      cases i with
      | zero => cases z2; cases z3
      | succ i => simp at z2), Same.refl H, (fun i c i0 z => by
      cases i with
      | zero => exact absurd rfl i0
      | succ i => simp at z), ⟨[], rfl, rfl, fun j x z => by simp at z⟩⟩, ?_⟩
    rw [hsem]
    intro v μ' F' H' o
    cases (show Dq ⟨K, w⟩ F' v (.bool true) from o.rok)
    rfl
  refine codeAny_mono ((F _ inB (same hns)).run callerA [] s0 H ⟨[.ref a], []⟩ [.ref a] [.ref a] _ _ hr e0 (hbind s0 (.ref a)) (.cons rfl .nil) sp) fun r s' h => ?_
  cases r with
  | error e =>
    obtain ⟨_, _, _, _, _, _, _, _, _, _, _, _, z⟩ := h
    exact z.elim
  | ok fl =>
    cases fl with
    | ret u =>
      obtain ⟨v, H', os, bare, un, hok', rv, q⟩ := h
      cases (show v = .bl true from q)
      cases (show u = Value.bool true from rv)
      refine ⟨rfl, OldK.of_keep fun b o e => ?_, os, bare⟩
      cases q : H b with
      | none => exact un.keep b o e q (none0 b) (by simp)
      | some u =>
        rcases hO b with z | ⟨ob, xs, z⟩
        · rw [q] at z; cases z
        · obtain ⟨e1, _⟩ := hok b _ z
          obtain ⟨e2, _⟩ := hok' b _ (un.frzs b ob _ z)
          rw [e] at e1; cases e1
          exact e2
    | next => exact False.elim h
    | brk => exact False.elim h
    | cont => exact False.elim h
theorem law_any (KX : K.In s0.heap) (hns : s0.heap.Ns mainGlobals mg) (hb : s0.heap.Ns builtinsNs mb) (hbb : ∀ y : Str, y ≠ "__name__" → mb y = bootBuiltins y) (hlim : s0.heap.NoLimit) (hg : s0.gens = #[])
    (ha : s0.heap.get? a = some { cls := .type "list", data := .seq vs.toArray }) (hi : IntsAre vs ns) (hl : ns.length ≤ sizeLine) (hr : Rm k callerA)
    (F : ∀ base : Heap, K.In base → base.Ns mainGlobals mg → FnC P w K mg base k fa fd [x] sem) (hbind : ∀ (s : Shared) (u : Value), BindsTo s fd ⟨[u], []⟩ [(x, u)]) (hsem : ∃ st, sem [.s ns] [heapC []] = .ok (.d (.bool true)) st) :
    codeAny (model P w) callerA (.call (.ref fa) ⟨[.ref a], []⟩) (fun r s' => r = .ok (.ret (.bool true)) ∧ OldK s0.heap s'.heap ∧ s'.os = s0.os ∧ AllBare s'.gens) s0 := by
  have rv := vals_ints hi
  have hl2 : (ns.map V.int).length ≤ sizeLine := by rw [List.length_map]; exact hl
  have go := law_core (ns := ns) KX hns hb hbb hlim hg ha hr F hbind
  cases hk : K.lookup a with
  | some o =>
    have e := KX a o hk
    rw [ha] at e; cases e
    exact go (fun _ => none) (fun _ => .inl rfl) (.inr ⟨_, vs.toArray, _, hk, rfl, rfl, rfl, by rw [List.size_toArray, ← rv.length]; exact hl2, by simpa using rv⟩) (fun b u z => by cases (show (none : Option HO) = some u from z)) (fun b z => absurd rfl z) (fun z => absurd rfl z) hsem
  | none =>
    have at1 : (fun b => if b = a then some (HO.frz { cls := .type "list", data := .seq vs.toArray } (.lst (ns.map V.int))) else none) a = some (HO.frz { cls := .type "list", data := .seq vs.toArray } (.lst (ns.map V.int))) := if_pos rfl
    have at2 : ∀ {b u}, (fun b => if b = a then some (HO.frz { cls := .type "list", data := .seq vs.toArray } (.lst (ns.map V.int))) else none) b = some u → b = a ∧ u = HO.frz { cls := .type "list", data := .seq vs.toArray } (.lst (ns.map V.int)) := fun {b u} z => by
      by_cases h : b = a
      · exact ⟨h, by have z' := (if_pos h).symm.trans z; cases z'; rfl⟩
      · have z' := (if_neg h).symm.trans z; cases z'
    refine go (fun b => if b = a then some (.frz { cls := .type "list", data := .seq vs.toArray } (.lst (ns.map V.int))) else none) (fun b => ?_) (.inl (.inr ⟨_, at1⟩)) (fun b u z => ?_) (fun b z => ?_) (fun _ => hk) hsem
    · by_cases h : b = a
      · exact .inr ⟨_, _, if_pos h⟩
      · exact .inl (if_neg h)
    · obtain ⟨rfl, rfl⟩ := at2 z
      exact ⟨ha, hl2, vs, _, rv, ha⟩
    · by_cases h : b = a
      · exact h
      · exact absurd (if_neg h) z
theorem law_room {k : Nat} (h : k ≤ 230) : Rm k callerA := ⟨⟨rfl, by show 1 + 300 + 3 * k + 5 < 1000; omega, by show 4 + 16 * k + 200 < 9900; omega⟩, rfl⟩
end
end Cp
/-! Cpo: the rules by Python's words, defs by the head's facts. -/
namespace Cp
open PySem L2
section
open PySem.Spec PyProof.Rows
/-- a tuple times one, times nothing -/
theorem tuple_mul1 (l : Addr) (items : Array Value) (n : Nat) (dd : Option Addr) (sl : Array (Option Value)) (u : Tok) :
    Meets (Builtin.«tuple.__mul__» ⟨[.ref l, .int 1 u], []⟩) (fun _ R s => s.heap.get? l = some { cls := .type "tuple", dict := dd, data := .seq items n, slots := sl } ∧ R (.ok (.ret (Value.ref l))) s) :=
  .of_wp fun prog w A R s h => by
    obtain ⟨hp, g, d, tk, os⟩ := s
    obtain ⟨hl, h⟩ := h
    have f1 := AutoSeq1.idx_int
    wp_walk using wpAny_loadPart' hl
    have c1 : ((items.isEmpty || (1 : Int) == 1) = true) := by rw [Bool.or_eq_true]; exact .inr rfl
    repeat (first
      | (refine wpAny_ite_false (decide_eq_false (by decide)) ?_; wp_walk using wpAny_loadPart' hl)
      | (refine wpAny_ite_true (decide_eq_true c1) ?_; wp_walk using wpAny_loadPart' hl))
    exact ⟨_, rfl, h⟩
theorem tuple_mul0 (l : Addr) (items : Array Value) (n : Nat) (dd : Option Addr) (sl : Array (Option Value)) (x : Int) (u : Tok) (c0 : (decide (x < -(2 ^ 63)) || decide (x ≥ 2 ^ 63)) = false) (c1 : (items.isEmpty || x == 1) = false) (c2 : (decide (x ≤ 0) || items.isEmpty) = true) :
    Meets (Builtin.«tuple.__mul__» ⟨[.ref l, .int x u], []⟩) (fun _ R s => s.heap.get? l = some { cls := .type "tuple", dict := dd, data := .seq items n, slots := sl } ∧
      R (.ok (.ret (Value.ref s.heap.objs.size))) { s with heap := s.heap.push { cls := Value.type "tuple", data := Data.seq #[] }, toks := s.toks }) :=
  .of_wp fun prog w A R s h => by
    obtain ⟨hp, g, d, tk, os⟩ := s
    obtain ⟨hl, h⟩ := h
    have f1 := AutoSeq1.idx_int
    wp_walk using wpAny_loadPart' hl
    repeat (first
      | (refine wpAny_ite_false (decide_eq_false (by rw [c0]; exact Bool.false_ne_true)) ?_; wp_walk using wpAny_loadPart' hl)
      | (refine wpAny_ite_false (decide_eq_false (by rw [c1]; exact Bool.false_ne_true)) ?_; wp_walk using wpAny_loadPart' hl)
      | (refine wpAny_ite_true (decide_eq_true c2) ?_; wp_walk using wpAny_loadPart' hl))
    exact ⟨_, rfl, h⟩
def rRepT2 (K : PySem.W.Frag) : R2 := fun x y H Q => ∃ l k xs, x = .ref l ∧ y = .int k ∧ SqT K H l xs ∧ xs ≠ [] ∧ -1000 ≤ k ∧ k ≤ 1 ∧ xs.length ≤ 1000 ∧ (k = 1 → Q (.ref l) H) ∧ (k ≤ 0 → ∀ p, H p = none → Q (.ref p) (upd H p (.tup [])))
theorem op_repT2 {X : Cx} : OpR X (binaryOp .Mult) (rRepT2 X.K) := by
  intro pins s σ H x y v u Q I rx ry h
  obtain ⟨l, k, xs, rfl, rfl, hT, hne, h1, h2, hz, q1, q0⟩ := h
  cases rx
  obtain ⟨t, rfl⟩ := ry
  obtain ⟨its, r, ⟨⟨cls, dd, data, sl⟩, ho, hc, n, hd⟩, hs⟩ := I.tuple hT
  simp only at hc hd
  subst hc hd
  have hle : its.length = xs.length := r.length.symm
  have hn : its ≠ [] := fun e => hne (by
    rw [e] at hle
    exact List.eq_nil_of_length_eq_zero hle.symm)
  have hi : its.toArray.isEmpty = false := by
    cases its with
    | nil => exact absurd rfl hn
    | cons a b => rfl
  by_cases hk : k = 1
  · subst hk
    exact wpAny_binaryOp_repeat_ref (T := "tuple") (U := "int") (by decide) ⟨_, ho, rfl⟩ (fun s' => typeIs_int s' 1 t) noFill_tuple_mul F.fills_int_mul F.slot_int_rmul repeat_tuple F.slot_int_index.lookup
      (call_meets F.slot_int_rmul (typeIs_int s 1 t) F.entry_int_rmul (F.args_int_rmul_2 _ _) (int_rmul_tuple 1 t l its.toArray n dd sl)
        ⟨ho, rfl, ⟨_, ho, rfl⟩, call_meets F.slot_tuple_mul ⟨_, ho, rfl⟩ F.entry_tuple_mul (F.args_tuple_mul_2 _ _) (tuple_mul1 l its.toArray n dd sl t) ⟨ho, .ref l, H, I, rfl, q1 rfl⟩⟩)
  · have c0 : (decide (k < -(2 ^ 63)) || decide (k ≥ 2 ^ 63)) = false := by
      rw [decide_eq_false (by omega), decide_eq_false (by omega)] <;> rfl
    have c1 : (its.toArray.isEmpty || k == 1) = false := by
      rw [hi, Bool.false_or]
      exact beq_eq_false_iff_ne.mpr hk
    have c2 : (decide (k ≤ 0) || its.toArray.isEmpty) = true := by
      rw [decide_eq_true (by omega)]; rfl
    refine wpAny_binaryOp_repeat_ref (T := "tuple") (U := "int") (by decide) ⟨_, ho, rfl⟩ (fun s' => typeIs_int s' k t) noFill_tuple_mul F.fills_int_mul F.slot_int_rmul repeat_tuple F.slot_int_index.lookup
      (call_meets F.slot_int_rmul (typeIs_int s k t) F.entry_int_rmul (F.args_int_rmul_2 _ _) (int_rmul_tuple k t l its.toArray n dd sl)
        ⟨ho, rfl, ⟨_, ho, rfl⟩, call_meets F.slot_tuple_mul ⟨_, ho, rfl⟩ F.entry_tuple_mul (F.args_tuple_mul_2 _ _) (tuple_mul0 l its.toArray n dd sl k t c0 c1 c2) ⟨ho, ?_⟩⟩)
    refine ⟨.ref s.heap.objs.size, _, I.laid (t' := s.toks) (o := .tup []) (fun b ob q => Heap.get?_push_of_some _ q) (Nat.le_refl _) ?_, rfl, q0 (by omega) _ (I.hok.fresh (Nat.le_refl _))⟩
    exact ⟨Nat.zero_le _, [], .nil, IsTup.new _ _⟩
end
section
variable {X : Cx} {C : Cn} {k j : Nat} {x : Str} {p pos apos : Pos} {e a b c : Expr} {es : List Expr} {m ma mb mc : Ev} {mas : En → Sto → Res (List Vl)}
/-- + -/
def fAdd : PyData → PyData → Option Rv
  | .int i, .int j => some (.d (.int (i + j)))
  | .str i, .str j => if i.length + j.length ≤ sizeLine then some (.d (.str (i ++ j))) else none
  | .tuple i, .tuple j => if i.length + j.length ≤ sizeLine then some (.d (.tuple (i ++ j))) else none
  | .list i, .list j => if i.length + j.length ≤ sizeLine then some (.n (.l (i ++ j))) else none
  | _, _ => none
theorem BinOk.of {r : R2} {f g : PyData → PyData → Option Rv} (h : BinOk C r f) (e : ∀ a b z, g a b = some z → f a b = some z) : BinOk C r g := fun a b res v u μ F H st Q s va vb q p => h a b res v u μ F H st Q s va vb (e a b res q) p
theorem s_add (ha : PE X a (tM C ma)) (hb : PE X b (tM C mb)) : PE X (.BinOp a .Add b pos) (tM C (mBin fAdd ma mb)) :=
  s_bin (op_add.or (op_add_str.or (op_catA.or op_cat))) (BinOk.of (fI0_ok.or (fCatS_ok.or (fCatT_ok.or fCatL_ok))) fun a b z h => by
    cases a <;> cases b <;> first | exact h | (simp only [fI, fCatS, fCatT, fCatL, fAdd, if_true] at h ⊢; first | exact h | (split at h <;> first | (cases h; done) | (cases h; simp [*])))) ha hb
theorem s_sub (ha : PE X a (tM C ma)) (hb : PE X b (tM C mb)) : PE X (.BinOp a .Sub b pos) (tM C (mBin (fI (fun _ _ => true) fun i j => i - j) ma mb)) := s_bin op_sub fI0_ok ha hb
def pMul (i j : Int) : Bool := decide (i.natAbs.log2 + j.natAbs.log2 < 1000000)
def repD (xs : List PyData) (k : Int) : List PyData := (List.replicate k.toNat xs).flatten
/-- * -/
def fMul : PyData → PyData → Option Rv
  | .int i, .int j => if pMul i j then some (.d (.int (i * j))) else none
  | .list xs, .int k => if -(2 ^ 63) ≤ k ∧ k < 2 ^ 63 ∧ xs.length * k.toNat ≤ sizeLine then some (.n (.l (repD xs k))) else none
  | .tuple xs, .int k => if xs ≠ [] ∧ -1000 ≤ k ∧ k ≤ 1000 ∧ xs.length ≤ 1000 then some (.d (.tuple (repD xs k))) else none
  | _, _ => none
theorem rep_dq {K : Kw} {F : Hp} {xs : List V} {ds : List PyData} (h : DqAll K F xs ds) (n : Nat) : DqAll K F (List.replicate n xs).flatten (List.replicate n ds).flatten := by
  induction n with
  | zero => exact .nil
  | succ n ih => rw [List.replicate_succ, List.replicate_succ, List.flatten_cons, List.flatten_cons]; exact h.app ih
theorem fMul_ok {K : PySem.W.Frag} : BinOk C (fun x y H Q => rI CMulW (fun i j => .int (i * j)) x y H Q ∨ rRep x y H Q ∨ rRepT K x y H Q ∨ rRepT2 K x y H Q) fMul := by
  intro a b res v u μ F H st Q s va vb e h
  unfold fMul at e
  split at e
  · split at e
    · rename_i hh
      cases e
      exact .inl ⟨_, _, va.int, vb.int, (by simpa [pMul, CMulW] using hh), fin_d s h (.int _)⟩
    · cases e
  · split at e
    · rename_i hh
      cases e
      obtain ⟨q, ys, rfl, q1, q2⟩ := va
      exact .inr (.inl ⟨q, _, ys, rfl, vb.int, q1, hh.1, hh.2.1, by rw [q2.length]; exact hh.2.2, fun z hz => fin_n s h hz ⟨_, rfl, rep_dq q2 _⟩⟩)
    · cases e
  · split at e
    · rename_i xs k hh
      cases e
      obtain ⟨q, ys, rfl, q1, q2⟩ := va.tup
      have ne : ys ≠ [] := fun z => hh.1 (by subst z; cases q2; rfl)
      have hln : ys.length ≤ 1000 := by rw [q2.length]; exact hh.2.2.2
      by_cases h2 : 2 ≤ k
      · exact .inr (.inr (.inl ⟨q, _, ys, rfl, vb.int, SqT.rd s.sub q1, ne, h2, hh.2.2.1, hln, fun z hz => fin_t s h hz (rep_dq q2 _)⟩))
      · refine .inr (.inr (.inr ⟨q, _, ys, rfl, vb.int, SqT.rd s.sub q1, ne, hh.2.1, by omega, hln, fun e1 => ?_, fun e0 z hz => ?_⟩))
        · subst e1
          have e : repD xs 1 = xs := by unfold repD; simp
          rw [e] at h
          exact fin_d s h (.tup q1 q2)
        · have e : repD xs k = [] := by unfold repD; rw [Int.toNat_of_nonpos e0]; rfl
          rw [e] at h
          exact fin_t s h hz .nil
    · cases e
  · cases e
def pDiv (_ j : Int) : Bool := decide (0 < j) && decide (j.natAbs.log2 < 9000)
theorem s_fdiv (ha : PE X a (tM C ma)) (hb : PE X b (tM C mb)) : PE X (.BinOp a .FloorDiv b pos) (tM C (mBin (fI pDiv fun i j => i / j) ma mb)) :=
  s_bin op_fdivW (fI_ok fun i j h => by simpa [pDiv, CDivW] using h) ha hb
def pPos (_ j : Int) : Bool := decide (0 < j)
theorem s_mod (ha : PE X a (tM C ma)) (hb : PE X b (tM C mb)) : PE X (.BinOp a .Mod b pos) (tM C (mBin (fI pPos fun i j => i % j) ma mb)) := s_bin op_mod (fI_ok fun i j h => of_decide_eq_true h) ha hb
def CPowW (i j : Int) : Prop := 0 ≤ j ∧ (Builtin.Int.intBits i : Int) * j ≤ 2 ^ 27
theorem op_powW : OpR X (binaryOp .Pow) (rI CPowW fun i j => .int (i ^ j.toNat)) := opI fun _ _ _ _ _ _ _ hc q => PyProof.Rows.pow_int hc.1 hc.2 q
def pPow (i j : Int) : Bool := decide (0 ≤ j) && decide ((Builtin.Int.intBits i : Int) * j ≤ 2 ^ 27)
theorem s_pow (ha : PE X a (tM C ma)) (hb : PE X b (tM C mb)) : PE X (.BinOp a .Pow b pos) (tM C (mBin (fI pPow fun i j => i ^ j.toNat) ma mb)) :=
  s_bin op_powW (fI_ok fun i j h => by unfold pPow at h; simp only [Bool.and_eq_true, decide_eq_true_eq] at h; exact ⟨h.1, h.2⟩) ha hb
def fNeg : PyData → Option PyData
  | .int i => some (.int (-i))
  | _ => none
def mNeg (m : Ev) : Ev := fun ρ st => (mV m ρ st).bind fun x s => match (view s x).bind fNeg with
  | some d => .ok (.d d) s
  | none => .no
theorem s_neg (ha : PE X a (tM C ma)) : PE X (.UnaryOp .USub a pos) (tM C (mNeg ma)) := (pe_un un_neg (pv_frz ha)).imp fun σ H Q ⟨ρ, st, μ, F, h1, h2, h3⟩ => ⟨ρ, st, μ, F, h1, h2, Post.bindV gE_lat h3 fun x s v μ1 F1 H1 x1 r1 k1 h4 => by
  cases q : view s x with
  | none => simp only [q, Option.bind] at h4; exact False.elim h4
  | some d =>
    cases d with
    | int i => simp only [q, Option.bind, fNeg] at h4; exact ⟨i, (view_ok r1 k1 q).int, fin_d r1 h4 (.int _)⟩
    | _ => simp only [q, Option.bind, fNeg] at h4; exact False.elim h4⟩
/-! ### comparisons: as a test, as a value -/
theorem t_eq (B : Bd k X C) (ha : PE X a (tM C ma)) (hb : PE X b (tM C mb)) : PT X (.Compare a [.Eq] [b] pos) (tT C (mCmp gEq ma mb)) := s_cmpT (op_eqD B.rm.hu) gEq_ok ha hb (nomark _)
theorem t_ne (B : Bd k X C) (ha : PE X a (tM C ma)) (hb : PE X b (tM C mb)) : PT X (.Compare a [.NotEq] [b] pos) (tT C (mCmp gNe ma mb)) := s_cmpT (op_neD B.rm.hu) gNe_ok ha hb (nomark _)
theorem t_lt (ha : PE X a (tM C ma)) (hb : PE X b (tM C mb)) : PT X (.Compare a [.Lt] [b] pos) (tT C (mCmp (gI fun i j => decide (i < j)) ma mb)) := s_cmpT op_lt gI_ok ha hb (nomark _)
theorem t_gt (ha : PE X a (tM C ma)) (hb : PE X b (tM C mb)) : PT X (.Compare a [.Gt] [b] pos) (tT C (mCmp (gI fun i j => decide (j < i)) ma mb)) := s_cmpT op_gt gI_ok ha hb (nomark _)
theorem t_in (ha : PE X a (tM C ma)) (hb : PE X b (tM C mb)) (hm : behindInMarks .In b = false) : PT X (.Compare a [.In] [b] pos) (tT C (mCmp (gIn false) ma mb)) := s_cmpT op_in_seq gIn_ok ha hb hm
theorem t_notIn (ha : PE X a (tM C ma)) (hb : PE X b (tM C mb)) (hm : behindInMarks .NotIn b = false) : PT X (.Compare a [.NotIn] [b] pos) (tT C (mCmp (gIn true) ma mb)) := s_cmpT op_notIn_seq gIn_ok ha hb hm
theorem v_eq (B : Bd k X C) (ha : PE X a (tM C ma)) (hb : PE X b (tM C mb)) : PE X (.Compare a [.Eq] [b] pos) (tM C (bV (mCmp gEq ma mb))) := s_cmp (op_eqD B.rm.hu) gEq_ok ha hb (nomark _)
theorem v_le (ha : PE X a (tM C ma)) (hb : PE X b (tM C mb)) : PE X (.Compare a [.LtE] [b] pos) (tM C (bV (mCmp (gI fun i j => decide (i ≤ j)) ma mb))) := s_cmp op_le gI_ok ha hb (nomark _)
theorem v_gt (ha : PE X a (tM C ma)) (hb : PE X b (tM C mb)) : PE X (.Compare a [.Gt] [b] pos) (tM C (bV (mCmp (gI fun i j => decide (j < i)) ma mb))) := s_cmp op_gt gI_ok ha hb (nomark _)
theorem v_ge (ha : PE X a (tM C ma)) (hb : PE X b (tM C mb)) : PE X (.Compare a [.GtE] [b] pos) (tM C (bV (mCmp (gI fun i j => decide (j ≤ i)) ma mb))) := s_cmp op_ge gI_ok ha hb (nomark _)
theorem v_isN (ha : PE X a (tM C ma)) (hb : PE X b (tM C mb)) : PE X (.Compare a [.Is] [b] pos) (tM C (bV (mCmp gIsN ma mb))) := s_cmp op_isN gIsN_ok ha hb (nomark _)
theorem v_notN (ha : PE X a (tM C ma)) (hb : PE X b (tM C mb)) : PE X (.Compare a [.IsNot] [b] pos) (tM C (bV (mCmp gNotN ma mb))) := s_cmp op_notN gNotN_ok ha hb (nomark _)
/-! ### built-in functions -/
abbrev NA (X : Cx) (es : List Expr) (pos : Pos) : Prop := (backTo pos (starEach es X.env)).any (·.1) = false
theorem k_len (B : Bd k X C) (hg : Gl X "len") (hm : X.mg "len" = none) (ha : PA X [a] (tAs C mas)) (he : starEach [a] X.env = (false, eval a X.env) :: starEach [] X.env := by rfl) (hpl : NA X [] pos := by rfl) : PE X (.Call (.Name "len" p) [a] [] pos) (tM C (mCal gLen mas)) :=
  s_callB call_len (gLen_ok B.hK) hg hm boot_len ha (by decide) (by decide) he hpl
theorem k_abs (hg : Gl X "abs") (hm : X.mg "abs" = none) (ha : PA X [a] (tAs C mas)) (he : starEach [a] X.env = (false, eval a X.env) :: starEach [] X.env := by rfl) (hpl : NA X [] pos := by rfl) : PE X (.Call (.Name "abs" p) [a] [] pos) (tM C (mCal (g1 fAbs) mas)) :=
  s_callB (c_abs (X := X) (C := C)).1 (c_abs (X := X) (C := C)).2 hg hm (by decide +kernel) ha (by decide) (by decide) he hpl
theorem k_max (B : Bd k X C) (hg : Gl X "max") (hm : X.mg "max" = none) (ha : PA X [a, b] (tAs C mas)) (he : starEach [a, b] X.env = (false, eval a X.env) :: starEach [b] X.env := by rfl) (hpl : NA X [b] pos := by rfl) : PE X (.Call (.Name "max" p) [a, b] [] pos) (tM C (mCal (gII fun i j => if j > i then j else i) mas)) :=
  s_callB (call_max2 B.cm) (gII_ok fun i j H Q q => ⟨i, j, rfl, q⟩) hg hm (by decide +kernel) ha (by decide) (by decide) he hpl
theorem k_min (B : Bd k X C) (hg : Gl X "min") (hm : X.mg "min" = none) (ha : PA X [a, b] (tAs C mas)) (he : starEach [a, b] X.env = (false, eval a X.env) :: starEach [b] X.env := by rfl) (hpl : NA X [b] pos := by rfl) : PE X (.Call (.Name "min" p) [a, b] [] pos) (tM C (mCal (gII fun i j => if j < i then j else i) mas)) :=
  s_callB (call_min2 B.cm) (gII_ok fun i j H Q q => ⟨i, j, rfl, q⟩) hg hm (by decide +kernel) ha (by decide) (by decide) he hpl
theorem k_all (B : Bd k X C) (hg : Gl X "all") (hm : X.mg "all" = none) (ha : PA X [a] (tAs C mas)) (he : starEach [a] X.env = (false, eval a X.env) :: starEach [] X.env := by rfl) (hpl : NA X [] pos := by rfl) : PE X (.Call (.Name "all" p) [a] [] pos) (tM C (mCal (g1 fAll) mas)) :=
  s_callB (cr_all B.cm) fAll_ok hg hm (by decide +kernel) ha (by decide) (by decide) he hpl
theorem k_repr (B : Bd k X C) (hS : SysK X.K) (hg : Gl X "repr") (hm : X.mg "repr" = none) (ha : PA X [a] (tAs C mas)) (he : starEach [a] X.env = (false, eval a X.env) :: starEach [] X.env := by rfl) (hpl : NA X [] pos := by rfl) : PE X (.Call (.Name "repr" p) [a] [] pos) (tM C (mCal (g1 fRepr) mas)) :=
  s_callB (cr_repr hS B.rm.hu B.rm.gd) fRepr_ok hg hm (by decide +kernel) ha (by decide) (by decide) he hpl
theorem k_int (hg : Gl X "int") (hm : X.mg "int" = none) (ha : PA X [a] (tAs C mas)) (he : starEach [a] X.env = (false, eval a X.env) :: starEach [] X.env := by rfl) (hpl : NA X [] pos := by rfl) : PE X (.Call (.Name "int" p) [a] [] pos) (tM C (mCal (g1 fInt) mas)) :=
  s_callTy call_int1 fInt_ok hg hm (by decide +kernel) ha (by decide) (by decide) he hpl
theorem k_str (hg : Gl X "str") (hm : X.mg "str" = none) (ha : PA X [a] (tAs C mas)) (he : starEach [a] X.env = (false, eval a X.env) :: starEach [] X.env := by rfl) (hpl : NA X [] pos := by rfl) : PE X (.Call (.Name "str" p) [a] [] pos) (tM C (mCal (g1 fStr) mas)) :=
  s_callTy call_str_int fStr_ok hg hm (by decide +kernel) ha (by decide) (by decide) he hpl
theorem k_list (hg : Gl X "list") (hm : X.mg "list" = none) (ha : PA X [a] (tAs C mas)) (he : starEach [a] X.env = (false, eval a X.env) :: starEach [] X.env := by rfl) (hpl : NA X [] pos := by rfl) : PE X (.Call (.Name "list" p) [a] [] pos) (tM C (mCal (g1 fList) mas)) :=
  s_callTy call_list_of fList_ok hg hm (by decide +kernel) ha (by decide) (by decide) he hpl
theorem k_tuple (hg : Gl X "tuple") (hm : X.mg "tuple" = none) (ha : PA X [a] (tAs C mas)) (he : starEach [a] X.env = (false, eval a X.env) :: starEach [] X.env := by rfl) (hpl : NA X [] pos := by rfl) : PE X (.Call (.Name "tuple" p) [a] [] pos) (tM C (mCal (g1 fTuple) mas)) :=
  s_callTy call_tuple_of fTuple_ok hg hm (by decide +kernel) ha (by decide) (by decide) he hpl
/-! ### methods of lists -/
theorem y_app {o : Expr} {cpos : Pos} (ho : PE X o (tM C ma)) (he : PE X e (tM C mb)) (hbase : attributeBase o "append" X.env (eval o X.env) = eval o X.env := by rfl)
    (hfew : ((backTo cpos (starEach [e] X.env)).all (fun x => !x.1) && (backToKw cpos (keywordEach [] X.env)).all (fun x => x.1.isSome) && decide ([e].length + ([] : List Keyword).length + (if ([] : List Keyword).isEmpty then 0 else 1) < 30)) = true := by rfl)
    (hline : (apos.endLine == cpos.line) = true := by rfl) (hs : starEach [e] X.env = (false, eval e X.env) :: starEach [] X.env := by rfl) (hpl : NA X [] cpos := by rfl) : PE X (.Call (.Attribute o "append" apos) [e] [] cpos) (tM C (mApp ma mb)) :=
  s_app (pe_bm PySem.F.plainAttrs_list PySem.F.slot_list_append PySem.F.type_list_append mt_append (pv_frz ho) (pa_cons (pv_frz he) pa_nil hs) hbase hfew hline hs hpl)
theorem y_ext {o : Expr} {cpos : Pos} (ho : PE X o (tM C ma)) (he : PE X e (tM C mb)) (hbase : attributeBase o "extend" X.env (eval o X.env) = eval o X.env := by rfl)
    (hfew : ((backTo cpos (starEach [e] X.env)).all (fun x => !x.1) && (backToKw cpos (keywordEach [] X.env)).all (fun x => x.1.isSome) && decide ([e].length + ([] : List Keyword).length + (if ([] : List Keyword).isEmpty then 0 else 1) < 30)) = true := by rfl)
    (hline : (apos.endLine == cpos.line) = true := by rfl) (hs : starEach [e] X.env = (false, eval e X.env) :: starEach [] X.env := by rfl) (hpl : NA X [] cpos := by rfl) : PE X (.Call (.Attribute o "extend" apos) [e] [] cpos) (tM C (mExt ma mb)) :=
  s_ext (pe_bm PySem.F.plainAttrs_list PySem.F.slot_list_extend PySem.F.type_list_extend mt_extend (pv_frz ho) (pa_cons (pv_frz he) pa_nil hs) hbase hfew hline hs hpl)
theorem y_pop {o : Expr} {cpos : Pos} (ho : PE X o (tM C ma)) (hbase : attributeBase o "pop" X.env (eval o X.env) = eval o X.env := by rfl) (hline : (apos.endLine == cpos.line) = true := by rfl) : PE X (.Call (.Attribute o "pop" apos) [] [] cpos) (tM C (mPop ma)) :=
  s_pop (pe_bm0 PySem.F.plainAttrs_list PySem.F.slot_list_pop PySem.F.type_list_pop mt_pop (pv_frz ho) hbase hline)
end
/-! ### defs by the head's facts -/
def Df (K : PySem.W.Frag) (mg : Str → Option Value) (x : Str) (st : Stmt) : Prop := ∃ f fd, FunD K x x (defArgs st) (defBody st) (defScope st) [] [] f fd ∧ mg x = some (.ref f)
section
variable {P : Program} {w : World} {K : PySem.W.Frag} {mg : Str → Option Value} {base : Heap} {k : Nat} {x : Str} {N ps : List Str} {sb : Sv} {st : Stmt}
theorem fn_def {f : Addr} {fd : FuncData} (F : FunD K x x (defArgs st) (defBody st) (defScope st) [] [] f fd) (S : FnScope N ps (defScope st))
    (body : ∀ (cdv : Value) (f : Addr) (A : Around) (outer : List Env) (s : Shared) (H : Hp) (E : XK), Bd k (cxOf (L2.CX P w) P w K mg base N x (defScope st) f cdv A outer s H E) (Cn.ofE ⟨K, w⟩ mg E) →
      PSs (cxOf (L2.CX P w) P w K mg base N x (defScope st) f cdv A outer s H E) (defBody st) (tS (Cn.ofE ⟨K, w⟩ mg E) sb)) : FnC P w K mg base (k + 1) f fd ps (bodyF N.length ps.length sb) := by
  obtain ⟨oc, od, dV, kV, doc, pm, an, cdv, ct, osl, rfl, lk, hcd, hD, hK⟩ := F.ex
  rcases hD with ⟨_, rfl⟩ | ⟨e, _⟩
  · exact fn_of (st := st) ⟨⟨oc, od, kV, doc, pm, an, cdv, ct, osl, rfl, lk, hcd⟩, F.kp⟩ S fun cdv A outer s H E B => body cdv f A outer s H E B
  · exact absurd rfl e
theorem kn_def (D : Df K mg x st) (S : FnScope N ps (defScope st))
    (hb : ∀ (kV doc pm : Value) (an : Option Addr) (cdv ct : Value) (us : List Value), us.length = ps.length → bindArgs (PySem.W.fnOf x x (defArgs st) (defBody st) (defScope st) .none kV doc pm an cdv ct) ⟨us, []⟩ = pure (ps.zip us))
    (body : ∀ (cdv : Value) (f : Addr) (A : Around) (outer : List Env) (s : Shared) (H : Hp) (E : XK), Bd k (cxOf (L2.CX P w) P w K mg base N x (defScope st) f cdv A outer s H E) (Cn.ofE ⟨K, w⟩ mg E) →
      PSs (cxOf (L2.CX P w) P w K mg base N x (defScope st) f cdv A outer s H E) (defBody st) (tS (Cn.ofE ⟨K, w⟩ mg E) sb)) : Kn P w K mg base x (k + 1) (bodyF N.length ps.length sb) := by
  obtain ⟨f, fd, F, hm⟩ := D
  exact ⟨f, fd, ps, hm, F.kp, F.bindsN hb, fn_def F S body⟩
end
section
open PySem.W PyProof.Rows
theorem law_walkE {l : OpenLaw} {n k : Nat} {q : Program} {loose : List Str} {XP : (Str → Option Value) → Heap → Prop} {YP : World → Heap → Prop} {d : DefRec} {x : Str} {sem : Fs}
    (hn : l.most = some n) (hn2 : n ≤ sizeLine) (hdf : d.params.defaults = []) (hr : Rm k callerA)
    (F : ∀ (w : World) (mg : Str → Option Value) (fa : Addr) (h : Heap), YP w h → h.Ns mainGlobals mg → mg d.name = some (.ref fa) →
      ∃ (K : Frag) (fd : FuncData), K.In h ∧ (∀ (s : Shared) (u : Value), BindsTo s fd ⟨[u], []⟩ [(x, u)]) ∧ ∀ base : Heap, K.In base → base.Ns mainGlobals mg → FnC l.prog w K mg base k fa fd [x] sem)
    (hsem : ∀ ns : List Int, ns.length ≤ n → ∃ st, sem [.s ns] [heapC []] = .ok (.d (.bool true)) st) : WalkO q loose XP YP l.row.toRowW d [] (fun f vs => PySem.call f vs) := by
  refine Att.attach_call hn hdf fun w s₀ s₁ mg mb fa o pm cd doc a vs ns G Y ho hd hcd hmg hobj hints hlen hg => ?_
  obtain ⟨K, fd, KX, hb, hF⟩ := F w mg fa _ Y G.T.g hmg
  exact law_any KX G.T.g G.T.b G.T.builtins G.T.nolimit hg hobj hints (Nat.le_trans hlen hn2) hr hF hb (hsem ns hlen)
end
end Cp
/-! Cq: texts times ints, join, enumerate over lists and tuples. -/
namespace Cp
open PySem L2 PySem.Spec
section
variable {X : Cx} {C : Cn} {k j : Nat} {x : Str} {p pos apos cpos : Pos} {e a b c : Expr} {es : List Expr} {m ma mb mc : Ev} {mas : En → Sto → Res (List Vl)} {Q : VK} {μ : Mu} {F H : Hp} {st : Sto}
/-! ### a text times an int -/
def rMulS : R2 := fun x y H Q => ∃ i k, x = .str i ∧ y = .int k ∧ -(2 ^ 63) ≤ k ∧ k < 2 ^ 63 ∧ i.length * k.toNat ≤ sizeLine ∧ Q (.str (Txt.mul i k)) H
theorem mulOk_of {i : Str} {k : Int} (h1 : -(2 ^ 63) ≤ k) (h2 : k < 2 ^ 63) (hz : i.length * k.toNat ≤ sizeLine) : MulOk i k := by
  have hs : sizeLine = 16777216 := rfl
  refine ⟨?_, fun h3 _ => ?_, fun _ _ => ?_⟩
  · rw [Bool.or_eq_false_iff]; exact ⟨decide_eq_false (by omega), decide_eq_false (by omega)⟩
  · have hk : (k.toNat : Int) = k := Int.toNat_of_nonneg (by omega)
    have h4 : (i.length : Int) * k ≤ 16777216 := by
      rw [hs] at hz
      have h5 : ((i.length * k.toNat : Nat) : Int) ≤ ((16777216 : Nat) : Int) := Int.ofNat_le.mpr hz
      rw [Int.natCast_mul, hk] at h5
      exact h5
    have := Int.le_ediv_of_mul_le (a := (i.length : Int)) (b := 2 ^ 63 - 1) (c := k) (by omega) (by omega)
    omega
  · unfold Builtin.Str.tooLong
    exact decide_eq_false (by omega)
theorem op_mulS : OpR X (binaryOp .Mult) rMulS := by
  intro pins s σ H x y v u Q I rx ry h
  obtain ⟨i, k, rfl, rfl, h1, h2, hz, q⟩ := h
  obtain ⟨t, rfl⟩ := rx
  obtain ⟨t', rfl⟩ := ry
  exact SB.mul (mulOk_of h1 h2 hz) fun t'' tk => ⟨.str (Txt.mul i k), H, I.tok _, ⟨_, rfl⟩, q⟩
def fMulS : PyData → PyData → Option Rv
  | .str i, .int k => if -(2 ^ 63) ≤ k ∧ k < 2 ^ 63 ∧ i.length * k.toNat ≤ sizeLine then some (.d (.str (Txt.mul i k))) else none
  | _, _ => none
theorem fMulS_ok : BinOk C rMulS fMulS := by
  intro a b res v u μ F H st Q s va vb e h
  unfold fMulS at e
  split at e
  · split at e
    · rename_i hh
      cases e
      exact ⟨_, _, va.str, vb.int, hh.1, hh.2.1, hh.2.2, fin_d s h (.str _)⟩
    · cases e
  · cases e
def fMulA (a b : PyData) : Option Rv := match fMul a b with
  | some z => some z
  | none => fMulS a b
theorem s_mulA (ha : PE X a (tM C ma)) (hb : PE X b (tM C mb)) : PE X (.BinOp a .Mult b pos) (tM C (mBin fMulA ma mb)) := s_bin ((op_mulW.or (op_rep.or (op_repT.or op_repT2))).or op_mulS) (fMul_ok.or fMulS_ok) ha hb
/-! ### join -/
def strsD : List PyData → Option (List Str)
  | [] => some []
  | .str x :: r => match strsD r with
    | some xs => some (x :: xs)
    | none => none
  | _ :: _ => none
def fJoin (a b : PyData) : Option Rv := match a, itemsD b with
  | .str z, some ds => match strsD ds with
    | some ys => if (ys.map (·.length)).sum + ys.length * z.length ≤ 16777216 then some (.d (.str (Txt.join z ys))) else none
    | none => none
  | _, _ => none
def mJoin (ma mb : Ev) : Ev := fun ρ st => (mV ma ρ st).bind fun x s1 => match x with
  | .d (.str z) => (mV mb ρ s1).bind fun y s2 => view2 fJoin s2 x y
  | _ => .no
end
/-! ### enumerate of a tuple -/
section
open PyProof.Rows
theorem meets_enumerate_newT (l : Addr) (items : Array Value) (n : Nat) (dct : Option Addr) (sl : Array (Option Value)) :
    Meets (Builtin.«enumerate.__new__» ⟨[.type "enumerate", .ref l], []⟩) (fun _ R s => s.heap.get? l = some { cls := .type "tuple", dict := dct, data := .seq items n, slots := sl } ∧
      R (.ok (.ret (.ref (s.heap.push { cls := .type "tuple_iterator", data := .fields #[.ref l, .int 0 0] }).objs.size)))
        { s with heap := (s.heap.push { cls := .type "tuple_iterator", data := .fields #[.ref l, .int 0 0] }).push { cls := .type "enumerate", data := .fields #[.none, .bool false, .ref s.heap.objs.size, rawInt 0, .none, .none] } }) :=
  .of_wp fun prog w A R s h => by
    obtain ⟨hp, g, d, tk, os⟩ := s; obtain ⟨hl, h⟩ := h
    have hsub := sub_enumerate
    have hL : Heap.IsTuple (Shared.heap ⟨hp, g, d, tk, os⟩) l items := ⟨_, hl, rfl, n, rfl⟩
    wp_walk using AutoSeq1.wpAny_loadPart' hl
    refine wpAny_stack_any fun st => wpAny_pure ?_
    split
    · rename_i c _ _ _ _ _
      cases (c == Value.type "enumerate")
      · wp_walk using AutoSeq1.wpAny_loadPart' hl, wpAny_pyIter_tuple hL
        exact ⟨_, rfl, h⟩
      · wp_walk using AutoSeq1.wpAny_loadPart' hl, wpAny_pyIter_tuple hL
        exact ⟨_, rfl, h⟩
    · wp_walk using AutoSeq1.wpAny_loadPart' hl, wpAny_pyIter_tuple hL
      exact ⟨_, rfl, h⟩
variable {prog : Program} {w : World} {A : Around} {E : Value → Shared → Prop} {s : Shared}
theorem call_enumerate_tup {l : Addr} {items : Array Value} {Q : Value → Shared → Prop} (hL : s.heap.IsTuple l items)
    (h : ∀ h', IsEnum h' (s.heap.objs.size + 1) s.heap.objs.size 0 .none → h'.IsTupleIter s.heap.objs.size l 0 → h'.objs.size = s.heap.objs.size + 2 →
      (∀ b o, s.heap.get? b = some o → h'.get? b = some o) → Q (.ref (s.heap.objs.size + 1)) { s with heap := h' }) :
    wpAny (model prog w) A (call (.type "enumerate") [.ref l]) Q E s := by
  obtain ⟨⟨c, dct, dt, sl⟩, hl, hc, n, hd⟩ := hL
  replace hc : c = .type "tuple" := hc
  replace hd : dt = .seq items n := hd
  subst hc hd
  refine callType_new F.called_enumerate (by decide) (F.typeCall_enumerate_1 _) (F.newCall_enumerate_1 _) (fun obj => F.args_object_init_2 obj _) F.entry_enumerate_new
    (meets_enumerate_newT l items n dct sl) ⟨hl, ?_⟩
  have hz : (s.heap.push { cls := .type "tuple_iterator", data := .fields #[.ref l, .int 0 0] }).objs.size = s.heap.objs.size + 1 := Heap.size_push ..
  show _ ∧ _
  rw [hz]
  have he : IsEnum ((s.heap.push { cls := .type "tuple_iterator", data := .fields #[.ref l, .int 0 0] }).push
      { cls := .type "enumerate", data := .fields #[.none, .bool false, .ref s.heap.objs.size, rawInt 0, .none, .none] }) (s.heap.objs.size + 1) s.heap.objs.size 0 .none := by
    have := Heap.get?_push_size (s.heap.push { cls := .type "tuple_iterator", data := .fields #[.ref l, .int 0 0] })
      (o := { cls := .type "enumerate", data := .fields #[.none, .bool false, .ref s.heap.objs.size, rawInt 0, .none, .none] }) rfl
    rw [hz] at this; exact this
  refine ⟨⟨_, he, rfl⟩, h _ he ⟨_, Heap.get?_push_of_some _ (Heap.get?_push_size _ rfl), rfl, rfl⟩ (by rw [Heap.size_push, hz]) fun b o x => Heap.get?_push_of_some _ (Heap.get?_push_of_some _ x)⟩
/-- the tuple at a, each item in a new pair -/
def IteT (K : PySem.W.Frag) (a : Addr) : It :=
  ⟨fun i H => ∃ (xs : List V) (x : V), SqT K H a xs ∧ xs[i]? = some x, fun i H v H' => ∃ T x, v = .ref T ∧ H T = none ∧ H' = upd H T (.tup [.int (i : Nat), x]) ∧ ∀ xs, SqT K H a xs → xs[i]? = some x, fun i H => ∃ xs : List V, SqT K H a xs ∧ xs.length ≤ i⟩
theorem turn_enumT {P : Program} {w : World} {K : PySem.W.Frag} {elts : List Expr} {kk : Nat} {tpos : Pos} (a e it : Addr) (hai : a ≠ it) (hae : a ≠ e) :
    Turn P w K (.Tuple elts kk tpos) (IteT K a) [e, it] e (fun i h => (∃ old, IsEnum h e it ((i : Nat) : Int) old) ∧ h.IsTupleIter it a i ∧ e ≠ it) where
  mem := by simp
  obj := fun i h st b hb => by
    obtain ⟨⟨old, he⟩, ⟨o, ho, hc, hd⟩, _⟩ := st
    have e' : b = e ∨ b = it := by simpa using hb
    rcases e' with z | z
    · rw [z]; exact ⟨_, he, fun v q => nomatch q⟩
    · rw [z]; exact ⟨o, ho, fun v q => by rw [hd] at q; cases q⟩
  keep := fun i h h' st k => let ⟨⟨old, he⟩, hi, hne⟩ := st; ⟨⟨old, k e (by simp) _ he⟩, hi.at fun o q => k it (by simp) o q, hne⟩
  item := by
    intro X hP hw hK hc i pins s σ H E I hf st hg
    subst hP hw hK
    obtain ⟨⟨old, he⟩, hit, hne⟩ := st
    obtain ⟨xs, x, hq, hx⟩ := hg
    obtain ⟨its, rv, p, hz⟩ := I.tuple hq
    obtain ⟨u, hu, ru⟩ := rv.get hx
    have hel : e < s.heap.objs.size := Heap.lt_size he
    have hil : it < s.heap.objs.size := by obtain ⟨_, q, _⟩ := hit; exact Heap.lt_size q
    have hlt : i < its.toArray.size := by
      obtain ⟨z, _⟩ := List.getElem?_eq_some_iff.mp hu
      rw [List.size_toArray]; exact z
    have pt : s.heap.IsTuple a its.toArray := p
    refine wpAny_pyNext_enum_itemD (Draws.tuple (prog := X.prog) (w := X.w) (A := X.A.in1) (I.ok.hd hc) it a hai its.toArray) he ⟨hit, pt⟩ hlt hne (by simp [hne, Ne.symm hae]) fun x2 h' tk hp ho hit' hT hsz hk => ?_
    obtain rfl : u = x2 := by
      have : its.toArray[i]? = some u := by simpa using hu
      rw [this] at hp; cases hp; rfl
    refine ⟨_, rfl, wpAny_letOwnedTupleGo_enum (s := { s with heap := h', toks := tk + 1 }) ho fun h'' he' sb => ?_⟩
    have hT2 : h''.get? s.heap.objs.size = some { cls := .type "tuple", data := .seq #[.int i tk, u] } := (sb.2 _ (Nat.ne_of_gt hel)).trans hT
    have new : ObjOk X.prog X.w (upd H s.heap.objs.size (.tup [.int (i : Nat), x])) h'' s.heap.objs.size (.tup [.int (i : Nat), x]) :=
      ⟨by show 2 ≤ sizeLine; decide, [.int i tk, u], .cons ⟨_, rfl⟩ (.cons ru .nil), ⟨_, hT2, rfl, _, rfl⟩⟩
    have I1 : Inv X pins σ (upd H s.heap.objs.size (.tup [.int (i : Nat), x])) { s with heap := h'', toks := tk + 1 } :=
      I.turnedNew (ch := [e, it]) (fun b ob hb q => (sb.2 b (fun z => hb (by simp [z]))).trans (hk b ob (fun z => hb (by simp [z])) (fun z => hb (by simp [z])) q)) hf (Nat.le_refl _) new
    refine ⟨.ref s.heap.objs.size, _, I1, rfl, ⟨_, x, rfl, I.hok.fresh (Nat.le_refl _), rfl, fun ys hy => by rw [I.tuple_inj hy hq]; exact hx⟩, ⟨⟨u, ?_⟩, hit'.1.at fun o q => (sb.2 it (Ne.symm hne)).trans q, hne⟩, fun b hb => ?_⟩
    · have e1 : ((i + 1 : Nat) : Int) = (i : Int) + 1 := by omega
      rw [e1]; exact he'
    · have hb' : b < s.heap.objs.size := by
        have e' : b = e ∨ b = it := by simpa using hb
        rcases e' with z | z
        · rw [z]; exact hel
        · rw [z]; exact hil
      rw [upd_ne (Nat.ne_of_lt hb')]
      exact (hf b hb).1
  done := by
    intro X hP hw hK hc i pins s σ H E I hf st hg
    subst hP hw hK
    obtain ⟨⟨old, he⟩, hit, hne⟩ := st
    obtain ⟨xs, hq, hx⟩ := hg
    obtain ⟨its, rv, p, hz⟩ := I.tuple hq
    obtain ⟨f0, f1, f2, f3, f4, f5⟩ := hf it (by simp)
    have hl := rv.length
    have pt : s.heap.IsTuple a its.toArray := p
    have D := Draws.tuple (prog := X.prog) (w := X.w) (A := X.A.in1) (I.ok.hd hc) it a hai its.toArray
    have hT : s.TypeIs (.ref e) "enumerate" := ⟨_, he, rfl⟩
    unfold pyNext
    refine wpAny_bind (wpAny_attempt (wpAny_callSpecial?_slot (name := Str.ofString "__next__") hT F.slot_enumerate_next
      (wpAny_call_entry F.slot_enumerate_next hT F.entry_enumerate_next ?_ (F.args_enumerate_next_1 _))))
    show wpAny _ _ (field (.ref e) 2 >>= _) _ _ _
    refine wpAny_bind (wpAny_field he rfl (x := .ref it) rfl ?_)
    refine wpAny_bind (wpAny_nextOf_tuple_end (I.ok.hd hc) hit pt (by simp; omega) fun h' x he' hx' => ?_)
    obtain ⟨o, ho, hcc⟩ := hx'
    refine wpAny_bind (wpAny_isInstance (T := "StopIteration") (b := true) ⟨o, ho, hcc⟩ isSubtype_stop ?_)
    exact wpAny_pure ⟨rfl, I.turned (t' := s.toks) (fun b o hb q => he' b o hb q) f0 f1 f3 f4 f5⟩
  self := fun A i s Q E st h => let ⟨⟨_, he⟩, _⟩ := st; wpAny_pyIter_enum he h
def iEnumA (K : PySem.W.Frag) (ta : TA) : TI := fun σ H R => ta σ H fun vs H1 => ∃ a xs, vs = [.ref a] ∧ ((SqL K H1 a xs ∧ R (Ite K a) H1) ∨ (SqT K H1 a xs ∧ R (IteT K a) H1))
theorem pi_enumA {X : Cx} {e : Expr} {ta : TA} {p pos tpos : Pos} {elts : List Expr} {kk : Nat} (hg : Gl X "enumerate") (hm : X.mg "enumerate" = none) (ha : PA X [e] ta) (hs : starEach [e] X.env = [(false, eval e X.env)] := by rfl) :
    PI X (.Tuple elts kk tpos) (.Call (.Name "enumerate" p) [e] [] pos) (iEnumA X.K ta) := by
  refine ⟨fun pins s σ H R I h => ?_⟩
  refine Call_ (ld_blt I hg hm boot_enumerate (PyProof.Rows.callWith_type1 (thn (ha.run pos pins s σ H _ I h) fun us s1 ⟨vs, H1, I1, r1, q1⟩ => ?_) hs rfl))
  obtain ⟨a, xs, ex, q⟩ := q1
  subst ex
  cases r1 with
  | cons r rr =>
    cases rr
    cases r
    have fr : ∀ b, b ∈ [s1.heap.objs.size + 1, s1.heap.objs.size] → FpOk X pins H1 b := fun b hb => by
      have e' : b = s1.heap.objs.size + 1 ∨ b = s1.heap.objs.size := by simpa using hb
      have hle : s1.heap.objs.size ≤ b := by
        rcases e' with z | z
        · rw [z]; exact Nat.le_add_right _ _
        · rw [z]; exact Nat.le_refl _
      exact I1.fpOk hle (I1.hok.fresh hle)
    rcases q with ⟨hq, q⟩ | ⟨hq, q⟩
    · obtain ⟨its, rv, p', hz⟩ := I1.list hq
      refine call_enumerate_list p'.isList fun h' he hit hsz hk => wpAny_pyIter_enum he ?_
      have I2 : Inv X pins σ H1 { s1 with heap := h' } := I1.kept (t' := s1.toks) hk
      exact ⟨s1.heap.objs.size + 1, [s1.heap.objs.size + 1, s1.heap.objs.size], _, _, H1, rfl, I2, turn_enum a (s1.heap.objs.size + 1) s1.heap.objs.size, ⟨⟨.none, he⟩, hit, Nat.succ_ne_self _⟩, fr, q⟩
    · obtain ⟨its, rv, p', hz⟩ := I1.tuple hq
      have pt : s1.heap.IsTuple a its.toArray := p'
      have hal : a < s1.heap.objs.size := by obtain ⟨o, ho, _⟩ := id pt; exact Heap.lt_size ho
      refine call_enumerate_tup pt fun h' he hit hsz hk => wpAny_pyIter_enum he ?_
      have I2 : Inv X pins σ H1 { s1 with heap := h' } := I1.kept (t' := s1.toks) hk
      exact ⟨s1.heap.objs.size + 1, [s1.heap.objs.size + 1, s1.heap.objs.size], _, _, H1, rfl, I2, turn_enumT a (s1.heap.objs.size + 1) s1.heap.objs.size (Nat.ne_of_lt hal) (Nat.ne_of_lt (Nat.lt_succ_of_lt hal)), ⟨⟨.none, he⟩, hit, Nat.succ_ne_self _⟩, fr, q⟩
end
section
variable {X : Cx} {C : Cn} {p pos tpos : Pos} {e a b : Expr} {μ : Mu} {F H : Hp} {st : Sto} {mas : En → Sto → Res (List Vl)} {elts : List Expr} {kk : Nat}
def enumF : Nat → List PyData → List PyData
  | _, [] => []
  | i, d :: r => .tuple [.int (i : Nat), d] :: enumF (i + 1) r
theorem enumF_get : ∀ (ds : List PyData) (j i : Nat), (enumF j ds)[i]? = ds[i]?.map fun d => .tuple [.int ((j + i : Nat) : Int), d]
  | [], _, _ => rfl
  | d :: r, j, 0 => rfl
  | d :: r, j, i + 1 => by
    show (enumF (j + 1) r)[i]? = r[i]?.map _
    rw [enumF_get r (j + 1) i]
    congr 1
    funext d
    have : j + 1 + i = j + (i + 1) := by omega
    rw [this]
theorem enumF_len : ∀ (ds : List PyData) (j : Nat), (enumF j ds).length = ds.length
  | [], _ => rfl
  | d :: r, j => by show (enumF (j + 1) r).length + 1 = r.length + 1; rw [enumF_len]
/-- the source of enumerate -/
def srcEn (s : Sto) (xs : List Vl) : Option Src := match xs with
  | [.c k] => match s[k]? with
    | some (.l xs) => some (enumF 0 xs, some (k, xs))
    | _ => none
  | [.d (.list xs)] => some (enumF 0 xs, none)
  | [.d (.tuple xs)] => some (enumF 0 xs, none)
  | _ => none
def iEn (ma : En → Sto → Res (List Vl)) : En → Sto → Res Src := fun ρ st => (ma ρ st).bind fun xs s => okO (srcEn s xs) s
theorem SR.tupled {K : Kw} (r1 : SR K μ F H st) {T : Addr} {x y : V} {d d' : PyData} (hT : H T = none) (h : Dq K F x d) (h' : Dq K F y d') :
    ∃ F2, Ext μ F H μ F2 (upd H T (.tup [x, y])) ∧ SR K μ F2 (upd H T (.tup [x, y])) st ∧ Dq K F2 (.ref T) (.tuple [d, d']) := by
  obtain ⟨s1, x1⟩ := r1.newly (o := .tup [x, y]) hT
  have hd := r1.dead hT
  obtain ⟨s2, x2, sm⟩ := s1.freeze x1 r1.sub hT upd_same hd.1 hd.2
  exact ⟨_, x2, s2, .tup (.inl upd_same) (.cons (h.same sm) (.cons (h'.same sm) .nil))⟩
theorem wk_enum {K : PySem.W.Frag} {q : Addr} {ds : List PyData} {g : Option (Nat × List PyData)} (hx : ∀ μ1 F1 H1 st1, Sx μ F μ1 F1 → SR C.K μ1 F1 H1 st1 → Grd g (enumF 0 ds) st1 → ∃ ys, H1 q = some (.lst ys) ∧ DqAll C.K F1 ys ds) : Wk C.K (Ite K q) (enumF 0 ds) g μ F := by
  refine ⟨fun i μ1 F1 H1 st1 d x1 r1 k1 e => ?_, fun μ1 F1 H1 st1 x1 r1 k1 => ?_⟩
  · obtain ⟨ys, g1, g2⟩ := hx μ1 F1 H1 st1 x1 r1 k1
    rw [enumF_get] at e
    obtain ⟨d', e', rfl⟩ := Option.map_eq_some_iff.mp e
    obtain ⟨v, g3, g4⟩ := g2.get e'
    refine ⟨⟨ys, v, SqL.of g1, g3⟩, fun x H2 ⟨T, x', e1, e2, e3, e4⟩ => ?_⟩
    subst e1 e3
    have := e4 ys (SqL.of g1)
    rw [g3] at this
    cases this
    rw [Nat.zero_add]
    exact r1.tupled e2 (.int _) g4
  · obtain ⟨ys, g1, g2⟩ := hx μ1 F1 H1 st1 x1 r1 k1
    exact ⟨ys, SqL.of g1, by rw [enumF_len]; exact Nat.le_of_eq g2.length⟩
theorem wk_enumT {K : PySem.W.Frag} {xs : List V} {q : Addr} {ds : List PyData} {g : Option (Nat × List PyData)} (h1 : Rd F q (.tup xs)) (h2 : DqAll C.K F xs ds) : Wk C.K (IteT K q) (enumF 0 ds) g μ F := by
  refine ⟨fun i μ1 F1 H1 st1 d x1 r1 k1 e => ?_, fun μ1 F1 H1 st1 x1 r1 k1 => ?_⟩
  · have g1 : SqT K H1 q xs := SqT.rd r1.sub (same_rd x1.same h1)
    rw [enumF_get] at e
    obtain ⟨d', e', rfl⟩ := Option.map_eq_some_iff.mp e
    obtain ⟨v, g3, g4⟩ := (h2.same x1.same).get e'
    refine ⟨⟨xs, v, g1, g3⟩, fun x H2 ⟨T, x', e1, e2, e3, e4⟩ => ?_⟩
    subst e1 e3
    have := e4 xs (g1)
    rw [g3] at this
    cases this
    rw [Nat.zero_add]
    exact r1.tupled e2 (.int _) g4
  · exact ⟨xs, SqT.rd r1.sub (same_rd x1.same h1), by rw [enumF_len]; exact Nat.le_of_eq h2.length⟩
theorem i_enum (hg : Gl X "enumerate") (hm : X.mg "enumerate" = none) (ha : PA X [e] (tAs C mas)) (hs : starEach [e] X.env = [(false, eval e X.env)] := by rfl) : PI X (.Tuple elts kk tpos) (.Call (.Name "enumerate" p) [e] [] pos) (tI C (iEn mas)) :=
  (pi_enumA hg hm ha hs).imp fun σ H R ⟨ρ, st, μ, F, h1, h2, h3⟩ => ⟨ρ, st, μ, F, h1, h2, Post.bindA gW_lat h3 fun x s v μ1 F1 H1 x1 r1 k1 h4 => by
    cases q0 : srcEn s x with
    | none => simp only [q0, okO] at h4; exact False.elim h4
    | some sr =>
      simp only [q0, okO] at h4
      cases x with
      | nil => cases q0
      | cons y r =>
        cases r with
        | cons _ _ => cases y with
          | d z => cases z <;> cases q0
          | _ => cases q0
        | nil =>
          obtain ⟨v, rfl, k2⟩ := k1.one
          cases y with
          | s _ => cases q0
          | o _ => cases q0
          | c k =>
            cases q : s[k]? with
            | none => simp only [srcEn, q] at q0; cases q0
            | some cl =>
              cases cl with
              | m _ => simp only [srcEn, q] at q0; cases q0
              | l xs =>
                simp only [srcEn, q] at q0
                cases q0
                obtain ⟨pp, hp, rfl⟩ := k2
                obtain ⟨p', o', g1, g2, ys, rfl, g3⟩ := r1.cell k _ q
                rw [hp] at g1; cases g1
                refine ⟨pp, ys, rfl, .inl ⟨SqL.of g2, h4 _ μ1 F1 H1 Ext.refl r1 (wk_enum fun μ2 F2 H2 st2 x2 r2 k2 => ?_)⟩⟩
                obtain ⟨p2, o2, e1, e2, zs, rfl, e3⟩ := r2.cell k _ k2
                rw [x2.get hp] at e1; cases e1
                exact ⟨zs, e2, e3⟩
          | d z =>
            cases z with
            | list xs =>
              cases q0
              cases (show Dq C.K F1 v (.list xs) from k2) with
              | lst q1 q2 => exact ⟨_, _, rfl, .inl ⟨SqL.of (r1.sub _ _ q1), h4 _ μ1 F1 H1 Ext.refl r1 (wk_enum fun μ2 F2 H2 st2 x2 r2 k2 => ⟨_, r2.sub _ _ (x2.same _ _ q1), q2.same x2.same⟩)⟩⟩
            | tuple xs =>
              cases q0
              cases (show Dq C.K F1 v (.tuple xs) from k2) with
              | tup q1 q2 => exact ⟨_, _, rfl, .inr ⟨SqT.rd r1.sub q1, h4 _ μ1 F1 H1 Ext.refl r1 (wk_enumT q1 q2)⟩⟩
            | _ => cases q0⟩
end
end Cp
/-! Cr: constants of the module; sorted(set(ints)). -/
namespace Cp
open PySem L2 PySem.Spec
section
variable {X : Cx} {C : Cn} {x : Str} {pos : Pos}
theorem s_gs {z : Str} (hg : Gl X x) (h : ∃ t, X.mg x = some (.str z t)) (hd : (x == ("__debug__" : Str)) = false := by decide) : PE X (.Name x pos) (tM C (mK (.str z))) :=
  let ⟨t, h⟩ := h
  s_const (pe_glob (v := .str z) hg h ⟨t, rfl⟩ hd) fun _ => .str z
theorem s_gi {i : Int} (hg : Gl X x) (h : ∃ t, X.mg x = some (.int i t)) (hd : (x == ("__debug__" : Str)) = false := by decide) : PE X (.Name x pos) (tM C (mK (.int i))) :=
  let ⟨t, h⟩ := h
  s_const (pe_glob (v := .int i) hg h ⟨t, rfl⟩ hd) fun _ => .int i
end
end Cp
/-! Cm: what a meaning comes to, rule by rule (weakest preconditions), for the plain laws. -/
namespace Cp
open PySem L2
def WVe {α : Type} (E : Er → Sto → Prop) (r : Res α) (P : α → Sto → Prop) : Prop := match r with
  | .ok a s => P a s
  | .er e s => E e s
  | .no => False
def WO {α : Type} (o : Option α) (P : α → Prop) : Prop := match o with
  | some a => P a
  | none => False
def WSe (E : Er → Sto → Prop) (r : RS) (N B C : En → Sto → Prop) (R : Rv → Sto → Prop) : Prop := match r with
  | .nx ρ s => N ρ s
  | .bk ρ s => B ρ s
  | .ct ρ s => C ρ s
  | .rt r s => R r s
  | .er e s => E e s
  | .no => False
abbrev noE : Er → Sto → Prop := fun _ _ => False
/-- no error comes -/
@[simp] theorem noE_take (n : Nat) : (fun (e : Er) (s2 : Sto) => noE e (s2.take n)) = noE := rfl
section
variable {E : Er → Sto → Prop} {α β : Type} {P : α → Sto → Prop} {st : Sto} {ρ : En} {N B C : En → Sto → Prop} {R : Rv → Sto → Prop}
@[simp] theorem WO_some (a : α) (P : α → Prop) : WO (some a) P = P a := rfl
@[simp] theorem WO_none (P : α → Prop) : WO none P = False := rfl
@[simp] theorem WO_ite (c : Prop) [Decidable c] (a : α) (P : α → Prop) : WO (if c then some a else none) P = (c ∧ P a) := by by_cases h : c <;> simp [h]
@[simp] theorem WO_map (f : α → β) (o : Option α) (P : β → Prop) : WO (o.map f) P = WO o fun a => P (f a) := by cases o <;> rfl
@[simp] theorem WV_ok (a : α) : WVe E (.ok a st) P = P a st := rfl
@[simp] theorem WV_no : WVe E (.no : Res α) P = False := rfl
@[simp] theorem WV_bind (r : Res α) (f : α → Sto → Res β) (P : β → Sto → Prop) : WVe E (r.bind f) P = WVe E r fun a s => WVe E (f a s) P := by cases r <;> rfl
theorem WV_mono {r : Res α} {P Q : α → Sto → Prop} (h : WVe E r P) (w : ∀ a s, P a s → Q a s) : WVe E r Q := by cases r with
  | ok a s => exact w a s h
  | er e s => exact h
  | no => exact h
theorem WV_ex {r : Res α} (h : WVe noE r P) : ∃ a s, r = .ok a s ∧ P a s := by cases r with
  | ok a s => exact ⟨a, s, rfl, h⟩
  | er e s => exact False.elim h
  | no => exact False.elim h
@[simp] theorem WV_okO (o : Option α) : WVe E (okO o st) P = WO o fun a => P a st := by cases o <;> rfl
@[simp] theorem WV_okB (o : Option Bool) (P : Bool → Sto → Prop) : WVe E (okB o st) P = WO o fun a => P a st := by cases o <;> rfl
@[simp] theorem WS_toS (r : Res α) (k : α → Sto → RS) : WSe E (r.toS k) N B C R = WVe E r fun a s => WSe E (k a s) N B C R := by cases r <;> rfl
@[simp] theorem WS_nx (s : Sto) : WSe E (.nx ρ s) N B C R = N ρ s := rfl
@[simp] theorem WS_rt (r : Rv) (s : Sto) : WSe E (.rt r s) N B C R = R r s := rfl
@[simp] theorem WS_bk (s : Sto) : WSe E (.bk ρ s) N B C R = B ρ s := rfl
@[simp] theorem WS_ct (s : Sto) : WSe E (.ct ρ s) N B C R = C ρ s := rfl
@[simp] theorem WS_no : WSe E .no N B C R = False := rfl
/-! ### expressions -/
variable {m ma mb : Ev} {mas : En → Sto → Res (List Vl)} {PE : Rv → Sto → Prop} {PV : Vl → Sto → Prop} {PB : Bool → Sto → Prop} {PA : List Vl → Sto → Prop} {ca cb : En → Sto → Res Bool}
@[simp] theorem W_mV : WVe E (mV m ρ st) PV = WVe E (m ρ st) fun r s => PV (frz r) s := by unfold mV; rw [WV_bind]; rfl
/-- a value that nobody writes again -/
def given (r : Rv) (s : Sto) (P : Vl → Sto → Prop) : Prop := match r with
  | .c k => (match s[k]? with
    | some (.l xs) => P (.d (.list xs)) (s.set k gone)
    | _ => False)
  | r => P (frz r) s
@[simp] theorem given_d (c : PyData) (s : Sto) (P : Vl → Sto → Prop) : given (.d c) s P = P (.d c) s := rfl
@[simp] theorem given_n (c : Cl) (s : Sto) (P : Vl → Sto → Prop) : given (.n c) s P = P (frz (.n c)) s := rfl
@[simp] theorem given_c (k : Nat) (s : Sto) (P : Vl → Sto → Prop) : given (.c k) s P = match s[k]? with
    | some (.l xs) => P (.d (.list xs)) (s.set k gone)
    | _ => False := rfl
@[simp] theorem W_mVz : WVe E (mVz m ρ st) PV = WVe E (m ρ st) fun r s => given r s PV := by
  unfold mVz; rw [WV_bind]
  congr 1; funext r s
  cases r with
  | c k =>
    show WVe E (match s[k]? with
      | some (.l xs) => .ok (.d (.list xs)) (s.set k gone)
      | _ => .no) PV = match s[k]? with
      | some (.l xs) => PV (.d (.list xs)) (s.set k gone)
      | _ => False
    cases s[k]? with
    | none => rfl
    | some c => cases c <;> rfl
  | _ => rfl
/-- a value that is kept: a new object becomes a cell -/
def kept (r : Rv) (s : Sto) (P : Vl → Sto → Prop) : Prop := match r with
  | .n c => P (.c s.length) (s ++ [c])
  | r => P (frz r) s
@[simp] theorem kept_n (c : Cl) (s : Sto) (P : Vl → Sto → Prop) : kept (.n c) s P = P (.c s.length) (s ++ [c]) := rfl
@[simp] theorem kept_d (c : PyData) (s : Sto) (P : Vl → Sto → Prop) : kept (.d c) s P = P (.d c) s := rfl
@[simp] theorem kept_c (c : Nat) (s : Sto) (P : Vl → Sto → Prop) : kept (.c c) s P = P (.c c) s := rfl
@[simp] theorem W_mVc : WVe E (mVc m ρ st) PV = WVe E (m ρ st) fun r s => kept r s PV := by
  unfold mVc; rw [WV_bind]
  congr 1; funext r s
  cases r <;> rfl
@[simp] theorem frz_d (x : PyData) : frz (.d x) = .d x := rfl
@[simp] theorem frz_c (x : Nat) : frz (.c x) = .c x := rfl
@[simp] theorem frz_s (x : List Int) : frz (.s x) = .s x := rfl
@[simp] theorem frz_o (x : Ob) : frz (.o x) = .o x := rfl
@[simp] theorem frz_l (x : List PyData) : frz (.n (.l x)) = .d (.list x) := rfl
@[simp] theorem of_d (x : PyData) : Rv.of (.d x) = .d x := rfl
@[simp] theorem of_c (x : Nat) : Rv.of (.c x) = .c x := rfl
@[simp] theorem of_s (x : List Int) : Rv.of (.s x) = .s x := rfl
@[simp] theorem of_o (x : Ob) : Rv.of (.o x) = .o x := rfl
@[simp] theorem frz_of (x : Vl) : frz (Rv.of x) = x := by cases x <;> rfl
@[simp] theorem kept_of (x : Vl) (s : Sto) (P : Vl → Sto → Prop) : kept (Rv.of x) s P = P x s := by cases x <;> rfl
@[simp] theorem view_d (x : PyData) : view st (.d x) = some x := rfl
@[simp] theorem view_c (i : Nat) : view st (.c i) = match st[i]? with
  | some (.l xs) => some (.list xs)
  | some (.m kvs) => if isGone (.m kvs) then none else some (.dict kvs)
  | none => none := rfl
@[simp] theorem W_mK (x : PyData) : WVe E (mK x ρ st) PE = PE (.d x) st := rfl
@[simp] theorem W_mN (i : Nat) : WVe E (mN i ρ st) PE = WO (ρ[i]?) fun o => WO o fun x => PE (Rv.of x) st := by
  unfold mN
  cases h : ρ[i]? with
  | none => rfl
  | some o => cases o <;> rfl
@[simp] theorem W_mBin (f : PyData → PyData → Option Rv) : WVe E (mBin f ma mb ρ st) PE = WVe E (ma ρ st) fun r1 s1 => WVe E (mb ρ s1) fun r2 s2 => WO (view s2 (frz r1)) fun x => WO (view s2 (frz r2)) fun y => WO (f x y) fun r => PE r s2 := by
  unfold mBin; rw [WV_bind, W_mV]
  congr 1; funext r1 s1; rw [WV_bind, W_mV]
  congr 1; funext r2 s2
  unfold view2
  cases view s2 (frz r1) with
  | none => rfl
  | some x => cases view s2 (frz r2) with
    | none => rfl
    | some y => simp only [WO_some]; cases f x y <;> rfl
@[simp] theorem W_mSix : WVe E (mSix ma mb ρ st) PE = WVe E (ma ρ st) fun r1 s1 => WVe E (mb ρ s1) fun r2 s2 => match frz r1, frz r2 with
    | .s ns, .d (.int i) => WO (atI ns i) fun k => PE (.d (.int k)) s2
    | _, _ => False := by
  unfold mSix; rw [WV_bind, W_mV]
  congr 1; funext r1 s1; rw [WV_bind, W_mV]
  congr 1; funext r2 s2
  generalize frz r1 = v1
  generalize frz r2 = v2
  cases v1 with
  | s ns =>
    cases v2 with
    | d y =>
      cases y with
      | int i => dsimp only; cases atI ns i <;> rfl
      | _ => rfl
    | _ => rfl
  | _ => rfl
@[simp] theorem W_mCmp (g : PyData → PyData → Option Bool) : WVe E (mCmp g ma mb ρ st) PB = WVe E (ma ρ st) fun r1 s1 => WVe E (mb ρ s1) fun r2 s2 => WO (cmp2 g s2 (frz r1) (frz r2)) fun k => PB k s2 := by
  unfold mCmp; rw [WV_bind, W_mV]
  congr 1; funext r1 s1; rw [WV_bind, W_mV]
  congr 1; funext r2 s2; rw [WV_okB]
@[simp] theorem W_bV : WVe E (bV ca ρ st) PE = WVe E (ca ρ st) fun k s => PE (.d (.bool k)) s := by unfold bV; rw [WV_bind]; rfl
@[simp] theorem W_mCal (g : Sto → List Vl → Option Rv) : WVe E (mCal g mas ρ st) PE = WVe E (mas ρ st) fun xs s => WO (g s xs) fun r => PE r s := by
  unfold mCal; rw [WV_bind]
  congr 1; funext xs s
  cases g s xs <;> rfl
@[simp] theorem W_aNil : WVe E (aNil ρ st) PA = PA [] st := rfl
@[simp] theorem W_aCons {mv : En → Sto → Res Vl} {mr : En → Sto → Res (List Vl)} : WVe E (aCons mv mr ρ st) PA = WVe E (mv ρ st) fun x s1 => WVe E (mr ρ s1) fun xs s2 => PA (x :: xs) s2 := by
  unfold aCons; rw [WV_bind]
  congr 1; funext x s1; rw [WV_bind]; rfl
@[simp] theorem W_mTup : WVe E (mTup mas ρ st) PE = WVe E (mas ρ st) fun xs s => WO (allD xs) fun ds => ds.length ≤ sizeLine ∧ PE (.d (.tuple ds)) s := by
  unfold mTup; rw [WV_bind]
  congr 1; funext xs s
  cases h : allD xs with
  | none => rfl
  | some ds =>
    simp only [WO_some]
    by_cases hl : ds.length ≤ sizeLine
    · simp [hl]
    · simp [hl]
@[simp] theorem W_mLst : WVe E (mLst mas ρ st) PE = WVe E (mas ρ st) fun xs s => WO (allD xs) fun ds => ds.length ≤ sizeLine ∧ PE (.n (.l ds)) s := by
  unfold mLst; rw [WV_bind]
  congr 1; funext xs s
  cases h : allD xs with
  | none => rfl
  | some ds =>
    simp only [WO_some]
    by_cases hl : ds.length ≤ sizeLine
    · simp [hl]
    · simp [hl]
@[simp] theorem allD_nil : allD [] = some [] := rfl
@[simp] theorem allD_cons (x : PyData) (r : List Vl) : allD (.d x :: r) = (allD r).map (x :: ·) := by
  show (match allD r with | some xs => some (x :: xs) | none => none) = _
  cases allD r <;> rfl
@[simp] theorem W_eIf : WVe E (eIf ca ma mb ρ st) PE = WVe E (ca ρ st) fun k s => if k = true then WVe E (ma ρ s) PE else WVe E (mb ρ s) PE := by
  unfold eIf; rw [WV_bind]
  congr 1; funext k s
  cases k <;> simp
@[simp] theorem W_mNeg : WVe E (mNeg m ρ st) PE = WVe E (m ρ st) fun r s => WO ((view s (frz r)).bind fNeg) fun d => PE (.d d) s := by
  unfold mNeg; rw [WV_bind, W_mV]
  congr 1; funext r s
  cases (view s (frz r)).bind fNeg <;> rfl
@[simp] theorem W_mTru : WVe E (mTru m ρ st) PB = WVe E (m ρ st) fun r s => WO ((view s (frz r)).bind truD) fun k => PB k s := by
  unfold mTru; rw [WV_bind, W_mV]
  congr 1; funext r s; rw [WV_okB]
@[simp] theorem W_bNot : WVe E (bNot ca ρ st) PB = WVe E (ca ρ st) fun k s => PB (!k) s := by unfold bNot; rw [WV_bind]; rfl
@[simp] theorem W_bAnd : WVe E (bAnd ca cb ρ st) PB = WVe E (ca ρ st) fun k s => if k = true then WVe E (cb ρ s) PB else PB false s := by
  unfold bAnd; rw [WV_bind]
  congr 1; funext k s
  cases k <;> simp
@[simp] theorem W_bOr : WVe E (bOr ca cb ρ st) PB = WVe E (ca ρ st) fun k s => if k = true then PB true s else WVe E (cb ρ s) PB := by
  unfold bOr; rw [WV_bind]
  congr 1; funext k s
  cases k <;> simp
@[simp] theorem W_eNot : WVe E (eNot ma ρ st) PE = WVe E (ma ρ st) fun r s => match frz r with
    | .d (.bool k) => PE (.d (.bool !k)) s
    | _ => False := by
  unfold eNot; rw [WV_bind, W_mV]
  congr 1; funext r s
  split <;> simp_all
@[simp] theorem W_eAnd : WVe E (eAnd ma mb ρ st) PE = WVe E (ma ρ st) fun r s => match frz r with
    | .d (.bool true) => WVe E (mb ρ s) PE
    | .d (.bool false) => PE (.d (.bool false)) s
    | _ => False := by
  unfold eAnd; rw [WV_bind, W_mV]
  congr 1; funext r s
  split <;> simp_all
@[simp] theorem W_eOr : WVe E (eOr ma mb ρ st) PE = WVe E (ma ρ st) fun r s => match frz r with
    | .d (.bool true) => PE (.d (.bool true)) s
    | .d (.bool false) => WVe E (mb ρ s) PE
    | _ => False := by
  unfold eOr; rw [WV_bind, W_mV]
  congr 1; funext r s
  split <;> simp_all
@[simp] theorem W_mJoin : WVe E (mJoin ma mb ρ st) PE = WVe E (ma ρ st) fun r1 s1 => match frz r1 with
    | .d (.str z) => WVe E (mb ρ s1) fun r2 s2 => WO (view s2 (frz r2)) fun y => WO (fJoin (.str z) y) fun r => PE r s2
    | _ => False := by
  unfold mJoin; rw [WV_bind, W_mV]
  congr 1; funext r1 s1
  generalize frz r1 = v1
  cases v1 with
  | d y =>
    cases y with
    | str z =>
      dsimp only
      rw [WV_bind, W_mV]
      congr 1; funext r2 s2
      unfold view2
      simp only [view_d]
      cases view s2 (frz r2) with
      | none => rfl
      | some y => simp only [WO_some]; cases fJoin (.str _) y <;> rfl
    | _ => rfl
  | _ => rfl
/-- after a call: the callee's cells are forgotten -/
def back (n : Nat) (r : Rv) (s : Sto) (P : Rv → Sto → Prop) : Prop := match r with
  | .c i => if i < n then P (.c i) (s.take n) else WO s[i]? fun c => isGone c = false ∧ P (.n c) (s.take n)
  | r => P r (s.take n)
@[simp] theorem back_d (n : Nat) (x : PyData) (s : Sto) (P : Rv → Sto → Prop) : back n (.d x) s P = P (.d x) (s.take n) := rfl
@[simp] theorem back_n (n : Nat) (x : Cl) (s : Sto) (P : Rv → Sto → Prop) : back n (.n x) s P = P (.n x) (s.take n) := rfl
@[simp] theorem back_c (n : Nat) (i : Nat) (s : Sto) (P : Rv → Sto → Prop) : back n (.c i) s P = if i < n then P (.c i) (s.take n) else WO s[i]? fun c => isGone c = false ∧ P (.n c) (s.take n) := rfl
@[simp] theorem gone_l (xs : List PyData) : isGone (.l xs) = false := rfl
@[simp] theorem W_mCall (sem : Fs) : WVe E (mCall sem mas ρ st) PE = WVe E (mas ρ st) fun xs s => WVe (fun e s2 => E e (s2.take st.length)) (sem xs s) fun r s' => back st.length r s' PE := by
  unfold mCall; rw [WV_bind]
  congr 1; funext xs s
  cases sem xs s with
  | no => rfl
  | er e s => rfl
  | ok r s =>
    cases r with
    | d x => rfl
    | s x => rfl
    | o x => rfl
    | n x => rfl
    | c i =>
      unfold gcR back
      by_cases h : i < st.length
      · simp [h]
      · cases q : s[i]? with
        | none => simp [h, q]
        | some c => cases z : isGone c <;> simp [h, q, z]
theorem W_body (n k : Nat) (b : Sv) (args : List Vl) : WVe E (bodyF n k b args st) PE = (args.length = k ∧ WSe E (b (args.map some ++ List.replicate (n - args.length) none) st) (fun _ s => PE (.d .none) s) (fun _ _ => False) (fun _ _ => False) PE) := by
  unfold bodyF
  by_cases h : args.length = k
  · simp only [h, if_true, true_and]
    cases b (args.map some ++ List.replicate (n - k) none) st <;> rfl
  · simp [h]
@[simp] theorem W_oNone {PO : Option Int → Sto → Prop} : WVe E (oNone ρ st) PO = PO none st := rfl
@[simp] theorem W_oSome {PO : Option Int → Sto → Prop} : WVe E (oSome m ρ st) PO = WVe E (m ρ st) fun r s => match frz r with
    | .d (.int i) => PO (some i) s
    | _ => False := by
  unfold oSome; rw [WV_bind, W_mV]
  congr 1; funext r s
  generalize frz r = v
  cases v with
  | d y => cases y <;> rfl
  | _ => rfl
@[simp] theorem W_mSl {ml mh : En → Sto → Res (Option Int)} : WVe E (mSl ma ml mh ρ st) PE = WVe E (ma ρ st) fun r s1 => WVe E (ml ρ s1) fun l s2 => WVe E (mh ρ s2) fun h s3 => WO (view s3 (frz r)) fun d => WO (fSl d l h) fun r => PE r s3 := by
  unfold mSl; rw [WV_bind, W_mV]
  congr 1; funext r s1; rw [WV_bind]
  congr 1; funext l s2; rw [WV_bind]
  congr 1; funext h s3
  cases view s3 (frz r) with
  | none => rfl
  | some d => simp only [WO_some]; cases fSl d l h <;> rfl
@[simp] theorem fSl_t (xs : List PyData) (l h : Option Int) : fSl (.tuple xs) l h = some (.d (.tuple (cutD xs l h))) := rfl
@[simp] theorem fSl_l (xs : List PyData) (l h : Option Int) : fSl (.list xs) l h = some (.n (.l (cutD xs l h))) := rfl
theorem fAll_true (n : Nat) : fAll (.list (List.replicate n (.bool true))) = some (.d (.bool true)) := by
  have e3 : ∀ n, boolsD (List.replicate n (PyData.bool true)) = some (List.replicate n true) := by
    intro n
    induction n with
    | zero => rfl
    | succ n ih => rw [List.replicate_succ]; show (boolsD (List.replicate n (PyData.bool true))).map (true :: ·) = _; rw [ih]; rfl
  show (boolsD _).map (fun ns => Rv.d (.bool (ns.all fun b => b))) = _
  rw [e3]
  simp
/-! ### statements -/
variable {sa sb : Sv}
@[simp] theorem W_sNil : WSe E (sNil ρ st) N B C R = N ρ st := rfl
@[simp] theorem W_sSeq : WSe E (sSeq sa sb ρ st) N B C R = WSe E (sa ρ st) (fun ρ' s => WSe E (sb ρ' s) N B C R) B C R := by
  unfold sSeq
  cases sa ρ st <;> rfl
@[simp] theorem W_sAsg (g : Gm) (mv : En → Sto → Res Vl) : WSe E (sAsg g mv ρ st) N B C R = WVe E (mv ρ st) fun x s => WVe E (g x ρ s) fun ρ' s' => N ρ' s' := by
  unfold sAsg; rw [WS_toS]
  congr 1; funext x s; rw [WS_toS]; rfl
@[simp] theorem W_sRet : WSe E (sRet m ρ st) N B C R = WVe E (m ρ st) R := by unfold sRet; rw [WS_toS]; rfl
@[simp] theorem W_sRetN : WSe E (sRetN ρ st) N B C R = R (.d .none) st := rfl
@[simp] theorem W_sExp : WSe E (sExp m ρ st) N B C R = WVe E (m ρ st) fun _ s => N ρ s := by unfold sExp; rw [WS_toS]; rfl
@[simp] theorem W_sIf : WSe E (sIf ca sa sb ρ st) N B C R = WVe E (ca ρ st) fun k s => if k = true then WSe E (sa ρ s) N B C R else WSe E (sb ρ s) N B C R := by
  unfold sIf; rw [WS_toS]
  congr 1; funext k s
  cases k <;> simp
variable {PR : En → Sto → Prop}
@[simp] theorem W_gNm (i : Nat) (x : Vl) : WVe E (gNm i x ρ st) PR = PR (ρ.set i (some x)) st := rfl
@[simp] theorem W_gTp (n : Nat) (r : Gms) (ds : List PyData) : WVe E (gTp n r (.d (.tuple ds)) ρ st) PR = (ds.length = n ∧ WVe E (r ds ρ st) PR) := by
  unfold gTp
  by_cases h : ds.length = n <;> simp [h]
@[simp] theorem W_gNil : WVe E (gNil9 [] ρ st) PR = PR ρ st := rfl
@[simp] theorem W_gCons (g : Gm) (r : Gms) (d : PyData) (ds : List PyData) : WVe E (gCons9 g r (d :: ds) ρ st) PR = WVe E (g (.d d) ρ st) fun ρ' s => WVe E (r ds ρ' s) PR := by
  show WVe E ((g (.d d) ρ st).bind fun ρ' s => r ds ρ' s) PR = _
  rw [WV_bind]
@[simp] theorem W_gPl (d : PyData) : WVe E (gPl ma mb (.d d) ρ st) PR = WVe E (ma ρ st) fun o s1 => WVe E (mb ρ s1) fun i s2 => match frz o, frz i with
    | .c k, .d (.int j) => (match s2[k]? with
      | some (.l xs) => WO (ixN xs.length j) fun n => PR ρ (s2.set k (.l (xs.set n d)))
      | _ => False)
    | _, _ => False := by
  show WVe E ((mV ma ρ st).bind fun o s1 => (mV mb ρ s1).bind fun i s2 => match o, i with
    | .c k, .d (.int j) => match s2[k]? with
      | some (.l xs) => match ixN xs.length j with
        | some n => .ok ρ (s2.set k (.l (xs.set n d)))
        | none => .no
      | _ => .no
    | _, _ => .no) PR = _
  rw [WV_bind, W_mV]
  congr 1; funext o s1; rw [WV_bind, W_mV]
  congr 1; funext i s2
  generalize frz o = v1
  generalize frz i = v2
  cases v1 with
  | c k =>
    cases v2 with
    | d y =>
      cases y with
      | int j =>
        dsimp only
        cases s2[k]? with
        | none => rfl
        | some c =>
          cases c with
          | m _ => rfl
          | l xs => dsimp only; cases ixN xs.length j <;> rfl
      | _ => rfl
    | _ => rfl
  | _ => rfl
@[simp] theorem W_sPar2 (i j : Nat) : WSe E (sPar [i, j] mas ρ st) N B C R = WVe E (mas ρ st) fun xs s => match xs with
    | [x, y] => N ((ρ.set i (some x)).set j (some y)) s
    | _ => False := by
  unfold sPar; rw [WS_toS]
  congr 1; funext xs s
  match xs with
  | [] => rfl
  | [_] => rfl
  | [_, _] => rfl
  | _ :: _ :: _ :: _ => rfl
@[simp] theorem W_sPar3 (i j l : Nat) : WSe E (sPar [i, j, l] mas ρ st) N B C R = WVe E (mas ρ st) fun xs s => match xs with
    | [x, y, z] => N (((ρ.set i (some x)).set j (some y)).set l (some z)) s
    | _ => False := by
  unfold sPar; rw [WS_toS]
  congr 1; funext xs s
  match xs with
  | [] => rfl
  | [_] => rfl
  | [_, _] => rfl
  | [_, _, _] => rfl
  | _ :: _ :: _ :: _ :: _ => rfl
@[simp] theorem W_mApp : WVe E (mApp ma mb ρ st) PE = WVe E (ma ρ st) fun o s1 => WO (lstAt s1 (frz o)) fun _ => WVe E (mb ρ s1) fun y s2 => match frz o, frz y with
    | .c k, .d d => WO (lstAt s2 (.c k)) fun xs => xs.length < sizeLine ∧ PE (.d .none) (s2.set k (.l (xs ++ [d])))
    | _, _ => False := by
  unfold mApp; rw [WV_bind, W_mV]
  congr 1; funext o s1
  cases h : lstAt s1 (frz o) with
  | none => rfl
  | some zs =>
    simp only [WO_some]
    rw [WV_bind, W_mV]
    congr 1; funext y s2
    cases q1 : frz o with
    | d x => rfl
    | s x => rfl
    | o x => rfl
    | c k =>
      cases q2 : frz y with
      | c x => cases lstAt s2 (.c k) <;> rfl
      | s x => cases lstAt s2 (.c k) <;> rfl
      | o x => cases lstAt s2 (.c k) <;> rfl
      | d d =>
        dsimp only
        cases lstAt s2 (.c k) with
        | none => rfl
        | some xs =>
          simp only [WO_some, fApp]
          by_cases hl : xs.length < sizeLine <;> simp [hl]
@[simp] theorem W_mExt : WVe E (mExt ma mb ρ st) PE = WVe E (ma ρ st) fun o s1 => WO (lstAt s1 (frz o)) fun _ => WVe E (mb ρ s1) fun y s2 => match frz o with
    | .c k => WO (lstAt s2 (.c k)) fun xs => WO (view s2 (frz y)) fun d => WO (fExt xs d) fun zs => PE (.d .none) (s2.set k (.l zs))
    | _ => False := by
  unfold mExt; rw [WV_bind, W_mV]
  congr 1; funext o s1
  cases h : lstAt s1 (frz o) with
  | none => rfl
  | some zs =>
    simp only [WO_some]
    rw [WV_bind, W_mV]
    congr 1; funext y s2
    cases q1 : frz o with
    | d x => rfl
    | s x => rfl
    | o x => rfl
    | c k =>
      dsimp only
      cases lstAt s2 (.c k) with
      | none => rfl
      | some xs =>
        simp only [WO_some]
        cases view s2 (frz y) with
        | none => rfl
        | some d => simp only [WO_some]; cases fExt xs d <;> rfl
@[simp] theorem lstAt_c (k : Nat) : lstAt st (.c k) = match st[k]? with
  | some (.l xs) => some xs
  | _ => none := rfl
/-! ### iterations -/
variable {PI : Src → Sto → Prop}
@[simp] theorem W_iOf : WVe E (iOf m ρ st) PI = WVe E (m ρ st) fun r s => WO (srcOf s (frz r)) fun dg => PI dg s := by
  unfold iOf; rw [WV_bind, W_mV]
  congr 1; funext r s; rw [WV_okO]
@[simp] theorem W_iEn : WVe E (iEn mas ρ st) PI = WVe E (mas ρ st) fun xs s => WO (srcEn s xs) fun dg => PI dg s := by
  unfold iEn; rw [WV_bind]
  congr 1; funext xs s; rw [WV_okO]
@[simp] theorem W_iRg1 : WVe E (iRg1 mas ρ st) PI = WVe E (mas ρ st) fun xs s => WO (oneI xs) fun j => rOk 0 j = true ∧ PI (rngD 0 j, none) s := by
  unfold iRg1; rw [WV_bind]
  congr 1; funext xs s
  cases oneI xs with
  | none => rfl
  | some j =>
    simp only [WO_some]
    by_cases hl : rOk 0 j = true <;> simp [hl]
@[simp] theorem W_iRg2 : WVe E (iRg2 mas ρ st) PI = WVe E (mas ρ st) fun xs s => WO (twoI xs) fun j => rOk j.1 j.2 = true ∧ PI (rngD j.1 j.2, none) s := by
  unfold iRg2; rw [WV_bind]
  congr 1; funext xs s
  cases twoI xs with
  | none => rfl
  | some j =>
    simp only [WO_some]
    by_cases hl : rOk j.1 j.2 = true <;> simp [hl]
/-- a loop, by what stands at each turn -/
theorem forGo_by {g : Gm} {b : Sv} {gd : Option (Nat × List PyData)} {all : List PyData} (I : Nat → En → Sto → Prop) (ds : List PyData) (j : Nat) (h0 : I j ρ st) (hg : ∀ i ρ s, I i ρ s → Grd gd all s)
    (hs : ∀ (i : Nat) (d : PyData) (ρ : En) (s : Sto), ds[i]? = some d → I (j + i) ρ s → WVe E (g (.d d) ρ s) fun ρ1 s1 => WSe E (b ρ1 s1) (I (j + i + 1)) N (I (j + i + 1)) R) (he : ∀ ρ s, I (j + ds.length) ρ s → N ρ s) :
    WSe E (forGo g b gd all ds ρ st) N B C R := by
  induction ds generalizing j ρ st with
  | nil =>
    unfold forGo
    rw [if_pos (hg _ _ _ h0)]
    exact he _ _ h0
  | cons d r ih =>
    unfold forGo
    rw [if_pos (hg _ _ _ h0), WS_toS]
    refine WV_mono (hs 0 d ρ st rfl h0) fun ρ1 s1 h1 => ?_
    have next : ∀ ρ2 s2, I (j + 1) ρ2 s2 → WSe E (forGo g b gd all r ρ2 s2) N B C R := fun ρ2 s2 h2 => ih (j + 1) h2 (fun i d ρ s e h => by
      have := hs (i + 1) d ρ s (by simpa using e) (by rw [show j + (i + 1) = j + 1 + i by omega]; exact h)
      rw [show j + (i + 1) + 1 = j + 1 + i + 1 by omega] at this
      exact this) fun ρ s h => he ρ s (by rw [List.length_cons, show j + (r.length + 1) = j + 1 + r.length by omega]; exact h)
    cases q : b ρ1 s1 with
    | nx ρ2 s2 => rw [q] at h1; exact next _ _ h1
    | ct ρ2 s2 => rw [q] at h1; exact next _ _ h1
    | bk ρ2 s2 => rw [q] at h1; exact h1
    | rt v s2 => rw [q] at h1; exact h1
    | er x s2 => rw [q] at h1; exact h1
    | no => rw [q] at h1; exact h1
@[simp] theorem W_sFor (mi : En → Sto → Res Src) (g : Gm) (b : Sv) : WSe E (sFor mi g b ρ st) N B C R = WVe E (mi ρ st) fun dg s => WSe E (forGo g b dg.2 dg.1 dg.1 ρ s) N B C R := by
  unfold sFor; rw [WS_toS]
theorem lcGo_by {g : Gm} {tt : En → Sto → Res Bool} {te : Ev} {gd : Option (Nat × List PyData)} {all : List PyData} {P : List PyData → Sto → Prop} (I : Nat → Sto → List PyData → Prop) (ds : List PyData) (j : Nat) (acc : List PyData) (h0 : I j st acc) (hg : ∀ i s a, I i s a → Grd gd all s)
    (hs : ∀ (i : Nat) (d : PyData) (s : Sto) (a : List PyData), ds[i]? = some d → I (j + i) s a → WVe noE (g (.d d) ρ s) fun ρ1 s1 => WVe noE (tt ρ1 s1) fun k s2 => if k = true then WVe noE (te ρ1 s2) fun r s3 => ∃ y, frz r = .d y ∧ a.length < sizeLine ∧ I (j + i + 1) s3 (a ++ [y]) else I (j + i + 1) s2 a)
    (he : ∀ s a, I (j + ds.length) s a → P a s) : WVe E (lcGo g tt te gd all ρ ds st acc) P := by
  induction ds generalizing j st acc with
  | nil =>
    unfold lcGo
    rw [if_pos (hg _ _ _ h0)]
    exact he _ _ h0
  | cons d r ih =>
    unfold lcGo
    rw [if_pos (hg _ _ _ h0)]
    have h1 := hs 0 d st acc rfl h0
    have next : ∀ s2 a2, I (j + 1) s2 a2 → WVe E (lcGo g tt te gd all ρ r s2 a2) P := fun s2 a2 h2 => ih (j + 1) a2 h2 (fun i d s a e h => by
      have := hs (i + 1) d s a (by simpa using e) (by rw [show j + (i + 1) = j + 1 + i by omega]; exact h)
      rw [show j + (i + 1) + 1 = j + 1 + i + 1 by omega] at this
      exact this) fun s a h => he s a (by rw [List.length_cons, show j + (r.length + 1) = j + 1 + r.length by omega]; exact h)
    cases q : g (.d d) ρ st with
    | ok ρ1 s1 =>
      rw [q, WV_ok] at h1
      simp only []
      cases q2 : tt ρ1 s1 with
      | ok k s2 =>
        rw [q2, WV_ok] at h1
        cases k with
        | false => simp only [Bool.false_eq_true, if_false] at h1; exact next _ _ h1
        | true =>
          simp only [if_true] at h1
          cases q3 : te ρ1 s2 with
          | ok rr s3 =>
            rw [q3, WV_ok] at h1
            obtain ⟨y, e1, e2, e3⟩ := h1
            have e4 : mV te ρ1 s2 = .ok (.d y) s3 := by unfold mV; rw [q3]; show Res.ok (frz rr) s3 = _; rw [e1]
            simp only [e4, if_pos e2]
            exact next _ _ e3
          | er x s2 => rw [q3] at h1; exact False.elim h1
          | no => rw [q3] at h1; exact False.elim h1
      | er x s2 => rw [q2] at h1; exact False.elim h1
      | no => rw [q2] at h1; exact False.elim h1
    | er x s2 => rw [q] at h1; exact False.elim h1
    | no => rw [q] at h1; exact False.elim h1
theorem forGo_n {g : Gm} {b : Sv} {all : List PyData} : WSe E (forGo g b none all [] ρ st) N B C R = N ρ st := by
  rw [forGo, if_pos (show Grd none all st from trivial)]; rfl
theorem forGo_c {g : Gm} {b : Sv} {all r : List PyData} {d : PyData} : WSe E (forGo g b none all (d :: r) ρ st) N B C R = WVe E (g (.d d) ρ st) fun ρ1 s1 => WSe E (b ρ1 s1) (fun ρ2 s2 => WSe E (forGo g b none all r ρ2 s2) N B C R) N (fun ρ2 s2 => WSe E (forGo g b none all r ρ2 s2) N B C R) R := by
  rw [forGo, if_pos (show Grd none all st from trivial), WS_toS]
  congr 1; funext ρ1 s1
  cases b ρ1 s1 <;> rfl
@[simp] theorem W_mLc (mi : En → Sto → Res Src) (g : Gm) (tt : En → Sto → Res Bool) (te : Ev) (vs : List Nat) : WVe E (mLc mi g tt te vs ρ st) PE = WVe E (mi ρ st) fun dg s => WVe E (lcGo g tt te dg.2 dg.1 (wipeE ρ vs) dg.1 s []) fun ys s' => PE (.n (.l ys)) s' := by
  unfold mLc; rw [WV_bind]
  congr 1; funext dg s; rw [WV_bind]; rfl
@[simp] theorem W_mLc2 (mi : En → Sto → Res Src) (g : Gm) (tt : En → Sto → Res Bool) (mi1 : En → Sto → Res Src) (g1 : Gm) (tt1 : En → Sto → Res Bool) (te : Ev) (vs vs1 : List Nat) : WVe E (mLc2 mi g tt mi1 g1 tt1 te vs vs1 ρ st) PE = WVe E (mi ρ st) fun dg s => WVe E (lc2Go g tt mi1 g1 tt1 te dg.2 dg.1 vs1 (wipeE ρ vs) dg.1 s []) fun ys s' => PE (.n (.l ys)) s' := by
  unfold mLc2; rw [WV_bind]
  congr 1; funext dg s; rw [WV_bind]; rfl
@[simp] theorem W_ttY : WVe E (ttY ρ st) PB = PB true st := rfl
@[simp] theorem W_mLr (mi : En → Sto → Res (Int × Int)) : WVe E (mLr mi ρ st) PE = WVe E (mi ρ st) fun ij s => (rOk ij.1 ij.2 = true ∧ (ij.2 - ij.1).toNat ≤ 2 ^ 24) ∧ PE (.n (.l (rngD ij.1 ij.2))) s := by
  unfold mLr; rw [WV_bind]
  congr 1; funext ij s
  by_cases h : rOk ij.1 ij.2 = true ∧ (ij.2 - ij.1).toNat ≤ 2 ^ 24
  · rw [if_pos h]; simp [h]
  · rw [if_neg h]; exact propext ⟨fun z => False.elim z, fun z => h z.1⟩
/-! ### operators at ints, texts -/
@[simp] theorem fAdd_i (i j : Int) : fAdd (.int i) (.int j) = some (.d (.int (i + j))) := rfl
@[simp] theorem fAdd_s (i j : Str) : fAdd (.str i) (.str j) = if i.length + j.length ≤ sizeLine then some (.d (.str (i ++ j))) else none := rfl
@[simp] theorem fAdd_t (i j : List PyData) : fAdd (.tuple i) (.tuple j) = if i.length + j.length ≤ sizeLine then some (.d (.tuple (i ++ j))) else none := rfl
@[simp] theorem fAdd_l (i j : List PyData) : fAdd (.list i) (.list j) = if i.length + j.length ≤ sizeLine then some (.n (.l (i ++ j))) else none := rfl
@[simp] theorem fI_i (p : Int → Int → Bool) (g : Int → Int → Int) (i j : Int) : fI p g (.int i) (.int j) = if p i j = true then some (.d (.int (g i j))) else none := rfl
@[simp] theorem fMulA_i (i j : Int) : fMulA (.int i) (.int j) = if pMul i j = true then some (.d (.int (i * j))) else none := by
  show (match (if pMul i j = true then some (Rv.d (.int (i * j))) else none) with | some z => some z | none => none) = _
  by_cases h : pMul i j = true <;> simp [h]
@[simp] theorem fMulA_s (i : Str) (k : Int) : fMulA (.str i) (.int k) = if -(2 ^ 63) ≤ k ∧ k < 2 ^ 63 ∧ i.length * k.toNat ≤ sizeLine then some (.d (.str (Txt.mul i k))) else none := rfl
@[simp] theorem fIx_l (xs : List PyData) (i : Int) : fIx (.list xs) (.int i) = (atI xs i).map .d := rfl
@[simp] theorem fIx_t (xs : List PyData) (i : Int) : fIx (.tuple xs) (.int i) = (atI xs i).map .d := rfl
@[simp] theorem g1_d (f : PyData → Option Rv) (x : PyData) : g1 f st [.d x] = f x := rfl
@[simp] theorem g1_c (f : PyData → Option Rv) (i : Nat) : g1 f st [.c i] = (view st (.c i)).bind f := by
  show (match view st (.c i) with | some d => f d | none => none) = _
  cases view st (.c i) <;> rfl
@[simp] theorem gLen_s (ns : List Int) : gLen st [.s ns] = some (.d (.int ns.length)) := rfl
@[simp] theorem gLen_d (d : PyData) : gLen st [.d d] = fLen d := rfl
@[simp] theorem gLen_c (i : Nat) : gLen st [.c i] = (view st (.c i)).bind fLen := g1_c fLen i
@[simp] theorem fLen_l (xs : List PyData) : fLen (.list xs) = some (.d (.int xs.length)) := rfl
@[simp] theorem fLen_t (xs : List PyData) : fLen (.tuple xs) = some (.d (.int xs.length)) := rfl
@[simp] theorem gII_i (f : Int → Int → Int) (i j : Int) : gII f st [.d (.int i), .d (.int j)] = some (.d (.int (f i j))) := rfl
@[simp] theorem fAbs_i (i : Int) : fAbs (.int i) = some (.d (.int (if i < 0 then -i else i))) := rfl
@[simp] theorem fInt_i (i : Int) : fInt (.int i) = some (.d (.int i)) := rfl
@[simp] theorem fInt_b (i : Bool) : fInt (.bool i) = some (.d (.int (if i then 1 else 0))) := rfl
/-- the text of an int -/
def txI (i : Int) : Str := Str.ofString (toString i)
@[simp] theorem fStr_i (i : Int) : fStr (.int i) = if i.natAbs.log2 < 1920 then some (.d (.str (txI i))) else none := rfl
@[simp] theorem fTuple_l (xs : List PyData) : fTuple (.list xs) = some (.d (.tuple xs)) := rfl
@[simp] theorem fTuple_t (xs : List PyData) : fTuple (.tuple xs) = some (.d (.tuple xs)) := rfl
@[simp] theorem fList_l (xs : List PyData) : fList (.list xs) = some (.n (.l xs)) := rfl
@[simp] theorem fList_t (xs : List PyData) : fList (.tuple xs) = some (.n (.l xs)) := rfl
@[simp] theorem fNeg_i (i : Int) : fNeg (.int i) = some (.int (-i)) := rfl
@[simp] theorem gI_i (p : Int → Int → Bool) (i j : Int) : gI p (.int i) (.int j) = some (p i j) := rfl
theorem cmp2_of {g : PyData → PyData → Option Bool} {x y : Vl} {a b : PyData} (h1 : view st x = some a) (h2 : view st y = some b) : cmp2 g st x y = g a b := by
  unfold cmp2; rw [h1, h2]
@[simp] theorem cmp2_dd (g : PyData → PyData → Option Bool) (a b : PyData) : cmp2 g st (.d a) (.d b) = g a b := rfl
@[simp] theorem oneI_i (j : Int) : oneI [.d (.int j)] = some j := rfl
@[simp] theorem twoI_i (i j : Int) : twoI [.d (.int i), .d (.int j)] = some (i, j) := rfl
@[simp] theorem srcOf_l (xs : List PyData) : srcOf st (.d (.list xs)) = some (xs, none) := rfl
@[simp] theorem srcOf_tp (xs : List PyData) : srcOf st (.o (.tp xs)) = some (xs, none) := rfl
@[simp] theorem srcOf_t (xs : List PyData) : srcOf st (.d (.tuple xs)) = some (xs, none) := rfl
@[simp] theorem srcEn_l (xs : List PyData) : srcEn st [.d (.list xs)] = some (enumF 0 xs, none) := rfl
@[simp] theorem srcEn_t (xs : List PyData) : srcEn st [.d (.tuple xs)] = some (enumF 0 xs, none) := rfl
@[simp] theorem Grd_none (ds : List PyData) : Grd none ds st = True := rfl
@[simp] theorem atI_zero {α : Type} (x : α) (xs : List α) : atI (x :: xs) 0 = some x := by
  unfold atI ixN
  simp
theorem atI_at {α : Type} {xs : List α} {i : Int} {k : Nat} (h : i = (k : Nat)) (hk : k < xs.length) : atI xs i = xs[k]? := by
  subst h
  unfold atI ixN
  rw [if_pos (by omega), if_pos (by omega)]
  rfl
theorem pMul_of {i j : Int} {a b : Nat} (hi : i.natAbs < 2 ^ a) (hj : j.natAbs < 2 ^ b) (hab : a + b < 1000000) : pMul i j = true := by
  have lg : ∀ (n k : Nat), n < 2 ^ k → n.log2 ≤ k := fun n k h => by
    by_cases hn : n = 0
    · subst hn; simp
    · exact Nat.le_of_lt ((Nat.log2_lt hn).mpr h)
  unfold pMul
  have := lg _ _ hi
  have := lg _ _ hj
  exact decide_eq_true (by omega)
end
end Cp
/-! Ce: errors of the program's own: raised, caught, kept in a name, asked. -/
namespace Cp
open PySem PySem.Spec PyProof.Rows L2
section
variable {X : Cx} {C : Addr} {bmB : List Value} {B newId initId : String}
/-- X(), made without arguments -/
theorem pmk_own0 {x : Str} {p pos : Pos} (F : ExcBaseFacts B newId initId bmB) (q : PySem.W.excIn X.K C bmB newId = true) (gC : X.mg x = some (.ref C)) (kC : PySem.W.keepIn X.K (.ref C) = true) (r : Raises X (.ref C)) (hg : Gl X x)
    (hdb : (x == ("__debug__" : Str)) = false := by decide) : PMk X (.Call (.Name x p) [] [] pos) (fun _ H Q => Q (.ref C) none H) := by
  intro pins s σ H Q I h
  refine wpAny_Call_Name_kw (ld_glob I hg gC ?_ hdb)
  refine PySem.W.callWith_K0 I.kIn kC ?_
  show wpAny _ _ (call (.ref C) []) _ _ _
  obtain ⟨bm, N, nm, qn, bs, hdct, sn, sub, ab, col, dd, k0, k1, k2, k3, k5, mN, hC, hN, hni, T⟩ := exc_obj I.kIn q
  refine wpAny_call_exc_subT F T hC hN hni (fun h' e hm => ?_) (Nat.zero_le _)
  exact mk_of I hm r h (I.hok.gone hm.new)
/-- raise X() -/
def sRaise (x : Str) : Sv := fun _ st => .er ⟨x, none⟩ st
theorem x_raise0 {k : Nat} {Cc : Cn} {x : Str} {p pos pos' : Pos} (Bb : Bd k X Cc) (gC : X.mg x = some (.ref (He.ga X.K x)))
    (c : PySem.W.excIn X.K (He.ga X.K x) He.veBase "ValueError.__new__" = true ∧ PySem.W.keepIn X.K (.ref (He.ga X.K x)) = true ∧ PySem.W.subIn X.K (.ref (He.ga X.K x)) (.type "BaseException") = some true ∧ PySem.W.typeIn X.K (.ref (He.ga X.K x)) = some (.type "type"))
    (hg : Gl X x) (hdb : (x == ("__debug__" : Str)) = false := by decide) : PS X (.Raise (some (.Call (.Name x p) [] [] pos)) none pos') (tS Cc (sRaise x)) :=
  (ps_raise Bb.cm Bb.tk (pmk_own0 PySem.F.excBase_ValueError c.1 gC c.2.1 (raises_own c.2.2.1 c.2.2.2) hg hdb)).imp fun D σ H ⟨ρ, st, μ, F, h1, h2, h3⟩ => by
    have h3 : Erw (Cc.at σ) μ F H ⟨x, none⟩ st := h3
    exact h3 (.ref (He.ga X.K x)) none μ F H Ext.refl h2 ⟨by rw [← Bb.hK], rfl⟩
end
/-- raise X(e): the value is data -/
def sRaise1 (x f : Str) (ma : En → Sto → Res (List Vl)) : Sv := fun ρ st => (ma ρ st).toS fun xs s => match xs with
  | [.d y] => .er ⟨x, some (f, y)⟩ s
  | _ => .no
/-! ### try: body, except x as n: suite, the error kept -/
/-- which of the named classes an except clause takes -/
abbrev Cat := List (Str × Bool)
/-- try: .. except .. as n (slot i): suite -/
def sTry (i : Nat) (cat : Cat) (sb ss : Sv) : Sv := fun ρ st => match sb ρ st with
  | .er e s => match cat.lookup e.cls with
    | some true => match ss (ρ.set i (some (.o (.er e)))) s with
      | .nx ρ' s' => .nx (ρ'.set i none) s'
      | .bk ρ' s' => .bk (ρ'.set i none) s'
      | .ct ρ' s' => .ct (ρ'.set i none) s'
      | .rt r s' => .rt r s'
      | .er _ _ => .no
      | .no => .no
    | some false => .er e s
    | none => .no
  | r => r
section
variable {X : Cx} {C : Cn} {k : Nat} {x n : Str} {i : Nat} {b : Stmt} {suite : List Stmt} {b₀ : Stmt} {np pos pos' : Pos} {sb ss : Sv} {cat : Cat}
/-- try: .. except ..: suite -/
def sTryN (cat : Cat) (sb ss : Sv) : Sv := fun ρ st => match sb ρ st with
  | .er e s => match cat.lookup e.cls with
    | some true => match ss ρ s with
      | .er _ _ => .no
      | r => r
    | some false => .er e s
    | none => .no
  | r => r
end
end Cp
/-! Ct: isinstance, zip, chains of comparisons. -/
namespace Cp
open PySem L2
section
variable {X : Cx} {C : Cn} {Q : VK} {μ : Mu} {F H : Hp} {st : Sto} {e a b c : Expr} {m ma mb mc : Ev} {pos p p2 tpos : Pos} {mas : En → Sto → Res (List Vl)} {elts : List Expr} {kk : Nat}
/-! ### chains -/
def mChn (g g' : PyData → PyData → Option Bool) (ma mb mc : Ev) : En → Sto → Res Bool := fun ρ st => (mV ma ρ st).bind fun x s1 => (mV mb ρ s1).bind fun y s2 => match cmp2 g s2 x y with
  | some true => (mV mc ρ s2).bind fun z s3 => okB (cmp2 g' s3 y z) s3
  | some false => .ok false s2
  | none => .no
theorem cmp2_ok {r : R2} {g : PyData → PyData → Option Bool} (ok : CmpOk C r g) {x y : Vl} {v u : V} {k : Bool} {R : VK} (s : SR C.K μ F H st) (kx : Vok C.K F μ x v) (ky : Vok C.K F μ y u) (e : cmp2 g st x y = some k) (q : R (.bl k) H) : r v u H R := by
  unfold cmp2 at e
  cases q1 : view st x with
  | none => simp only [q1] at e; cases e
  | some da =>
    cases q2 : view st y with
    | none => simp only [q1, q2] at e; cases e
    | some db =>
      simp only [q1, q2] at e
      exact ok da db k v u μ F H st R s (view_ok s kx q1) (view_ok s ky q2) e q
theorem chn_core {β : Type} {G : β → Sto → Mu → Hp → Hp → Prop} (gl : Lat G) {r r' : R2} {g g' : PyData → PyData → Option Bool} (ok : CmpOk C r g) (ok' : CmpOk C r' g') {σ : St} {ρ : En} {R : VK} (h1 : Eok C.K F μ ρ σ) {kk : Bool → Sto → Res β}
    (h3 : Post (C.at σ) G μ F H ((mChn g g' ma mb mc ρ st).bind kk)) (fin : ∀ k s μ1 F1 H1, Ext μ F H μ1 F1 H1 → SR C.K μ1 F1 H1 s → Post (C.at σ) G μ1 F1 H1 (kk k s) → R (.bl k) H1) :
    PostV (C.at σ) (fun x H1 => tV C (mV mb) σ H1 fun y H2 => r x y H2 fun z H3 => ∃ k, z = .bl k ∧ (if k = true then tV C (mV mc) σ H3 fun w' H4 => r' y w' H4 R else R (.bl false) H3)) μ F H (mV ma ρ st) := by
  have e1 : (mChn g g' ma mb mc ρ st).bind kk = (mV ma ρ st).bind fun x s1 => (mV mb ρ s1).bind fun y s2 => (match cmp2 g s2 x y with
    | some true => (mV mc ρ s2).bind fun z s3 => (okB (cmp2 g' s3 y z) s3).bind kk
    | some false => kk false s2
    | none => .no) := by
    unfold mChn
    cases mV ma ρ st with
    | ok x s1 =>
      simp only [Res.bind]
      cases mV mb ρ s1 with
      | ok y s2 =>
        simp only []
        cases cmp2 g s2 x y with
        | none => rfl
        | some k =>
          cases k with
          | false => rfl
          | true => simp only []; cases mV mc ρ s2 <;> rfl
      | er _ _ => rfl
      | no => rfl
    | er _ _ => rfl
    | no => rfl
  rw [e1] at h3
  refine Post.bindV gl h3 fun x s v μ1 F1 H1 x1 r1 k1 h4 => ⟨ρ, s, μ1, F1, h1.ext x1, r1, Post.bindV gl h4 fun y s2 u μ2 F2 H2 x2 r2 k2 h5 => ?_⟩
  cases q : cmp2 g s2 x y with
  | none => simp only [q] at h5; exact False.elim h5
  | some k =>
    refine cmp2_ok ok r2 (k1.ext x2) k2 q ⟨k, rfl, ?_⟩
    cases k with
    | false =>
      simp only [q] at h5
      simp only [Bool.false_eq_true, if_false]
      exact fin false s2 μ2 F2 H2 (x1.trans x2) r2 h5
    | true =>
      simp only [q] at h5
      simp only [if_true]
      refine ⟨ρ, s2, μ2, F2, (h1.ext x1).ext x2, r2, Post.bindV gl h5 fun z s3 w μ3 F3 H3 x3 r3 k3 h6 => ?_⟩
      cases q3 : cmp2 g' s3 y z with
      | none => simp only [q3, okB] at h6; exact False.elim h6
      | some k' =>
        simp only [q3, okB] at h6
        exact cmp2_ok ok' r3 (k2.ext x3) k3 q3 (fin k' s3 μ3 F3 H3 ((x1.trans x2).trans x3) r3 h6)
theorem s_chn {op op' : CmpOp} {r r' : R2} {g g' : PyData → PyData → Option Bool} (ho : OpR X (compareOp op) r) (ho' : OpR X (compareOp op') r') (ok : CmpOk C r g) (ok' : CmpOk C r' g') (ha : PE X a (tM C ma)) (hb : PE X b (tM C mb)) (hc : PE X c (tM C mc))
    (hm : lastMarks [op, op'] [b, c] = false := by with_unfolding_all rfl) : PE X (.Compare a [op, op'] [b, c] pos) (tM C (bV (mChn g g' ma mb mc))) :=
  (pe_chain ho ho' (pv_frz ha) (pv_frz hb) (pv_frz hc) hm).imp fun σ H Q ⟨ρ, st, μ, F, h1, h2, h3⟩ => ⟨ρ, st, μ, F, h1, h2, chn_core gE_lat ok ok' h1 h3 fun k s μ1 F1 H1 x1 r1 h => fin_d r1 h (.bl k)⟩
/-! ### isinstance -/
def tyD : PyData → String
  | .none => "NoneType"
  | .bool _ => "bool"
  | .int _ => "int"
  | .str _ => "str"
  | .list _ => "list"
  | .tuple _ => "tuple"
  | .dict _ => "dict"
/-- a dict whose keys are not flat (or an instance) -/
def isQ : PyData → Bool
  | .dict kvs => !flK kvs
  | _ => false
@[simp] theorem isQ_none : isQ .none = false := rfl
@[simp] theorem isQ_bool (b : Bool) : isQ (.bool b) = false := rfl
@[simp] theorem isQ_int (b : Int) : isQ (.int b) = false := rfl
@[simp] theorem isQ_str (b : Str) : isQ (.str b) = false := rfl
@[simp] theorem isQ_list (b : List PyData) : isQ (.list b) = false := rfl
@[simp] theorem isQ_tuple (b : List PyData) : isQ (.tuple b) = false := rfl
@[simp] theorem isQ_dict0 : isQ (.dict []) = false := rfl
def kitQ (d : PyData) (T : String) : Option Bool := if isQ d then none else kitB (tyD d) T
theorem kitQ_of {d : PyData} {T : String} {k : Bool} (h : kitQ d T = some k) : isQ d = false ∧ kitB (tyD d) T = some k := by
  unfold kitQ at h
  cases q : isQ d with
  | true => rw [q] at h; cases h
  | false => rw [q] at h; exact ⟨rfl, h⟩
def mIsi (T : String) (ma : Ev) : Ev := fun ρ st => (mV ma ρ st).bind fun x s => match (view s x).bind fun d => kitQ d T with
  | some k => .ok (.d (.bool k)) s
  | none => .no
theorem Vw.ty {K : Kw} {v : V} {d : PyData} (s : Same F H) (h : Vw K F H v d) (hq : isQ d = false) (K' : PySem.W.Frag) : TyX K' H v (.type (tyD d)) := by
  cases d with
  | none => rw [h.non]; exact .base .non
  | bool b => rw [h.bl]; exact .base (.bl b)
  | int b => rw [h.int]; exact .base (.int b)
  | str b => rw [h.str]; exact .base (.str b)
  | list b => obtain ⟨q, xs, rfl, h1, _⟩ := h; exact .base (.lst h1)
  | tuple b =>
    obtain ⟨q, xs, rfl, h1, _⟩ := h.tup
    rcases same_rd s h1 with h1 | ⟨o, h1⟩
    · exact .base (.tup h1)
    · exact .fTuple h1
  | dict b => obtain ⟨q, xs, rfl, h1, _⟩ := h.flat_dict (by simpa [isQ] using hq); exact .base (.dK h1)
theorem boot_isi : bootBuiltins "isinstance" = some (.builtin "isinstance") := by decide +kernel
theorem s_isi {T : String} {y : Str} (hg : Gl X "isinstance") (hm : X.mg "isinstance" = none) (ha : PE X a (tM C ma)) (hg2 : Gl X y) (hm2 : X.mg y = none) (hv : bootBuiltins y = some (.type T)) (hn : y ≠ "__name__" := by decide) (hd : (y == ("__debug__" : Str)) = false := by decide)
    (he : starEach [a, .Name y p2] X.env = (false, eval a X.env) :: starEach [.Name y p2] X.env := by rfl) (hpl : (backTo pos (starEach [.Name y p2] X.env)).any (·.1) = false := by rfl) (he2 : starEach [.Name y p2] X.env = (false, eval (.Name y p2) X.env) :: starEach [] X.env := by rfl) :
    PE X (.Call (.Name "isinstance" p) [a, .Name y p2] [] pos) (tM C (mIsi T ma)) :=
  (pe_callB call_isi hg hm boot_isi (pa_cons (pv_frz ha) (pa_cons (pe_bltn (v := .ty T) hg2 hm2 hv rfl hn hd) pa_nil he2) he) (by decide) (by decide) he hpl).imp fun σ H Q ⟨ρ, st, μ, F, h1, h2, h3⟩ => ⟨ρ, st, μ, F, h1, h2, Post.bindV gE_lat h3 fun x s v μ1 F1 H1 x1 r1 k1 h4 => by
    cases q1 : view s x with
    | none => simp only [q1, Option.bind] at h4; exact False.elim h4
    | some d =>
      cases q2 : kitQ d T with
      | none => simp only [q1, q2, Option.bind] at h4; exact False.elim h4
      | some k =>
        simp only [q1, q2, Option.bind] at h4
        exact ⟨v, .ty T, .type (tyD d), .type T, k, rfl, .ty T, (view_ok r1 k1 q1).ty r1.sub (kitQ_of q2).1 _, kit_ty (kitQ_of q2).2, fin_d r1 h4 (.bl k)⟩⟩
@[simp] theorem W_mIsi {ρ : En} {T : String} {E : Er → Sto → Prop} {P : Rv → Sto → Prop} : WVe E (mIsi T ma ρ st) P = WVe E (ma ρ st) fun r s => WO (view s (frz r)) fun d => isQ d = false ∧ WO (kitB (tyD d) T) fun k => P (.d (.bool k)) s := by
  unfold mIsi; rw [WV_bind, W_mV]
  congr 1; funext r s
  cases view s (frz r) with
  | none => rfl
  | some d => simp only [Option.bind, WO_some, kitQ]; cases isQ d <;> cases kitB (tyD d) T <;> simp <;> rfl
def isT (T : String) (d : PyData) : Bool := tyD d == T || (T == "int" && tyD d == "bool")
theorem kitB_int : ∀ d : PyData, kitB (tyD d) "int" = some (isT "int" d)
  | .none => (show kitB "NoneType" "int" = some false by decide +kernel)
  | .bool _ => (show kitB "bool" "int" = some true by decide +kernel)
  | .int _ => (show kitB "int" "int" = some true by decide +kernel)
  | .str _ => (show kitB "str" "int" = some false by decide +kernel)
  | .list _ => (show kitB "list" "int" = some false by decide +kernel)
  | .tuple _ => (show kitB "tuple" "int" = some false by decide +kernel)
  | .dict _ => (show kitB "dict" "int" = some false by decide +kernel)
theorem kitB_tuple : ∀ d : PyData, kitB (tyD d) "tuple" = some (isT "tuple" d)
  | .none => (show kitB "NoneType" "tuple" = some false by decide +kernel)
  | .bool _ => (show kitB "bool" "tuple" = some false by decide +kernel)
  | .int _ => (show kitB "int" "tuple" = some false by decide +kernel)
  | .str _ => (show kitB "str" "tuple" = some false by decide +kernel)
  | .list _ => (show kitB "list" "tuple" = some false by decide +kernel)
  | .tuple _ => (show kitB "tuple" "tuple" = some true by decide +kernel)
  | .dict _ => (show kitB "dict" "tuple" = some false by decide +kernel)
@[simp] theorem W_mChn {ρ : En} {g g' : PyData → PyData → Option Bool} {E : Er → Sto → Prop} {P : Bool → Sto → Prop} : WVe E (mChn g g' ma mb mc ρ st) P = WVe E (ma ρ st) fun r1 s1 => WVe E (mb ρ s1) fun r2 s2 => WO (cmp2 g s2 (frz r1) (frz r2)) fun k => if k = true then WVe E (mc ρ s2) fun r3 s3 => WO (cmp2 g' s3 (frz r2) (frz r3)) fun k => P k s3 else P false s2 := by
  unfold mChn; rw [WV_bind, W_mV]
  congr 1; funext r1 s1; rw [WV_bind, W_mV]
  congr 1; funext r2 s2
  cases cmp2 g s2 (frz r1) (frz r2) with
  | none => rfl
  | some k =>
    cases k with
    | false => rfl
    | true =>
      simp only [WO_some, if_true]
      rw [WV_bind, W_mV]
      congr 1; funext r3 s3; rw [WV_okB]
/-! ### zip -/
def zipF : List PyData → List PyData → List PyData
  | a :: as, b :: bs => .tuple [a, b] :: zipF as bs
  | _, _ => []
def srcZp (xs : List Vl) : Option Src := match xs with
  | [.d (.list xs), .d (.list ys)] => some (zipF xs ys, none)
  | [.d (.tuple xs), .d (.tuple ys)] => some (zipF xs ys, none)
  | _ => none
/-- a tuple known whole, as data -/
def tpD : Vl → Vl
  | .o (.tp ds) => .d (.tuple ds)
  | x => x
@[simp] theorem tpD_d (d : PyData) : tpD (.d d) = .d d := rfl
@[simp] theorem tpD_c (i : Nat) : tpD (.c i) = .c i := rfl
@[simp] theorem tpD_tp (ds : List PyData) : tpD (.o (.tp ds)) = .d (.tuple ds) := rfl
def iZp (ma : En → Sto → Res (List Vl)) : En → Sto → Res Src := fun ρ st => (ma ρ st).bind fun xs s => okO (srcZp (xs.map tpD)) s
@[simp] theorem srcZp_l (xs ys : List PyData) : srcZp [.d (.list xs), .d (.list ys)] = some (zipF xs ys, none) := rfl
@[simp] theorem srcZp_t (xs ys : List PyData) : srcZp [.d (.tuple xs), .d (.tuple ys)] = some (zipF xs ys, none) := rfl
@[simp] theorem W_iZp {ρ : En} {P : Src → Sto → Prop} : WVe noE (iZp mas ρ st) P = WVe noE (mas ρ st) fun xs s => WO (srcZp (xs.map tpD)) fun dg => P dg s := by
  unfold iZp; rw [WV_bind]
  congr 1; funext xs s; rw [WV_okO]
end
end Cp
/-! Ci: what is asked of a caught error that a name holds: isinstance, its field, is None. -/
namespace Cp
open PySem PySem.Spec PyProof.Rows L2
section
variable {X : Cx} {C : Cn} {a b : Expr} {ma mb : Ev} {p p2 pos : Pos} {x y f : Str}
/-- isinstance(e, Y), isinstance(e, (Y, Z)): an error by its class, None is none -/
def mIsE (cat : Cat) (ma : Ev) : Ev := fun ρ st => (mV ma ρ st).bind fun x s => match x with
  | .o (.er e) => match cat.lookup e.cls with
    | some k => .ok (.d (.bool k)) s
    | none => .no
  | .d .none => .ok (.d (.bool false)) s
  | _ => .no
/-- e.f -/
def mErF (zs : List Str) (f : Str) (ma : Ev) : Ev := fun ρ st => (mV ma ρ st).bind fun x s => match x with
  | .o (.er ⟨c, some (g, y)⟩) => if g = f ∧ c ∈ zs then .ok (.d y) s else .no
  | _ => .no
end
end Cp
namespace Cp
open PySem PySem.Spec PyProof.Rows L2
section
variable {X : Cx} {C : Cn} {a b : Expr} {ma mb : Ev} {p p2 pos : Pos}
/-- is None, is not None, of a name that may hold an error -/
def mIsNn (neg : Bool) (ma : Ev) : En → Sto → Res Bool := fun ρ st => (mV ma ρ st).bind fun x s => match x with
  | .o (.er _) => .ok neg s
  | .d d => .ok (xor neg (isNone d)) s
  | _ => .no
end
end Cp
/-! Cd: dicts that are written out. -/
namespace Cp
open PySem L2
section
variable {X : Cx} {C : Cn} {Q : VK} {μ : Mu} {F H : Hp} {st : Sto} {pos : Pos} {keys : List (Option Expr)} {values : List Expr}
def mPairs : List (Ev × Ev) → En → Sto → Res (List (PyData × PyData))
  | [], _, st => .ok [] st
  | (mk, mv) :: r, ρ, st => (mV mk ρ st).bind fun x s1 => (mV mv ρ s1).bind fun y s2 => match x, y with
    | .d a, .d b => (mPairs r ρ s2).bind fun kvs s3 => .ok ((a, b) :: kvs) s3
    | _, _ => .no
abbrev trP (C : Cn) (prs : List (Ev × Ev)) : List (TE × TE) := prs.map fun p => (tV C (mV p.1), tV C (mV p.2))
inductive DqPs (K : Kw) (F : Hp) : List (V × V) → List (PyData × PyData) → Prop
  | nil : DqPs K F [] []
  | cons {x y : V} {a b : PyData} {ps : List (V × V)} {kvs : List (PyData × PyData)} : Dq K F x a → Dq K F y b → DqPs K F ps kvs → DqPs K F ((x, y) :: ps) ((a, b) :: kvs)
abbrev gP (C : Cn) (R : List (V × V) → Hp → Prop) : List (PyData × PyData) → Sto → Mu → Hp → Hp → Prop := fun kvs st μ F H => ∀ ps μ' F' H', Ext μ F H μ' F' H' → SR C.K μ' F' H' st → DqPs C.K F' ps kvs → R ps H'
theorem gP_lat {R : List (V × V) → Hp → Prop} : Lat (gP C R) := ⟨fun x h ps μ' F' H' y s d => h ps μ' F' H' (x.trans y) s d⟩
theorem pairs_ok : ∀ (prs : List (Ev × Ev)) {R : List (V × V) → Hp → Prop} {σ : St} {ρ : En} {μ : Mu} {F H : Hp} {st : Sto}, Eok C.K F μ ρ σ → SR C.K μ F H st → Post (C.at σ) (gP C R) μ F H (mPairs prs ρ st) → tPairs (trP C prs) σ H R
  | [], R, σ, ρ, μ, F, H, st, _, r, h => h [] μ F H Ext.refl r .nil
  | (mk, mv) :: rest, R, σ, ρ, μ, F, H, st, e, r, h => ⟨ρ, st, μ, F, e, r, Post.bindV gP_lat h fun x s1 v μ1 F1 H1 x1 r1 k1 h4 => ⟨ρ, s1, μ1, F1, e.ext x1, r1, Post.bindV gP_lat h4 fun y s2 u μ2 F2 H2 x2 r2 k2 h5 => by
      cases x with
      | c _ => exact False.elim h5
      | s _ => exact False.elim h5
      | o _ => exact False.elim h5
      | d a =>
        cases y with
        | c _ => exact False.elim h5
        | s _ => exact False.elim h5
        | o _ => exact False.elim h5
        | d b =>
          refine pairs_ok rest ((e.ext x1).ext x2) r2 ?_
          have h6 : Post (C.at σ) (gP C R) μ2 F2 H2 ((mPairs rest ρ s2).bind fun kvs s3 => .ok ((a, b) :: kvs) s3) := h5
          cases q : mPairs rest ρ s2 with
          | ok kvs s3 =>
            rw [q] at h6
            intro ps μ3 F3 H3 x3 r3 d3
            exact h6 _ μ3 F3 H3 x3 r3 (.cons (Dq.same (x2.same.trans x3.same) k1) (Dq.same x3.same k2) d3)
          | er e s3 => rw [q] at h6; exact h6
          | no => rw [q] at h6; exact h6⟩⟩
/-- keys: ints and texts, each once -/
def keyD : PyData → Option Key
  | .int i => some (.inl i)
  | .str x => some (.inr x)
  | _ => none
def keysD : List (PyData × PyData) → Option (List Key)
  | [] => some []
  | (k, _) :: r => match keyD k, keysD r with
    | some k, some ks => if ks.any (fun j => decide (j = k)) = true then none else some (k :: ks)
    | _, _ => none
def mDct (prs : List (Ev × Ev)) : Ev := fun ρ st => (mPairs prs ρ st).bind fun kvs s => if (keysD kvs).isSome = true ∧ kvs.length ≤ 15 then .ok (.n (.m kvs)) s else .no
theorem keyD_ok {K : Kw} {v : V} {d : PyData} {k : Key} (h : Dq K F v d) (e : keyD d = some k) : v = kV k ∧ d = kD k := by
  cases d with
  | int i => cases e; cases h; exact ⟨rfl, rfl⟩
  | str i => cases e; cases h; exact ⟨rfl, rfl⟩
  | _ => cases e
theorem keysD_ok {K : Kw} : ∀ {ps : List (V × V)} {kvs : List (PyData × PyData)} {ks : List Key}, DqPs K F ps kvs → keysD kvs = some ks → ∃ ws : List (Key × V), ps = ws.map (fun kv => (kV kv.1, kv.2)) ∧ DqKv K F ws kvs ∧ ws.map (·.1) = ks ∧ ks.Nodup
  | _, _, _, .nil, e => by cases e; exact ⟨[], rfl, .nil, rfl, List.nodup_nil⟩
  | _, (k, d) :: r, ks, .cons h1 h2 t, e => by
    unfold keysD at e
    cases q1 : keyD k with
    | none => simp only [q1] at e; cases e
    | some k' =>
      cases q2 : keysD r with
      | none => simp only [q1, q2] at e; cases e
      | some ks' =>
        simp only [q1, q2] at e
        split at e
        · cases e
        · rename_i hn
          cases e
          obtain ⟨ws, rfl, g2, g3, g4⟩ := keysD_ok t q2
          obtain ⟨rfl, rfl⟩ := keyD_ok h1 q1
          exact ⟨(k', _) :: ws, rfl, .cons h2 g2, by rw [List.map_cons, g3], List.nodup_cons.mpr ⟨fun hm => hn (List.any_eq_true.mpr ⟨_, hm, decide_eq_true rfl⟩), g4⟩⟩
theorem mergeK_nodup : ∀ (ws acc : List (Key × V)), (ws.map (·.1)).Nodup → (∀ k ∈ ws.map (·.1), k ∉ acc.map (·.1)) → mergeK acc ws = acc ++ ws
  | [], acc, _, _ => by simp [mergeK]
  | (k, v) :: ws, acc, h, hd => by
    rw [List.map_cons, List.nodup_cons] at h
    have hk : k ∉ acc.map (·.1) := hd k (by simp)
    have hp : putK acc k v = acc ++ [(k, v)] := by
      unfold putK
      rw [if_neg]
      rw [List.any_eq_true]
      rintro ⟨p, hp, e⟩
      exact hk (List.mem_map.mpr ⟨p, hp, of_decide_eq_true e⟩)
    show mergeK (putK acc k v) ws = _
    rw [hp, mergeK_nodup ws _ h.2 fun j hj => ?_]
    · simp
    · rw [List.map_append, List.mem_append, not_or]
      refine ⟨hd j (by rw [List.map_cons]; exact List.mem_cons_of_mem _ hj), fun z => ?_⟩
      rw [List.map_cons, List.map_nil, List.mem_singleton] at z
      subst z
      exact h.1 hj
theorem s_dct {prs : List (Ev × Ev)} (h : PPs X pos keys values (trP C prs)) (hall : keys.all (·.isSome) = true) (hl : keys.length = values.length) (h0 : keys ≠ []) (h15 : keys.length ≤ 15) : PE X (.Dict keys values pos) (tM C (mDct prs)) :=
  (pe_disp h hall hl h0 h15).imp fun σ H Q ⟨ρ, st, μ, F, h1, h2, h3⟩ p hp => by
    obtain ⟨s1, x1⟩ := h2.newly (o := .dK []) hp
    have dd := h2.dead hp
    refine pairs_ok prs h1 s1 ?_
    have h3 : PostE (C.at σ) Q μ F H ((mPairs prs ρ st).bind fun kvs s => if (keysD kvs).isSome = true ∧ kvs.length ≤ 15 then .ok (.n (.m kvs)) s else .no) := h3
    cases q : mPairs prs ρ st with
    | er e s => rw [q] at h3; exact Erw.later x1 h3
    | no => rw [q] at h3; exact h3
    | ok kvs s =>
      rw [q] at h3
      have h3 : PostE (C.at σ) Q μ F H (if (keysD kvs).isSome = true ∧ kvs.length ≤ 15 then .ok (.n (.m kvs)) s else .no) := h3
      intro ps μ2 F2 H2 x2 r2 d2
      by_cases hc : (keysD kvs).isSome = true ∧ kvs.length ≤ 15
      · rw [if_pos hc] at h3
        obtain ⟨ks, hk⟩ := Option.isSome_iff_exists.mp hc.1
        obtain ⟨ws, rfl, g2, g3, g4⟩ := keysD_ok d2 hk
        obtain ⟨k1, k2, k3⟩ := x2.keepOut (L := p) upd_same dd.1 dd.2
        have hlen : ws.length = kvs.length := by
          have : ∀ {ws : List (Key × V)} {kvs : List (PyData × PyData)}, DqKv C.K F2 ws kvs → ws.length = kvs.length := by
            intro ws kvs h
            induction ws generalizing kvs with
            | nil => cases h; rfl
            | cons w ws ih => cases h with | cons a b => rw [List.length_cons, List.length_cons, ih b]
          exact this g2
        refine ⟨k1, ws, rfl, by rw [hlen]; exact hc.2, ?_⟩
        rw [mergeK_nodup ws [] (by rw [g3]; exact g4) fun _ _ => by simp, List.nil_append]
        have xx := (x1.trans x2).out (L := p) (u := .dK ws) hp (.inr trivial)
        exact h3 _ μ2 F2 _ ⟨xx, r2.out k2 k3, ⟨p, _, rfl, upd_same, .inl ⟨ws, rfl, g2⟩, k2, k3⟩, fun _ _ => ⟨p, rfl, hp⟩⟩
      · rw [if_neg hc] at h3; exact False.elim h3
/-! ### reading a dict by a key -/
def keyB : PyData → PyData → Bool
  | .int i, .int j => decide (i = j)
  | .str x, .str y => decide (x = y)
  | _, _ => false
def lookK : List (PyData × PyData) → PyData → Option PyData
  | [], _ => none
  | (j, v) :: r, k => if keyB j k then some v else lookK r k
theorem keyB_kD {k j : Key} : keyB (kD j) (kD k) = decide (j = k) := by
  cases j <;> cases k <;> simp [keyB, kD]
def OptOk (K : Kw) (F : Hp) : Option V → Option PyData → Prop
  | some v, some d => Dq K F v d
  | none, none => True
  | _, _ => False
theorem lookK_ok {K : Kw} {k : Key} : ∀ {ws : List (Key × V)} {kvs : List (PyData × PyData)}, DqKv K F ws kvs → OptOk K F (valV ws k) (lookK kvs (kD k))
  | _, _, .nil => trivial
  | (j, v) :: ws, _, .cons (d := d) h t => by
    unfold lookK valV
    rw [List.find?_cons, keyB_kD]
    cases q : decide (j = k) with
    | true => exact h
    | false => exact lookK_ok t
def vRv : Vl → Rv
  | .d x => .d x
  | .c i => .c i
  | .s ns => .s ns
  | .o x => .o x
theorem vRv_ok {K : Kw} {H : Hp} {x : Vl} {v : V} (h : Vok K F μ x v) : Rok K F μ H (vRv x) v := by cases x <;> exact h
theorem dic_of {K : Kw} {v : V} {kvs : List (PyData × PyData)} (h : Vw K F H v (.dict kvs)) (f : flK kvs = true) : ∃ a ws, v = .ref a ∧ H a = some (.dK ws) ∧ DqKv K F ws kvs := h.flat_dict f
/-- d.get(k, x) -/
def mDGet2 (md mk mx : Ev) : Ev := fun ρ st => (mV md ρ st).bind fun x s1 => match view s1 x with
  | some (.dict kvs0) => if flK kvs0 = true then (mV mk ρ s1).bind fun y s2 => (mV mx ρ s2).bind fun z s3 => match view s3 x, y with
    | some (.dict kvs), .d y => if flK kvs = true then (if (keyD y).isSome then (match lookK kvs y with
      | some v => .ok (.d v) s3
      | none => .ok (vRv z) s3) else .no) else .no
    | _, _ => .no else .no
  | _ => .no
variable {a b c : Expr} {ma mb mc : Ev} {apos : Pos}
theorem y_dget2 (hu : X.A.units + 64 < cLine) (ha : PE X a (tM C ma)) (hb : PE X b (tM C mb)) (hc : PE X c (tM C mc)) (m : M2 X a "get" apos b c pos) : PE X (.Call (.Attribute a "get" apos) [b, c] [] pos) (tM C (mDGet2 ma mb mc)) :=
  (pe_dget2 (Nat.lt_of_le_of_lt (Nat.add_le_add_left (by decide) _) hu) (pv_frz ha) (pv_frz hb) (pv_frz hc) m).imp fun σ H Q ⟨ρ, st, μ, F, h1, h2, h3⟩ => ⟨ρ, st, μ, F, h1, h2, Post.bindV gE_lat h3 fun x s v μ1 F1 H1 x1 r1 k1 h4 => by
    cases q1 : view s x with
    | none => simp only [q1] at h4; exact False.elim h4
    | some dx =>
      cases dx with
      | dict kvs0 =>
        simp only [q1] at h4
        by_cases hf0 : flK kvs0 = true
        case neg => rw [if_neg hf0] at h4; exact False.elim h4
        rw [if_pos hf0] at h4
        obtain ⟨p, ws0, rfl, g1, _⟩ := dic_of (view_ok r1 k1 q1) hf0
        refine ⟨p, rfl, .inl ⟨ws0, .inl g1⟩, ρ, s, μ1, F1, h1.ext x1, r1, Post.bindV gE_lat h4 fun y s2 u μ2 F2 H2 x2 r2 k2 h5 => ⟨ρ, s2, μ2, F2, (h1.ext x1).ext x2, r2, Post.bindV gE_lat h5 fun z s3 w μ3 F3 H3 x3 r3 k3 h6 => ?_⟩⟩
        cases q2 : view s3 x with
        | none => simp only [q2] at h6; exact False.elim h6
        | some dx =>
          cases dx with
          | dict kvs =>
            by_cases hf : flK kvs = true
            case neg =>
              cases y with
              | d y => simp only [q2] at h6; rw [if_neg hf] at h6; exact False.elim h6
              | c _ => simp only [q2] at h6; exact False.elim h6
              | s _ => simp only [q2] at h6; exact False.elim h6
              | o _ => simp only [q2] at h6; exact False.elim h6
            obtain ⟨p', ws, e', g2, g3⟩ := dic_of (view_ok r3 ((k1.ext x2).ext x3) q2) hf
            cases e'
            cases y with
            | c _ => simp only [q2] at h6; exact False.elim h6
            | s _ => simp only [q2] at h6; exact False.elim h6
            | o _ => simp only [q2] at h6; exact False.elim h6
            | d y =>
              simp only [q2] at h6
              rw [if_pos hf] at h6
              cases q3 : keyD y with
              | none => simp only [q3] at h6; exact False.elim h6
              | some k =>
                obtain ⟨e4, e5⟩ := keyD_ok k2 q3
                subst e4 e5
                simp only [q3, Option.isSome_some, if_true] at h6
                refine ⟨_, .k g2, ?_⟩
                have hk := lookK_ok (k := k) g3
                cases q4 : lookK kvs (kD k) with
                | some d =>
                  rw [q4] at hk h6
                  cases q5 : valV ws k with
                  | none => rw [q5] at hk; exact False.elim hk
                  | some v => rw [q5] at hk; exact h6 _ _ _ _ ⟨Ext.refl, r3, hk, fun c z => by cases z⟩
                | none =>
                  rw [q4] at hk h6
                  cases q5 : valV ws k with
                  | some _ => rw [q5] at hk; exact False.elim hk
                  | none => exact h6 _ _ _ _ ⟨Ext.refl, r3, vRv_ok k3, fun c e => by cases z <;> cases e⟩
          | _ => simp only [q2] at h6; exact False.elim h6
      | _ => simp only [q1] at h4; exact False.elim h4⟩
/-- {} -/
def mD0 : Ev := fun _ st => .ok (.n (.m [])) st
theorem s_d0 : PE X (.Dict [] [] pos) (tM C mD0) := pe_dnewK.imp fun σ H Q ⟨ρ, st, μ, F, h1, h2, h3⟩ p hp => by
  obtain ⟨s1, x1⟩ := h2.newly (o := .dK []) hp
  have dd := h2.dead hp
  exact h3 _ μ F _ ⟨x1, s1, ⟨p, _, rfl, upd_same, .inl ⟨[], rfl, .nil⟩, dd.1, dd.2⟩, fun _ _ => ⟨p, rfl, hp⟩⟩
end
end Cp
/-! Cx: weakest preconditions of errors, tries, whiles, dicts. -/
namespace Cp
open PySem L2
section
variable {E : Er → Sto → Prop} {st : Sto} {ρ : En} {N B C : En → Sto → Prop} {R : Rv → Sto → Prop} {PE : Rv → Sto → Prop} {PB : Bool → Sto → Prop} {ma mb mc : Ev} {mas : En → Sto → Res (List Vl)} {cat : Cat}
@[simp] theorem W_sRaise (x : Str) : WSe E (sRaise x ρ st) N B C R = E ⟨x, none⟩ st := rfl
@[simp] theorem W_sRaise1 (x f : Str) : WSe E (sRaise1 x f mas ρ st) N B C R = WVe E (mas ρ st) fun xs s => match xs with
    | [.d y] => E ⟨x, some (f, y)⟩ s
    | _ => False := by
  unfold sRaise1; rw [WS_toS]
  congr 1; funext xs s
  cases xs with
  | nil => rfl
  | cons x r => cases r with
    | nil => cases x <;> rfl
    | cons y r => cases x <;> rfl
@[simp] theorem W_sTry (i : Nat) (sb ss : Sv) : WSe E (sTry i cat sb ss ρ st) N B C R = WSe (fun e s => match cat.lookup e.cls with
    | some true => WSe noE (ss (ρ.set i (some (.o (.er e)))) s) (fun ρ' s' => N (ρ'.set i none) s') (fun ρ' s' => B (ρ'.set i none) s') (fun ρ' s' => C (ρ'.set i none) s') R
    | some false => E e s
    | none => False) (sb ρ st) N B C R := by
  unfold sTry
  cases sb ρ st with
  | er e s =>
    show WSe E (match cat.lookup e.cls with
      | some true => _
      | some false => .er e s
      | none => .no) N B C R = match cat.lookup e.cls with
      | some true => _
      | some false => E e s
      | none => False
    cases cat.lookup e.cls with
    | none => rfl
    | some v =>
      cases v with
      | false => rfl
      | true => dsimp only; cases ss (ρ.set i (some (.o (.er e)))) s <;> rfl
  | _ => rfl
@[simp] theorem W_sTryN (sb ss : Sv) : WSe E (sTryN cat sb ss ρ st) N B C R = WSe (fun e s => match cat.lookup e.cls with
    | some true => WSe noE (ss ρ s) N B C R
    | some false => E e s
    | none => False) (sb ρ st) N B C R := by
  unfold sTryN
  cases sb ρ st with
  | er e s =>
    show WSe E (match cat.lookup e.cls with
      | some true => _
      | some false => .er e s
      | none => .no) N B C R = match cat.lookup e.cls with
      | some true => _
      | some false => E e s
      | none => False
    cases cat.lookup e.cls with
    | none => rfl
    | some v =>
      cases v with
      | false => rfl
      | true => dsimp only; cases ss ρ s <;> rfl
  | _ => rfl
@[simp] theorem W_mIsE : WVe E (mIsE cat ma ρ st) PE = WVe E (ma ρ st) fun r s => match frz r with
    | .o (.er e) => WO (cat.lookup e.cls) fun k => PE (.d (.bool k)) s
    | .d .none => PE (.d (.bool false)) s
    | _ => False := by
  unfold mIsE; rw [WV_bind, W_mV]
  congr 1; funext r s
  generalize frz r = v
  cases v with
  | o o =>
    cases o with
    | er e => dsimp only; cases cat.lookup e.cls <;> rfl
    | _ => rfl
  | d d => cases d <;> rfl
  | _ => rfl
@[simp] theorem W_mErF (zs : List Str) (f : Str) : WVe E (mErF zs f ma ρ st) PE = WVe E (ma ρ st) fun r s => match frz r with
    | .o (.er ⟨c, some (g, y)⟩) => (g = f ∧ c ∈ zs) ∧ PE (.d y) s
    | _ => False := by
  unfold mErF; rw [WV_bind, W_mV]
  congr 1; funext r s
  generalize frz r = v
  cases v with
  | o o =>
    cases o with
    | er e =>
      obtain ⟨c, a⟩ := e
      cases a with
      | none => rfl
      | some p =>
        obtain ⟨g, y⟩ := p
        dsimp only
        by_cases h : g = f ∧ c ∈ zs
        · rw [if_pos h]; exact propext ⟨fun z => ⟨h, z⟩, fun z => z.2⟩
        · rw [if_neg h]; exact propext ⟨fun z => False.elim z, fun z => absurd z.1 h⟩
    | _ => rfl
  | _ => rfl
@[simp] theorem W_mIsNn (neg : Bool) : WVe E (mIsNn neg ma ρ st) PB = WVe E (ma ρ st) fun r s => match frz r with
    | .o (.er _) => PB neg s
    | .d d => PB (xor neg (isNone d)) s
    | _ => False := by
  unfold mIsNn; rw [WV_bind, W_mV]
  congr 1; funext r s
  generalize frz r = v
  cases v with
  | o o => cases o <;> rfl
  | _ => rfl
/-! ### dicts -/
@[simp] theorem W_mD0 : WVe E (mD0 ρ st) PE = PE (.n (.m [])) st := rfl
@[simp] theorem W_mPairs_nil {PA : List (PyData × PyData) → Sto → Prop} : WVe E (mPairs [] ρ st) PA = PA [] st := rfl
@[simp] theorem W_mPairs_cons {mk mv : Ev} {r : List (Ev × Ev)} {PA : List (PyData × PyData) → Sto → Prop} : WVe E (mPairs ((mk, mv) :: r) ρ st) PA = WVe E (mk ρ st) fun x s1 => WVe E (mv ρ s1) fun y s2 => match frz x, frz y with
    | .d a, .d b => WVe E (mPairs r ρ s2) fun kvs s3 => PA ((a, b) :: kvs) s3
    | _, _ => False := by
  rw [mPairs, WV_bind, W_mV]
  congr 1; funext x s1; rw [WV_bind, W_mV]
  congr 1; funext y s2
  generalize frz x = x
  generalize frz y = y
  cases x with
  | d a => cases y with
    | d b => dsimp only; rw [WV_bind]; rfl
    | _ => rfl
  | _ => rfl
@[simp] theorem W_mDct (prs : List (Ev × Ev)) : WVe E (mDct prs ρ st) PE = WVe E (mPairs prs ρ st) fun kvs s => ((keysD kvs).isSome = true ∧ kvs.length ≤ 15) ∧ PE (.n (.m kvs)) s := by
  unfold mDct; rw [WV_bind]
  congr 1; funext kvs s
  by_cases h : (keysD kvs).isSome = true ∧ kvs.length ≤ 15
  · rw [if_pos h]; exact propext ⟨fun z => ⟨h, z⟩, fun z => z.2⟩
  · rw [if_neg h]; exact propext ⟨fun z => False.elim z, fun z => absurd z.1 h⟩
@[simp] theorem flK_nil : flK [] = true := rfl
@[simp] theorem flK_str (x : Str) (d : PyData) (r : List (PyData × PyData)) : flK ((.str x, d) :: r) = flK r := rfl
@[simp] theorem flK_int (x : Int) (d : PyData) (r : List (PyData × PyData)) : flK ((.int x, d) :: r) = flK r := rfl
@[simp] theorem vRv_eq (x : Vl) : vRv x = Rv.of x := by cases x <;> rfl
@[simp] theorem W_mDGet2 : WVe E (mDGet2 ma mb mc ρ st) PE = WVe E (ma ρ st) fun r1 s1 => match view s1 (frz r1) with
    | some (.dict kvs0) => flK kvs0 = true ∧ WVe E (mb ρ s1) fun r2 s2 => WVe E (mc ρ s2) fun r3 s3 => (match view s3 (frz r1), frz r2 with
      | some (.dict kvs), .d y => flK kvs = true ∧ (keyD y).isSome = true ∧ (match lookK kvs y with
        | some v => PE (.d v) s3
        | none => PE (Rv.of (frz r3)) s3)
      | _, _ => False)
    | _ => False := by
  unfold mDGet2; rw [WV_bind, W_mV]
  congr 1; funext r1 s1
  cases view s1 (frz r1) with
  | none => rfl
  | some d =>
    cases d with
    | dict kvs0 =>
      dsimp only
      by_cases hf0 : flK kvs0 = true
      case neg => rw [if_neg hf0]; exact propext ⟨fun z => False.elim z, fun z => absurd z.1 hf0⟩
      rw [if_pos hf0, and_iff_right hf0, WV_bind, W_mV]
      congr 1; funext r2 s2; rw [WV_bind, W_mV]
      congr 1; funext r3 s3
      generalize frz r2 = y
      cases view s3 (frz r1) with
      | none => rfl
      | some d =>
        cases d with
        | dict kvs =>
          cases y with
          | d y =>
            dsimp only
            by_cases hf : flK kvs = true
            case neg => rw [if_neg hf]; exact propext ⟨fun z => False.elim z, fun z => absurd z.1 hf⟩
            rw [if_pos hf, and_iff_right hf]
            by_cases h : (keyD y).isSome = true
            · rw [if_pos h]
              cases lookK kvs y with
              | none => rw [vRv_eq]; exact propext ⟨fun z => ⟨h, z⟩, fun z => z.2⟩
              | some v => exact propext ⟨fun z => ⟨h, z⟩, fun z => z.2⟩
            · rw [if_neg h]; exact propext ⟨fun z => False.elim z, fun z => absurd z.1 h⟩
          | _ => rfl
        | _ => rfl
    | _ => rfl
/-! ### while -/
/-- a while, by what stands while so many turns are left at most -/
theorem whGo_by {c : En → Sto → Res Bool} {b : Sv} (I : Nat → En → Sto → Prop) : ∀ (n m : Nat) {ρ : En} {st : Sto}, m < n → I m ρ st →
    (∀ k ρ s, I k ρ s → WVe E (c ρ s) fun t s1 => if t = true then ∃ k', k = k' + 1 ∧ WSe E (b ρ s1) (I k') N (I k') R else N ρ s1) → WSe E (whGo c b n ρ st) N B C R
  | 0, _, _, _, h, _, _ => absurd h (Nat.not_lt_zero _)
  | n + 1, m, ρ, st, h, h0, hs => by
    unfold whGo
    rw [WS_toS]
    refine WV_mono (hs m ρ st h0) fun t s1 ht => ?_
    cases t with
    | false => simp only [Bool.false_eq_true, if_false] at ht ⊢; exact ht
    | true =>
      simp only [if_true] at ht ⊢
      obtain ⟨k', e, hb⟩ := ht
      cases q : b ρ s1 with
      | nx ρ2 s2 => rw [q] at hb; exact whGo_by I n k' (by omega) hb hs
      | ct ρ2 s2 => rw [q] at hb; exact whGo_by I n k' (by omega) hb hs
      | bk ρ2 s2 => rw [q] at hb; exact hb
      | rt v s2 => rw [q] at hb; exact hb
      | er e s2 => rw [q] at hb; exact hb
      | no => rw [q] at hb; exact hb
end
end Cp
/-! Cy: a dict from texts to defs, and the call of what it holds. -/
namespace Cp
open PySem PySem.Spec PyProof.Rows L2
section
variable {X : Cx} {C : Cn} {k j : Nat} {p pos pos1 : Pos} {d e : Expr} {es : List Expr} {md mk : Ev} {mas : En → Sto → Res (List Vl)} {keys : List (Option Expr)} {values : List Expr}
abbrev fnW (K : PySem.W.Frag) (tbl : List (Str × Str)) : List (Key × V) := tbl.map fun p => (.inr p.1, .ref (He.ga K p.2))
end
end Cp
/-! Cg: a tuple turned round, t[::-1]. -/
namespace Cp
open PySem PySem.Spec PyProof.Rows L2
section
variable {X : Cx} {C : Cn} {a : Expr} {ma : Ev} {p1 p2 p3 pos : Pos}
/-- what is never reached -/
def mNo : Ev := fun _ _ => .no
def mTurn (ma : Ev) : Ev := fun ρ st => (mV ma ρ st).bind fun x s => match x with
  | .d (.tuple ds) => .ok (.d (.tuple ds.reverse)) s
  | .d (.list ds) => .ok (.n (.l ds.reverse)) s
  | _ => .no
end
section
variable {E : Er → Sto → Prop} {ρ : En} {st : Sto} {PE : Rv → Sto → Prop} {ma : Ev}
@[simp] theorem W_mNo : WVe E (mNo ρ st) PE = False := rfl
@[simp] theorem W_mTurn : WVe E (mTurn ma ρ st) PE = WVe E (ma ρ st) fun r s => match frz r with
    | .d (.tuple ds) => PE (.d (.tuple ds.reverse)) s
    | .d (.list ds) => PE (.n (.l ds.reverse)) s
    | _ => False := by
  unfold mTurn; rw [WV_bind, W_mV]
  congr 1; funext r s
  cases frz r with
  | d x => cases x <;> rfl
  | c _ => rfl
  | s _ => rfl
  | o _ => rfl
end
end Cp
/-! Cn: tuples and tables of the module, name += e. -/
namespace Cp
open PySem L2
/-! ### a tuple of texts of the module, on the right of in -/
def isS (v : Value) (z : Str) : Bool := match v with
  | .str y _ => decide (y = z)
  | _ => false
def strsV : List Value → List Str → Bool
  | [], [] => true
  | v :: r, z :: zs => isS v z && strsV r zs
  | _, _ => false
def tupB (x : Str) (zs : List Str) : Fb := fun K => (He.Fa.glo x).ok K && match K.lookup (He.ga K x) with
  | some ⟨.type c, _, .seq its _, _⟩ => decide (c = "tuple") && (decide (its.size ≤ 1000) && strsV its.toList zs)
  | _ => false
theorem isS_ok {v : Value} {z : Str} (h : isS v z = true) : RelV (.str z) v := by
  unfold isS at h
  split at h
  · rename_i y t
    have e : y = z := of_decide_eq_true h
    subst e
    exact ⟨t, rfl⟩
  · cases h
theorem strsV_ok : ∀ {vs : List Value} {zs : List Str}, strsV vs zs = true → Vals (zs.map V.str) vs
  | [], [], _ => .nil
  | v :: r, z :: zs, h => by
    unfold strsV at h
    rw [Bool.and_eq_true] at h
    exact .cons (isS_ok h.1) (strsV_ok h.2)
  | [], _ :: _, h => by cases h
  | _ :: _, [], h => by cases h
/-- where the tuple stands -/
structure TupC (K : PySem.W.Frag) (mg : Str → Option Value) (x : Str) (zs : List Str) : Prop where
  g : mg x = some (.ref (He.ga K x))
  t : ∀ H, SqT K H (He.ga K x) (zs.map V.str)
theorem tupB_ok {x : Str} {zs : List Str} {K : PySem.W.Frag} {h : Heap} {mg : Str → Option Value} (X : K.In h) (G : h.Ns mainGlobals mg) (c : tupB x zs K = true) : TupC K mg x zs := by
  obtain ⟨c1, c2⟩ := He.ba c
  refine ⟨He.glo_ok X G c1, fun H => ?_⟩
  cases q : K.lookup (He.ga K x) with
  | none => rw [q] at c2; cases c2
  | some o =>
    rw [q] at c2
    obtain ⟨oc, od, dt, osl⟩ := o
    cases oc with
    | type c =>
      cases dt with
      | seq its n =>
        obtain ⟨c3, c4⟩ := He.ba c2
        obtain ⟨c5, c6⟩ := He.ba c4
        have e : c = "tuple" := of_decide_eq_true c3
        have hz : its.size ≤ 1000 := of_decide_eq_true c5
        subst e
        exact .inr ⟨_, its, n, q, rfl, rfl, Nat.le_trans hz (by decide), strsV_ok c6⟩
      | _ => cases c2
    | _ => cases c2
section
variable {X : Cx} {C : Cn} {Q : VK} {μ : Mu} {F H : Hp} {st : Sto} {e : Expr} {ma mb : Ev} {pos p : Pos} {x : Str} {zs : List Str}
theorem cmpC_core {β : Type} {G : β → Sto → Mu → Hp → Hp → Prop} (gl : Lat G) {r : R2} {g : PyData → PyData → Option Bool} {y : V} {db : PyData} (ok : ∀ (a : PyData) (k : Bool) (v : V) (μ : Mu) (F H : Hp) (st : Sto) (Q : VK), SR C.K μ F H st → Vw C.K F H v a → g a db = some k → Q (.bl k) H → r v y H Q)
    {σ : St} {ρ : En} {R : VK} {kk : Bool → Sto → Res β} (h3 : Post (C.at σ) G μ F H ((mCmp g ma (mK db) ρ st).bind kk)) (fin : ∀ k s μ1 F1 H1, Ext μ F H μ1 F1 H1 → SR C.K μ1 F1 H1 s → Post (C.at σ) G μ1 F1 H1 (kk k s) → R (.bl k) H1) :
    PostV (C.at σ) (fun x H1 => r x y H1 R) μ F H (mV ma ρ st) := by
  have h3' : Post (C.at σ) G μ F H ((mV ma ρ st).bind fun x s1 => (okB (cmp2 g s1 x (.d db)) s1).bind kk) := by
    revert h3
    unfold mCmp
    cases mV ma ρ st <;> exact id
  refine Post.bindV gl h3' fun x s v μ1 F1 H1 x1 r1 k1 h5 => ?_
  cases q0 : cmp2 g s x (.d db) with
  | none => rw [q0] at h5; exact False.elim h5
  | some k =>
    rw [q0] at h5
    unfold cmp2 at q0
    cases q1 : view s x with
    | none => rw [q1] at q0; cases q0
    | some da =>
      rw [q1] at q0
      exact ok da k v μ1 F1 H1 s R r1 (view_ok r1 k1 q1) q0 (fin k s μ1 F1 H1 x1 r1 h5)
theorem flat_strs {v : V} {d : PyData} {K : Kw} (h : Dq K F v d) (f : flatD d = true) : ∀ zs : List Str, (zs.map V.str).all flatV = true ∧ inV v (zs.map V.str) = (zs.map PyData.str).any (fun y => eqF y d) := fun zs => by
  have : DqAll K F (zs.map V.str) (zs.map PyData.str) := by
    induction zs with
    | nil => exact .nil
    | cons z zs ih => exact .cons (.str z) ih
  exact flat_all h f this (by rw [List.all_map]; exact List.all_eq_true.mpr fun _ _ => rfl)
theorem gInC_ok {neg : Bool} (hK : C.K.K = X.K) (T : TupC X.K X.mg x zs) (a : PyData) (k : Bool) (v : V) (μ : Mu) (F H : Hp) (st : Sto) (Q : VK) (s : SR C.K μ F H st) (va : Vw C.K F H v a) (e : gIn neg a (.tuple (zs.map PyData.str)) = some k) (q : Q (.bl k) H) :
    rIn X.K neg v (.ref (He.ga X.K x)) H Q := by
  unfold gIn at e
  simp only [itemsD] at e
  split at e
  · rename_i hh
    rw [Bool.and_eq_true] at hh
    cases e
    obtain ⟨h1, h2⟩ := flat_strs (va.flat hh.1) hh.1 zs
    exact ⟨_, _, rfl, .inr (T.t H), (flat_dq (va.flat hh.1) hh.1).1, h1, by rw [h2]; exact q⟩
  · cases e
theorem v_inC {neg : Bool} {op : CmpOp} (ho : OpR X (compareOp op) (rIn X.K neg)) (hK : C.K.K = X.K) (T : TupC X.K X.mg x zs) (hg : Gl X x) (ha : PE X e (tM C ma)) (hm : behindInMarks op (.Name x p) = false) (hd : (x == ("__debug__" : Str)) = false := by decide) :
    PE X (.Compare e [op] [.Name x p] pos) (tM C (bV (mCmp (gIn neg) ma (mK (.tuple (zs.map PyData.str)))))) :=
  (pe_cmpR ho (pv_frz ha) (pe_glob (v := .ref (He.ga X.K x)) hg T.g rfl hd) hm).imp fun σ H Q ⟨ρ, st, μ, F, h1, h2, h3⟩ => ⟨ρ, st, μ, F, h1, h2, cmpC_core gE_lat (gInC_ok hK T) h3 fun k s μ1 F1 H1 x1 r1 h => fin_d r1 h (.bl k)⟩
theorem t_inC {neg : Bool} {op : CmpOp} (ho : OpR X (compareOp op) (rIn X.K neg)) (hK : C.K.K = X.K) (T : TupC X.K X.mg x zs) (hg : Gl X x) (ha : PE X e (tM C ma)) (hm : behindInMarks op (.Name x p) = false) (hd : (x == ("__debug__" : Str)) = false := by decide) :
    PT X (.Compare e [op] [.Name x p] pos) (tT C (mCmp (gIn neg) ma (mK (.tuple (zs.map PyData.str))))) := by
  have h := pt_cmpR (pos := pos) ho (pv_frz ha) (pe_glob (v := .ref (He.ga X.K x)) hg T.g rfl hd) hm
  refine ⟨fun pins s σ H Q I ⟨ρ, st, μ, F, h1, h2, h3⟩ => h.run pins s σ H Q I ⟨ρ, st, μ, F, h1, h2, ?_⟩⟩
  have h3' : PostB (C.at σ) Q μ F H ((mCmp (gIn neg) ma (mK (.tuple (zs.map PyData.str))) ρ st).bind fun k s => .ok k s) := by
    revert h3
    cases mCmp (gIn neg) ma (mK (.tuple (zs.map PyData.str))) ρ st <;> exact id
  exact cmpC_core (R := fun v H1 => ∃ k, v = .bl k ∧ Q k H1) gB_lat (gInC_ok hK T) h3' fun k s μ1 F1 H1 x1 r1 h => ⟨k, rfl, h μ1 F1 H1 Ext.refl r1⟩
/-! ### name += e, of ints -/
def sAugI (i : Nat) (ma : Ev) : Sv := fun ρ st => match ρ[i]? with
  | some (some (.d (.int a))) => (mV ma ρ st).toS fun y s => match y with
    | .d (.int b) => .nx (ρ.set i (some (.d (.int (a + b))))) s
    | _ => .no
  | _ => .no
theorem x_augI {i : Nat} {y : Str} {pos' : Pos} (hN : X.N.Nodup) (hi : X.N[i]? = some y) (hx : Loc X.env.scope y) (ha : PE X e (tM C ma)) (hf : X.fn y = true ∨ X.env.scope.names.lookup y = some .local) :
    PS X (.AugAssign (.Name y pos') .Add e pos) (tS C (sAugI i ma)) := (ps_aug hN hi hx (pv_frz ha) ip_add hf).imp fun D σ H ⟨ρ, st, μ, F, h1, h2, h3⟩ => by
  have h3 : PostS (C.at σ) D μ F H (sAugI i ma ρ st) := h3
  unfold sAugI at h3
  cases q : ρ[i]? with
  | none => rw [q] at h3; exact False.elim h3
  | some o =>
    cases o with
    | none => rw [q] at h3; exact False.elim h3
    | some x =>
      cases x with
      | d d =>
        cases d with
        | int a =>
          rw [q] at h3
          obtain ⟨v, k1, k2⟩ := h1.2 i _ q
          refine ⟨v, k1, ρ, st, μ, F, h1, h2, PostS.bindV h3 fun y s u μ1 F1 H1 x1 r1 k3 h4 => ?_⟩
          cases y with
          | d d =>
            cases d with
            | int b =>
              have e1 : v = .int a := by cases (show Dq C.K F v (.int a) from k2); rfl
              have e2 : u = .int b := by cases (show Dq C.K F1 u (.int b) from k3); rfl
              subst e1 e2
              exact ⟨a, b, rfl, rfl, h4 _ _ _ _ Ext.refl r1 (eok_set (h1.ext x1) (show Vok C.K F1 μ1 (.d (.int (a + b))) (.int (a + b)) from Dq.int _))⟩
            | _ => exact False.elim h4
          | _ => exact False.elim h4
        | _ => rw [q] at h3; exact False.elim h3
      | _ => rw [q] at h3; exact False.elim h3
variable {E : Er → Sto → Prop} {ρ : En} {N B K : En → Sto → Prop} {R : Rv → Sto → Prop}
@[simp] theorem W_sAugI (i : Nat) : WSe E (sAugI i ma ρ st) N B K R = (match ρ[i]? with
    | some (some (.d (.int a))) => WVe E (ma ρ st) fun y s => (match frz y with
      | .d (.int b) => N (ρ.set i (some (.d (.int (a + b))))) s
      | _ => False)
    | _ => False) := by
  unfold sAugI
  split
  · rw [WS_toS, W_mV]
    congr 1; funext y s
    split <;> simp_all
  · rename_i h
    rfl
end
/-! ### a table of the module: texts to ints; .get of it -/
def isI (v : Value) (z : Int) : Bool := match v with
  | .int y _ => decide (y = z)
  | _ => false
theorem isI_ok {v : Value} {z : Int} (h : isI v z = true) : RelV (.int z) v := by
  unfold isI at h
  split at h
  · rename_i y t
    have e : y = z := of_decide_eq_true h
    subst e
    exact ⟨t, rfl⟩
  · cases h
def entsI : List DictEntry → List (Str × Int) → Bool
  | [], [] => true
  | e :: r, z :: zs => (isS e.key z.1 && isI e.val z.2) && entsI r zs
  | _, _ => false
def tabB (x : Str) (kvs : List (Str × Int)) : Fb := fun K => (He.Fa.glo x).ok K && match K.lookup (He.ga K x) with
  | some ⟨_, _, .dict es _, _⟩ => entsI es.toList kvs
  | _ => false
/-- the table -/
structure TabC (K : PySem.W.Frag) (w : World) (mg : Str → Option Value) (x : Str) (kvs : List (Str × Int)) : Prop where
  g : mg x = some (.ref (He.ga K x))
  t : ∃ es n, KDict K w (He.ga K x) es n ∧ ∀ z, RelO ((kvs.lookup z).map V.int) (findBy Value.isStrOf es z)
theorem entsI_find : ∀ {l : List DictEntry} {kvs : List (Str × Int)}, entsI l kvs = true → ∀ z, RelO ((kvs.lookup z).map V.int) ((l.find? fun e => Value.isStrOf z e.key).map (·.val))
  | [], [], _, _ => trivial
  | e :: r, p :: zs, h, z => by
    obtain ⟨p1, p2⟩ := p
    unfold entsI at h
    simp only [Bool.and_eq_true] at h
    obtain ⟨⟨h1, h2⟩, h3⟩ := h
    obtain ⟨t, ek⟩ := isS_ok h1
    have ez : Value.isStrOf z e.key = decide (z = p1) := by
      rw [ek]
      by_cases hz : z = p1
      · subst hz; simp [Value.isStrOf]
      · simp [Value.isStrOf, hz]
        try exact fun q => hz q.symm
    rw [List.find?_cons, ez, List.lookup_cons]
    by_cases hz : z = p1
    · subst hz
      simp
      exact isI_ok h2
    · have e1 : (z == p1) = false := by simpa using hz
      rw [decide_eq_false hz, e1]
      exact entsI_find h3 z
  | [], _ :: _, h, _ => by cases h
  | _ :: _, [], h, _ => by cases h
theorem tabB_ok {x : Str} {kvs : List (Str × Int)} {K : PySem.W.Frag} {w : World} {h : Heap} {mg : Str → Option Value} (X : K.In h) (G : h.Ns mainGlobals mg) (c : tabB x kvs K = true) (D : ∃ es n, KDict K w (He.ga K x) es n) : TabC K w mg x kvs := by
  obtain ⟨c1, c2⟩ := He.ba c
  refine ⟨He.glo_ok X G c1, ?_⟩
  obtain ⟨es, n, D⟩ := D
  refine ⟨es, n, D, fun z => ?_⟩
  rw [D.at_] at c2
  have := entsI_find c2 z
  obtain ⟨l⟩ := es
  unfold findBy
  simpa using this
def mTabG (kvs : List (Str × Int)) (ma : Ev) : Ev := fun ρ st => (mV ma ρ st).bind fun y s => match y with
  | .d (.str z) => .ok (.d (match kvs.lookup z with
    | some i => .int i
    | none => .none)) s
  | _ => .no
section
variable {X : Cx} {C : Cn} {e : Expr} {ma : Ev} {apos cpos p : Pos} {x : Str} {kvs : List (Str × Int)}
theorem s_tabG (T : TabC X.K X.w X.mg x kvs) (hg : Gl X x) (he : PE X e (tM C ma)) (m : M1 X (.Name x p) "get" apos e cpos) (hd : (x == ("__debug__" : Str)) = false := by decide) :
    PE X (.Call (.Attribute (.Name x p) "get" apos) [e] [] cpos) (tM C (mTabG kvs ma)) := by
  refine ⟨fun pins s σ H Q I ⟨ρ, st, μ, F, h1, h2, h3⟩ => ?_⟩
  obtain ⟨es, n, D, hfind⟩ := T.t
  refine wpAny_Call_method m.base m.few m.line PySem.F.plainAttrs_dict PySem.F.slot_dict_get PySem.F.type_dict_get (thn ((pe_glob (pos := p) (v := .ref (He.ga X.K x)) hg T.g rfl hd).run pins s σ H (fun v H1 => v = .ref (He.ga X.K x) ∧ H1 = H) I ⟨rfl, rfl⟩) fun u s1 ⟨y, H1, I1, rx, ex, eH⟩ => ?_)
  subst ex eH
  obtain rfl : u = Value.ref (He.ga X.K x) := rx
  have mo : s1.heap.MapOf (strKind X.prog X.w) (He.ga X.K x) (fun k => findBy Value.isStrOf es k) := PySem.W.mapOf_K (prog := X.prog) I1.kIn D.at_ D.lit
  refine ⟨mo.typeIs, mo.noDict, ?_⟩
  rw [m.trees]
  refine Calls.callWith_builtin rfl (Calls.evalArgs_plain (Calls.spliced_cons (thn ((pv_frz he).run pins s1 σ H1 (fun v H2 => ∃ z, v = .str z ∧ Q ((((kvs.lookup z).map V.int)).getD .non) H2) I1 ⟨ρ, st, μ, F, h1, h2, Post.bindV gE_lat h3 fun y sy v μ1 F1 H2 x1 r1 k1 h5 => ?_⟩) fun iv s2 ⟨y, H2, I2, ry, z, ez, q⟩ => Calls.spliced_nil ?_)))
  · cases y with
    | d d =>
      cases d with
      | str z =>
        have e1 : v = .str z := by cases (show Dq C.K F1 v (.str z) from k1); rfl
        refine ⟨z, e1, ?_⟩
        have h5 : PostE (C.at σ) Q μ1 F1 H2 (.ok (.d (match kvs.lookup z with
          | some i => .int i
          | none => .none)) sy) := h5
        cases q : kvs.lookup z with
        | none => rw [q] at h5; exact fin_d r1 h5 .non
        | some i => rw [q] at h5; exact fin_d r1 h5 (.int i)
      | _ => exact False.elim h5
    | _ => exact False.elim h5
  · subst ez
    obtain ⟨t, rfl⟩ := ry
    have mo2 : s2.heap.MapOf (strKind X.prog X.w) (He.ga X.K x) (fun k => findBy Value.isStrOf es k) := PySem.W.mapOf_K (prog := X.prog) I2.kIn D.at_ D.lit
    refine call_meetsIn PySem.F.slot_dict_get mo2.typeIs PySem.F.entry_dict_get (PySem.F.args_dict_get_2 _ _) (meets_dict_get (strKind X.prog X.w) (He.ga X.K x) (PySem.strKind_is X.prog X.w z t) D.low) ⟨_, mo2, ⟨_, H2, I2.tok _, ?_, q⟩⟩
    exact RelO.getD (hfind z) rfl
variable {E : Er → Sto → Prop} {ρ : En} {st : Sto} {PE' : Rv → Sto → Prop}
@[simp] theorem W_mTabG : WVe E (mTabG kvs ma ρ st) PE' = WVe E (ma ρ st) fun r s => (match frz r with
    | .d (.str z) => PE' (.d (match kvs.lookup z with
      | some i => .int i
      | none => .none)) s
    | _ => False) := by
  unfold mTabG; rw [WV_bind, W_mV]
  congr 1; funext y s
  split <;> simp_all
end
/-! ### the head's own look, with tables -/
abbrev AlX : Type := He.AlD × List (Option (List (Option (Str × Int))))
def obsXT (fb : List Fb) (fn : List He.DefD) (ts : List He.Tab) (K : PySem.W.Frag) : AlX := (obsX fb fn K, ts.map fun t => He.dicW K (t.1 K))
def valXT (fn : List He.DefD) (ts : List He.Tab) (w : World) : AlX := (He.valD fn, ts.map fun t => some (He.keysIn w.params t.2))
def SaysXT (fb : List Fb) (fn : List He.DefD) (ts : List He.Tab) (w : World) (K : PySem.W.Frag) : Prop := obsXT fb fn ts K = valXT fn ts w
def sysB : Fb := fun K => match K.lookup sysModules with
  | some ⟨_, _, .dict _ _, _⟩ => true
  | _ => false
theorem sysB_ok {K : PySem.W.Frag} (h : sysB K = true) : SysK K := by
  unfold sysB at h
  cases q : K.lookup sysModules with
  | none => rw [q] at h; cases h
  | some o =>
    rw [q] at h
    obtain ⟨oc, od, dt, osl⟩ := o
    cases dt with
    | dict es n => exact ⟨_, es, n, q, rfl⟩
    | _ => cases h
def obsXTG (n : Nat) (fb : List Fb) (fn : List He.DefD) (ts : List He.Tab) (g : Addr → Option Obj) : AlX := obsXT fb fn ts (He.frG g (sysModules :: He.asD g n))
def hookXT (n : Nat) (fb : List Fb) (fn : List He.DefD) (ts : List He.Tab) : PySem.W.Hook where
  α := AlX
  obs := fun s => obsXTG n fb fn ts s.heap.get?
  val := fun w => valXT fn ts w
  says := fun w h => ∃ K : PySem.W.Frag, K.In h ∧ SaysXT fb fn ts w K
  of := fun _ _ e => ⟨_, He.frG_in, e⟩
  keeps := fun _ _ _ ⟨K, hK, c⟩ k => ⟨K, PySem.W.Frag.In.keeps hK k, c⟩
theorem obsXTG_eq {n : Nat} {fb : List Fb} {fn : List He.DefD} {ts : List He.Tab} {g : Addr → Option Obj} {s : Shared} (h : ∀ a, g a = s.heap.get? a) : obsXTG n fb fn ts g = (hookXT n fb fn ts).obs s := by
  have e : g = s.heap.get? := funext h
  rw [e] <;> rfl
section
variable {fb : List Fb} {fn : List He.DefD} {ts : List He.Tab} {w : World} {K : PySem.W.Frag}
theorem SaysXT.x (c : SaysXT fb fn ts w K) : SaysX fb fn K := congrArg (fun z : AlX => z.1) c
theorem SaysXT.tab (c : SaysXT fb fn ts w K) (i : Nat) {t : He.Tab} (h : ts[i]? = some t := by rfl) : ∃ es n, KDict K w (t.1 K) es n := by
  have e : ts.map (fun t => He.dicW K (t.1 K)) = ts.map fun t => some (He.keysIn w.params t.2) := congrArg (fun z : AlX => z.2) c
  have e2 : (ts.map fun t => He.dicW K (t.1 K))[i]? = (ts.map fun t => some (He.keysIn w.params t.2))[i]? := by rw [e]
  rw [List.getElem?_map, List.getElem?_map, h] at e2
  exact He.dicW_ok (Option.some.inj e2)
end
/-- a world by what it says of one row -/
def setF (w : World) (r : String) (b : Bool) : World := { w with params := { w.params with followText := fun x => if x == r then b else w.params.followText x } }
theorem setF_eq (w : World) (r : String) : setF w r (w.params.followText r) = w := by
  obtain ⟨d, p⟩ := w
  unfold setF
  have : (fun x => if x == r then p.followText r else p.followText x) = p.followText := by
    funext x
    by_cases h : x = r
    · subst h; simp
    · simp [h]
  simp only [this]
end Cp
/-! Dd: dicts, their keys ints and texts or tuples: in, d[k], d[k] = v. -/
namespace Cp
open PySem L2
def gnD (d : PyData) : Bool := match d with
  | .tuple xs => (match keysN xs with
    | some ks => decide ((NestedKey.tup ks).depth ≤ 8)
    | none => false)
  | _ => false
def gnK (kvs : List (PyData × PyData)) : Bool := kvs.all fun p => gnD p.1
def okK (kvs : List (PyData × PyData)) (k : PyData) : Bool := (flK kvs && (keyD k).isSome) || (gnK kvs && gnD k)
def keyE (a b : PyData) : Bool := decide (keyN a = keyN b)
def lookD : List (PyData × PyData) → PyData → Option PyData
  | [], _ => none
  | (j, v) :: r, k => if keyE j k then some v else lookD r k
def putD (kvs : List (PyData × PyData)) (k v : PyData) : List (PyData × PyData) :=
  if (kvs.any fun p => keyE p.1 k) = true then kvs.map (fun p => if keyE p.1 k = true then (p.1, v) else p) else kvs ++ [(k, v)]
theorem gnD_ok {d : PyData} (h : gnD d = true) : ∃ xs ks, d = .tuple xs ∧ keyN d = some (.tup ks) ∧ (NestedKey.tup ks).depth ≤ 8 := by
  cases d with
  | tuple xs =>
    unfold gnD at h
    cases q : keysN xs with
    | none => simp only [q] at h; cases h
    | some ks =>
      simp only [q] at h
      exact ⟨xs, ks, rfl, by unfold keyN; rw [q], of_decide_eq_true h⟩
  | _ => cases h
theorem keyE_kD {j k : Key} : keyE (kD j) (kD k) = decide (j = k) := by
  unfold keyE
  cases j <;> cases k <;> simp [kD, keyN]
section
variable {K : Kw} {F H : Hp}
/-- the value at a key -/
theorem lookD_flat {k : Key} : ∀ {ws : List (Key × V)} {kvs : List (PyData × PyData)}, DqKv K F ws kvs → OptOk K F (valV ws k) (lookD kvs (kD k))
  | _, _, .nil => trivial
  | (j, v) :: ws, _, .cons (d := d) h t => by
    unfold lookD valV
    rw [List.find?_cons, keyE_kD]
    cases q : decide (j = k) with
    | true => exact h
    | false => exact lookD_flat t
theorem OptOk.same_some {a : Option V} {b : Option PyData} (h : OptOk K F a b) : a.isSome = b.isSome := by
  cases a <;> cases b <;> first | rfl | exact False.elim h
theorem any_flat {k : Key} : ∀ {ws : List (Key × V)} {kvs : List (PyData × PyData)}, DqKv K F ws kvs → (kvs.any fun p => keyE p.1 (kD k)) = ws.any fun kv => decide (kv.1 = k)
  | _, _, .nil => rfl
  | (j, v) :: ws, _, .cons (d := d) h t => by rw [List.any_cons, List.any_cons, keyE_kD, any_flat t]
theorem map_flat {k : Key} {x : V} {d : PyData} (hx : Dq K F x d) : ∀ {ws : List (Key × V)} {kvs : List (PyData × PyData)}, DqKv K F ws kvs → DqKv K F (ws.map fun kv => if kv.1 = k then (kv.1, x) else kv) (kvs.map fun p => if keyE p.1 (kD k) = true then (p.1, d) else p)
  | _, _, .nil => .nil
  | (j, v) :: ws, _, .cons (d := d') h t => by
    rw [List.map_cons, List.map_cons, keyE_kD]
    by_cases q : j = k
    · rw [if_pos q, if_pos (decide_eq_true q)]; exact .cons hx (map_flat hx t)
    · rw [if_neg q, if_neg (by simpa using q)]; exact .cons h (map_flat hx t)
theorem app_flat : ∀ {ws us : List (Key × V)} {kvs lvs : List (PyData × PyData)}, DqKv K F ws kvs → DqKv K F us lvs → DqKv K F (ws ++ us) (kvs ++ lvs)
  | _, _, _, _, .nil, h => h
  | _, _, _, _, .cons h t, g => .cons h (app_flat t g)
theorem put_flat {k : Key} {x : V} {d : PyData} {ws : List (Key × V)} {kvs : List (PyData × PyData)} (h : DqKv K F ws kvs) (hx : Dq K F x d) : DqKv K F (putK ws k x) (putD kvs (kD k) d) := by
  unfold putK putD
  rw [any_flat h]
  by_cases q : (ws.any fun kv => decide (kv.1 = k)) = true
  · rw [if_pos q, if_pos q]; exact map_flat hx h
  · rw [if_neg q, if_neg q]; exact app_flat h (.cons hx .nil)
/-! ### keys that are tuples -/
abbrev Ge := NestedKey × Addr × V
def lookG (es : List Ge) (k : NestedKey) : Option V := (es.find? fun e => decide (e.1 = k)).map (·.2.2)
def putG (es : List Ge) (k : NestedKey) (b : Addr) (v : V) : List Ge :=
  if (es.any fun e => decide (e.1 = k)) = true then es.map (fun e => if e.1 = k then (e.1, e.2.1, v) else e) else es ++ [(k, b, v)]
theorem keyE_at {a b : PyData} {j k : NestedKey} (h1 : keyN a = some j) (h2 : keyN b = some k) : keyE a b = decide (j = k) := by
  unfold keyE
  rw [h1, h2]
  by_cases q : j = k
  · rw [decide_eq_true q, decide_eq_true (by rw [q])]
  · rw [decide_eq_false q, decide_eq_false (fun z => q (Option.some.inj z))]
theorem lookG_ok {k : NestedKey} {kd : PyData} (hk : keyN kd = some k) : ∀ {es : List Ge} {kvs : List (PyData × PyData)}, DqG K F es kvs → OptOk K F (lookG es k) (lookD kvs kd)
  | _, _, .nil => trivial
  | (j, b, v) :: es, _, .cons h1 h2 h3 h4 t => by
    unfold lookD lookG
    rw [List.find?_cons, keyE_at h2 hk]
    cases q : decide (j = k) with
    | true => exact h4
    | false => exact lookG_ok hk t
theorem anyG_ok {k : NestedKey} {kd : PyData} (hk : keyN kd = some k) : ∀ {es : List Ge} {kvs : List (PyData × PyData)}, DqG K F es kvs → (kvs.any fun p => keyE p.1 kd) = es.any fun e => decide (e.1 = k)
  | _, _, .nil => rfl
  | (j, b, v) :: es, _, .cons h1 h2 h3 h4 t => by rw [List.any_cons, List.any_cons, keyE_at h2 hk, anyG_ok hk t]
theorem mapG_ok {k : NestedKey} {kd : PyData} (hk : keyN kd = some k) {x : V} {d : PyData} (hx : Dq K F x d) : ∀ {es : List Ge} {kvs : List (PyData × PyData)}, DqG K F es kvs → DqG K F (es.map fun e => if e.1 = k then (e.1, e.2.1, x) else e) (kvs.map fun p => if keyE p.1 kd = true then (p.1, d) else p)
  | _, _, .nil => .nil
  | (j, b, v) :: es, _, .cons h1 h2 h3 h4 t => by
    rw [List.map_cons, List.map_cons, keyE_at h2 hk]
    by_cases q : j = k
    · rw [if_pos q, if_pos (decide_eq_true q)]; exact .cons h1 h2 h3 hx (mapG_ok hk hx t)
    · rw [if_neg q, if_neg (by simpa using q)]; exact .cons h1 h2 h3 h4 (mapG_ok hk hx t)
theorem appG_ok : ∀ {es us : List Ge} {kvs lvs : List (PyData × PyData)}, DqG K F es kvs → DqG K F us lvs → DqG K F (es ++ us) (kvs ++ lvs)
  | _, _, _, _, .nil, h => h
  | _, _, _, _, .cons h1 h2 h3 h4 t, g => .cons h1 h2 h3 h4 (appG_ok t g)
theorem putG_ok {k : NestedKey} {kd : PyData} (hk : keyN kd = some k) (hd : k.depth ≤ 8) {b : Addr} (hb : Dq K F (.ref b) kd) {x : V} {d : PyData} (hx : Dq K F x d) {es : List Ge} {kvs : List (PyData × PyData)} (h : DqG K F es kvs) : DqG K F (putG es k b x) (putD kvs kd d) := by
  unfold putG putD
  rw [anyG_ok hk h]
  by_cases q : (es.any fun e => decide (e.1 = k)) = true
  · rw [if_pos q, if_pos q]; exact mapG_ok hk hx h
  · rw [if_neg q, if_neg q]; exact appG_ok h (.cons hb hk hd hx .nil)
theorem putG_ne {es : List Ge} {k : NestedKey} {b : Addr} {v : V} : putG es k b v ≠ [] := by
  unfold putG
  split
  · rename_i q
    cases es with
    | nil => cases q
    | cons e es => simp
  · simp
theorem putG_nodup {es : List Ge} {k : NestedKey} {b : Addr} {v : V} (h : (es.map (·.1)).Nodup) : ((putG es k b v).map (·.1)).Nodup := by
  unfold putG
  split
  · have e : (es.map fun e => if e.1 = k then (e.1, e.2.1, v) else e).map (·.1) = es.map (·.1) := by
      rw [List.map_map]
      refine List.map_congr_left fun e _ => ?_
      show (if e.1 = k then (e.1, e.2.1, v) else e).1 = e.1
      split <;> rfl
    rw [e]; exact h
  · rename_i q
    rw [List.map_append, List.nodup_append]
    refine ⟨h, by simp, fun a ha c hc e => ?_⟩
    rw [List.map_cons, List.map_nil, List.mem_singleton] at hc
    subst e hc
    obtain ⟨x, hx, e⟩ := List.mem_map.mp ha
    exact q (List.any_eq_true.mpr ⟨x, hx, decide_eq_true e⟩)
theorem putG_len {es : List Ge} {k : NestedKey} {b : Addr} {v : V} : (putG es k b v).length ≤ es.length + 1 := by
  unfold putG
  split <;> simp
end
/-! ### in the heap -/
section
variable {P : Program} {w : World} {K : Kw} {F H : Hp} {h : Heap}
mutual
theorem Dq.nest (ok : HOk P w H h) : ∀ {v : V} {d : PyData} {u : Value} {k : NestedKey}, Dq K H v d → RelV v u → keyN d = some k → NestedIs h k u
  | _, _, _, _, .non, r, e => by cases r; cases e; exact .none
  | _, _, _, _, .bl b, _, e => by cases e
  | _, _, _, _, .int i, r, e => by obtain ⟨t, rfl⟩ := r; cases e; exact .int i t
  | _, _, _, _, .str x, r, e => by obtain ⟨t, rfl⟩ := r; cases e; exact .text x t
  | _, _, _, _, .lst _ _, _, e => by cases e
  | _, .tuple ds, _, k, .tup (a := a) (xs := xs) g q, r, e => by
    cases r
    unfold keyN at e
    cases q1 : keysN ds with
    | none => rw [q1] at e; cases e
    | some ks =>
      rw [q1] at e
      cases e
      have g' : ObjOk P w H h a (.tup xs) := by
        rcases g with g | ⟨o, g⟩
        · exact ok a _ g
        · exact (ok a _ g).2
      obtain ⟨_, its, rv, o, ho, hc, n, hd⟩ := g'
      exact .tup ho hc hd (DqAll.nest ok q rv q1)
  | _, _, _, _, .dic _ _, _, e => by cases e
  | _, _, _, _, .dig _ _ _ _, _, e => by cases e
  | _, _, _, _, .ins _ _ _, _, e => by cases e
theorem DqAll.nest (ok : HOk P w H h) : ∀ {vs : List V} {ds : List PyData} {us : List Value} {ks : List NestedKey}, DqAll K H vs ds → Vals vs us → keysN ds = some ks → NestedAll h ks us
  | _, _, _, _, .nil, r, e => by cases r; cases e; exact .nil
  | _, d :: ds, _, ks, .cons g q, r, e => by
    cases r with
    | cons r1 r2 =>
      unfold keysN at e
      cases q1 : keyN d with
      | none => rw [q1] at e; cases e
      | some k =>
        cases q2 : keysN ds with
        | none => rw [q1, q2] at e; cases e
        | some ks' =>
          rw [q1, q2] at e
          cases e
          exact .cons (Dq.nest ok g r1 q1) (DqAll.nest ok q r2 q2)
end
theorem DqG.nests (ok : HOk P w H h) : ∀ {es : List Ge} {kvs : List (PyData × PyData)} {xs : List (NestedKey × Addr × Value)}, DqG K H es kvs → Paired DgPr es xs → ∀ x ∈ xs, (nestedKind P w).is h x.1 x.2.1
  | _, _, _, .nil, r, _, hx => by cases r; cases hx
  | _, _, _, .cons h1 h2 h3 h4 t, r, x, hx => by
    cases r with
    | cons r1 r2 =>
      rcases List.mem_cons.mp hx with rfl | hx
      · obtain ⟨e1, e2, _⟩ := r1
        show NestedIs h x.1 (.ref x.2.1) ∧ x.1.depth ≤ 8
        rw [← e1, ← e2]
        exact ⟨Dq.nest ok h1 rfl h2, h3⟩
      · exact DqG.nests ok t r2 x hx
/-- a dict whose keys are tuples, or none -/
theorem dc_gen (ok : HOk P w H h) (sub : Same F H) {a : Addr} {o : HO} {kvs : List (PyData × PyData)} (hw : K.w = w) (ha : H a = some o) (hc : DcOk K F a kvs o) (g : gnK kvs = true) :
    ∃ es xs, DqG K F es kvs ∧ (es.map (·.1)).Nodup ∧ Paired DgPr es xs ∧ h.DictOfH (nestedKind P w) a xs ∧ es.length ≤ sizeLine ∧ (a == sysModules) = false ∧ Mut (H a) := by
  rcases hc with ⟨ws, rfl, h2⟩ | ⟨es, ⟨r, rfl⟩, h2, h3, h4⟩
  · cases h2 with
    | nil =>
      obtain ⟨_, low, vs, kv, hd⟩ := ok a _ ha
      cases kv
      obtain ⟨o, ar, ep, e1, e2, e3, _, e4, _⟩ := hd
      have e6 : ar.toList = [] := by
        generalize ar.toList = l at e4
        cases e4; rfl
      exact ⟨[], [], .nil, List.nodup_nil, .nil, ⟨o, ar, ep, e1, e2, e3, by rw [e6]; rfl, fun _ z => (nomatch z), List.nodup_nil⟩, Nat.zero_le _, low, by rw [ha]; trivial⟩
    | cons _ _ =>
      unfold gnK at g
      rw [List.all_cons, Bool.and_eq_true] at g
      rename_i k _ _ _ _ _ _
      cases k <;> exact absurd g.1 Bool.false_ne_true
  · obtain ⟨⟨hl, low, xs, o, ar, ep, p, ⟨e1, _⟩, e2, e3, e4⟩, _⟩ := ok a _ ha
    refine ⟨es, xs, h2, h3, p, ⟨o, ar, ep, e1, e2, e3, ?_, DqG.nests ok (h2.same sub) p, ?_⟩, hl, low, by rw [ha]; trivial⟩
    · rw [e4, hw]; rfl
    · have : ∀ {es : List Ge} {xs : List (NestedKey × Addr × Value)}, Paired DgPr es xs → xs.map (·.1) = es.map (·.1) := by
        intro es xs p
        induction p with
        | nil => rfl
        | cons a _ ih => rw [List.map_cons, List.map_cons, ih, a.1]
      rw [this p]; exact h3
end
theorem lookX {es : List Ge} {xs : List (NestedKey × Addr × Value)} (p : Paired DgPr es xs) (k : NestedKey) : RelO (lookG es k) ((atKey xs k).map (·.2)) := by
  induction p with
  | nil => trivial
  | @cons e x es xs h t ih =>
    obtain ⟨e1, _, e3⟩ := h
    unfold lookG atKey at ih ⊢
    rw [List.find?_cons, List.find?_cons, e1]
    cases q : decide (x.1 = k) with
    | true => exact e3
    | false => exact ih
theorem anyX {es : List Ge} {xs : List (NestedKey × Addr × Value)} (p : Paired DgPr es xs) (k : NestedKey) : (es.any fun e => decide (e.1 = k)) = (atKey xs k).isSome := by
  induction p with
  | nil => rfl
  | @cons e x es xs h t ih =>
    unfold atKey at ih ⊢
    rw [List.any_cons, List.find?_cons, h.1]
    cases q : decide (x.1 = k) with
    | true => rfl
    | false => simpa using ih
theorem putX {es : List Ge} {xs : List (NestedKey × Addr × Value)} (p : Paired DgPr es xs) (k : NestedKey) (b : Addr) {v : V} {u : Value} (r : RelV v u) : Paired DgPr (putG es k b v) (storedH xs k b u) := by
  unfold putG storedH
  rw [anyX p k]
  by_cases q : (atKey xs k).isSome = true
  · rw [if_pos q, if_pos q]
    clear q
    induction p with
    | nil => exact .nil
    | @cons e x es xs h t ih =>
      rw [List.map_cons, List.map_cons]
      refine .cons ?_ ih
      unfold putAt
      rw [h.1]
      by_cases z : x.1 = k
      · rw [if_pos z, if_pos z]; exact ⟨rfl, h.2.1, r⟩
      · rw [if_neg z, if_neg z]; exact h
  · rw [if_neg q, if_neg q]
    clear q
    induction p with
    | nil => exact .cons ⟨rfl, rfl, r⟩ .nil
    | @cons e x es xs h t ih => exact .cons h ih
section
variable {X : Cx}
/-- what a rule over a dict and a key asks -/
def DcAt (w : World) (H : Hp) (y x : V) (KK : Kw) (F : Hp) (a : Addr) (o : HO) (kvs : List (PyData × PyData)) (kd : PyData) : Prop :=
  KK.w = w ∧ y = .ref a ∧ H a = some o ∧ Same F H ∧ DcOk KK F a kvs o ∧ Dq KK F x kd ∧ okK kvs kd = true
theorem okK_or {kvs : List (PyData × PyData)} {kd : PyData} (h : okK kvs kd = true) : (flK kvs = true ∧ ∃ k, keyD kd = some k) ∨ (gnK kvs = true ∧ gnD kd = true) := by
  unfold okK at h
  rw [Bool.or_eq_true, Bool.and_eq_true, Bool.and_eq_true] at h
  exact h.imp (fun h => ⟨h.1, Option.isSome_iff_exists.mp h.2⟩) id
/-- k in d -/
def rDIn (w : World) (neg : Bool) : R2 := fun x y H Q => ∃ KK F a o kvs kd, DcAt w H y x KK F a o kvs kd ∧ Q (.bl (if neg then !(lookD kvs kd).isSome else (lookD kvs kd).isSome)) H
theorem op_dIn (hu : X.A.units + 64 < cLine) : OpR X (compareOp .In) (rDIn X.w false) := by
  intro pins s σ H x y v u Q I rx ry h
  obtain ⟨KK, F, a, o, kvs, kd, ⟨hw, rfl, ha, sub, hc, hk, ok⟩, q⟩ := h
  cases ry
  rcases okK_or ok with ⟨f, k, ek⟩ | ⟨g, gk⟩
  · obtain ⟨ws, rfl, hd⟩ := hc.flat f
    obtain ⟨rfl, rfl⟩ := keyD_ok hk ek
    refine d_in (o := valV ws k) (by omega) I (.k ha) rx fun s' I' => ⟨.bl (valV ws k).isSome, H, I', rfl, ?_⟩
    rw [(lookD_flat hd).same_some]; exact q
  · obtain ⟨ds, ks, rfl, ek, hdep⟩ := gnD_ok gk
    obtain ⟨es, xs, h1, h2, h3, h4, h5, h6, h7⟩ := dc_gen (P := X.prog) I.hok sub hw ha hc g
    obtain ⟨b, rfl⟩ : ∃ b, x = .ref b := by cases hk; exact ⟨_, rfl⟩
    cases rx
    refine wpAny_in_heap (knd := nestedKind X.prog X.w) (show X.A.units + 1 + 8 < cLine by omega) ⟨Dq.nest I.hok (hk.same sub) rfl ek, hdep⟩ h6 h4 ⟨.bl (atKey xs (.tup ks)).isSome, H, I.tok _, rfl, ?_⟩
    have e1 := (lookX h3 (.tup ks)).isSome_eq
    rw [Option.isSome_map] at e1
    have e2 := (lookG_ok ek h1).same_some
    rw [← e1, e2]; exact q
def gInD (neg : Bool) (a b : PyData) : Option Bool := match b with
  | .dict kvs => if okK kvs a = true then some (if neg then !(lookD kvs a).isSome else (lookD kvs a).isSome) else none
  | _ => none
theorem dict_at {K : Kw} {F H : Hp} {v : V} {kvs : List (PyData × PyData)} {kd : PyData} (h : Vw K F H v (.dict kvs)) (ok : okK kvs kd = true) : ∃ a o, v = .ref a ∧ H a = some o ∧ DcOk K F a kvs o := by
  rcases h with h | ⟨x, r, rfl, _⟩
  · exact h
  · rcases okK_or ok with ⟨f, _⟩ | ⟨f, _⟩ <;> cases f
theorem key_at {K : Kw} {F H : Hp} {v : V} {kd : PyData} {kvs : List (PyData × PyData)} (h : Vw K F H v kd) (ok : okK kvs kd = true) : Dq K F v kd := by
  cases kd with
  | list _ => rcases okK_or ok with ⟨_, _, f⟩ | ⟨_, f⟩ <;> cases f
  | dict _ => rcases okK_or ok with ⟨_, _, f⟩ | ⟨_, f⟩ <;> cases f
  | _ => exact h
variable {C : Cn} {neg : Bool}
theorem gInD_ok (hw : C.K.w = X.w) : CmpOk C (rDIn X.w neg) (gInD neg) := by
  intro a b k v u μ F H st Q s va vb e q
  cases b with
  | dict kvs =>
    unfold gInD at e
    simp only at e
    by_cases ok : okK kvs a = true
    · rw [if_pos ok] at e
      cases e
      obtain ⟨p, o, rfl, h1, h2⟩ := dict_at vb ok
      exact ⟨C.K, F, p, o, kvs, a, ⟨hw, rfl, h1, s.sub, h2, key_at va ok, ok⟩, q⟩
    · rw [if_neg ok] at e; cases e
  | _ => cases e
variable {a b : Expr} {ma mb : Ev} {pos : Pos} {k : Nat}
theorem t_dIn (B : Bd k X C) (ha : PE X a (tM C ma)) (hb : PE X b (tM C mb)) (hm : behindInMarks .In b = false) : PT X (.Compare a [.In] [b] pos) (tT C (mCmp (gInD false) ma mb)) := s_cmpT (op_dIn B.rm.hu) (gInD_ok B.hw) ha hb hm
/-! ### d[k] -/
def fDix (a b : PyData) : Option Rv := match a with
  | .dict kvs => if okK kvs b = true then (lookD kvs b).map .d else none
  | _ => none
variable {o i : Expr} {mo mi : Ev}
/-! ### d[k] = v -/
theorem ok_notGone {kvs : List (PyData × PyData)} {kd : PyData} (h : okK kvs kd = true) : isGone (.m kvs) = false := by
  cases q : isGone (.m kvs) with
  | false => rfl
  | true =>
    have e : ∃ v r, kvs = (.list [], v) :: r := by
      unfold isGone at q
      split at q
      · rename_i e; injection e with e; exact ⟨_, _, e⟩
      · rename_i e; injection e with e; exact ⟨_, _, e⟩
      · cases q
    obtain ⟨v, r, e⟩ := e
    subst e
    rcases okK_or h with ⟨f, _⟩ | ⟨f, _⟩ <;> cases f
/-- what is behind d[k] = v -/
theorem d_put {pins : List (Addr × Obj)} {σ : St} {s : Shared} {K : Kw} {F H : Hp} {a : Addr} {o : HO} {kvs : List (PyData × PyData)} {kd dv : PyData} {x v : V} {u r : Value} {Q : Unit → Shared → Prop} (hu : X.A.units + 64 < cLine) (I : Inv X pins σ H s) (hw : K.w = X.w) (ha : H a = some o) (sub : Same F H) (hc : DcOk K F a kvs o)
    (hk : Dq K F x kd) (ok : okK kvs kd = true) (hl : kvs.length < sizeLine) (hv : Dq K F v dv) (rx : RelV x u) (rv : RelV v r) (h : ∀ o' s', DcOk K F a (putD kvs kd dv) o' → Inv X pins σ (upd H a o') s' → Q () s') :
    wpAny (model X.prog X.w) X.A (setItem (.ref a) u r) Q X.xe s := by
  rcases okK_or ok with ⟨f, k, ek⟩ | ⟨g, gk⟩
  · obtain ⟨ws, rfl, hd⟩ := hc.flat f
    obtain ⟨rfl, rfl⟩ := keyD_ok hk ek
    have hlen : ws.length = kvs.length := by
      have : ∀ {ws : List (Key × V)} {kvs : List (PyData × PyData)}, DqKv K F ws kvs → ws.length = kvs.length := by
        intro ws kvs h
        induction ws generalizing kvs with
        | nil => cases h; rfl
        | cons w ws ih => cases h with | cons a b => rw [List.length_cons, List.length_cons, ih b]
      exact this hd
    exact d_setItem (by omega) I (DPut.k ha (by rw [hlen]; exact hl)) rx rv fun s' I' => h _ s' (.inl ⟨_, rfl, put_flat hd hv⟩) I'
  · obtain ⟨ds, ks, rfl, ek, hdep⟩ := gnD_ok gk
    obtain ⟨es, xs, h1, h2, h3, h4, h5, h6, h7⟩ := dc_gen (P := X.prog) I.hok sub hw ha hc g
    obtain ⟨b, rfl⟩ : ∃ b, x = .ref b := by cases hk; exact ⟨_, rfl⟩
    cases rx
    have hlen : es.length = kvs.length := by
      have : ∀ {es : List Ge} {kvs : List (PyData × PyData)}, DqG K F es kvs → es.length = kvs.length := by
        intro es kvs h
        induction es generalizing kvs with
        | nil => cases h; rfl
        | cons w ws ih => cases h with | cons a b c d e => rw [List.length_cons, List.length_cons, ih e]
      exact this h1
    refine wpAny_setItem_heap (knd := nestedKind X.prog X.w) (hsz := by rw [← Paired.length h3]; exact h5) (show X.A.units + 1 + 8 < cLine by omega) ⟨Dq.nest I.hok (hk.same sub) rfl ek, hdep⟩ h4 fun h' dd' hs => ?_
    have hp := putX h3 (.tup ks) b rv
    have hlp : (putG es (.tup ks) b v).length ≤ sizeLine := by have := @putG_len es (.tup ks) b v; omega
    obtain ⟨ob, ar, ep, e1, e2, e3, e4, _, _⟩ := dd'
    refine h (dgO K.w ob a (putG es (.tup ks) b v)) _ (.inr ⟨_, ⟨_, rfl⟩, putG_ok ek hdep hk hv h1, putG_nodup h2, putG_ne⟩) (d_write I h7 hs ⟨ob, e1⟩ ?_)
    refine ⟨⟨hlp, h6, _, ob, ar, ep, hp, ⟨e1, rfl⟩, e2, e3, by rw [e4, hw]; rfl⟩, ⟨ob, e1⟩, fun g1 g2 ⟨l1, l2, ys, oz, az, ez, z1, z2, z3, z4, z5⟩ st => ⟨l1, l2, ys, oz, az, ez, z1, ⟨st _ z2.1, z2.2⟩, z3, z4, z5⟩⟩
def sDput (mo mk mv : Ev) : Sv := fun ρ st => (mV mv ρ st).toS fun x s1 => (mV mo ρ s1).toS fun y s2 => (mV mk ρ s2).toS fun z s3 => match x, y, z with
  | .d x, .c i, .d k => (match s3[i]? with
    | some (.m kvs) => if okK kvs k = true ∧ kvs.length < sizeLine then .nx ρ (s3.set i (.m (putD kvs k x))) else .no
    | _ => .no)
  | _, _, _ => .no
variable {value : Expr} {mv : Ev} {pos' : Pos}
theorem x_dput (B : Bd k X C) (ho : PE X o (tM C mo)) (hi : PE X i (tM C mi)) (hv : PE X value (tM C mv)) (hs : swapsWith value (some (.Subscript o i pos')) pos.line X.env = pure false := by rfl) :
    PS X (.Assign [.Subscript o i pos'] value pos) (tS C (sDput mo mi mv)) := by
  refine ⟨fun pins s σ H D I ⟨ρ, st, μ, F, h1, h2, h3⟩ => ?_⟩
  refine wpAny_Assign_Subscript (thn ((pv_frz hv).run pins s σ H (fun v H1 => tV C (mV mo) σ H1 fun y H2 => tV C (mV mi) σ H2 fun x H3 => ∃ (KK : Kw) (F : Hp) (a : Addr) (ob : HO) (kvs : List (PyData × PyData)) (kd dv : PyData), KK.w = X.w ∧ y = .ref a ∧ H3 a = some ob ∧ Same F H3 ∧ DcOk KK F a kvs ob ∧ Dq KK F x kd ∧ okK kvs kd = true ∧ kvs.length < sizeLine ∧ Dq KK F v dv ∧ ∀ o', DcOk KK F a (putD kvs kd dv) o' → D.nx σ (upd H3 a o')) I
      ⟨ρ, st, μ, F, h1, h2, PostS.bindV h3 fun x s v μ1 F1 H1 x1 r1 k1 h4 => ⟨ρ, s, μ1, F1, h1.ext x1, r1, PostS.bindV h4 fun y s2 u μ2 F2 H2 x2 r2 k2 h5 => ⟨ρ, s2, μ2, F2, (h1.ext x1).ext x2, r2, PostS.bindV h5 fun z s3 w μ3 F3 H3 x3 r3 k3 h6 => ?_⟩⟩⟩)
    fun r s1 ⟨v, H1, I1, rv, q1⟩ => thn ((pv_frz ho).run pins s1 σ H1 _ I1 q1) fun u s2 ⟨y, H2, I2, ry, q2⟩ => thn ((pv_frz hi).run pins s2 σ H2 _ I2 q2) fun iv s3 ⟨x, H3, I3, rx, KK, F, a, ob, kvs, kd, dv, hw, ey, ha, sub, hc, hk, ok, hl, hv, q⟩ => ?_) hs
  · cases x with
    | d x =>
      cases y with
      | c j =>
        cases z with
        | d k =>
          cases q : s3[j]? with
          | none => simp only [q] at h6; exact False.elim h6
          | some cl =>
            cases cl with
            | l _ => simp only [q] at h6; exact False.elim h6
            | m kvs =>
              simp only [q] at h6
              by_cases hh : okK kvs k = true ∧ kvs.length < sizeLine
              · rw [if_pos hh] at h6
                obtain ⟨a, e1, rfl⟩ := k2
                have e1 := x3.get e1
                obtain ⟨b, ob, g1, g2, g3⟩ := r3.cell j _ q (ok_notGone hh.1)
                rw [e1] at g1; cases g1
                refine ⟨C.K, F3, a, ob, kvs, k, x, B.hw, rfl, g2, r3.sub, g3, k3, hh.1, hh.2, (Dq.same x2.same k1).same x3.same, fun o' hc' => ?_⟩
                obtain ⟨w1, w2⟩ := r3.write e1 (show ClOk C.K F3 a (.m (putD kvs k x)) o' from hc') q (ok_notGone hh.1)
                exact h6 _ _ _ _ w2 w1 ((((h1.ext x1).ext x2).ext x3).ext w2)
              · rw [if_neg hh] at h6; exact False.elim h6
        | _ => exact False.elim h6
      | _ => exact False.elim h6
    | _ => exact False.elim h6
  · subst ey
    cases ry
    exact d_put B.rm.hu I3 hw ha sub hc hk ok hl hv rx rv fun o' s' hc' I' => ⟨σ, _, I', q o' hc'⟩
variable {E : Er → Sto → Prop} {ρ : En} {st : Sto} {N Bk Ct : En → Sto → Prop} {R : Rv → Sto → Prop}
@[simp] theorem W_sDput : WSe E (sDput mo mi mv ρ st) N Bk Ct R = WVe E (mv ρ st) fun x s1 => WVe E (mo ρ s1) fun y s2 => WVe E (mi ρ s2) fun z s3 => (match frz x, frz y, frz z with
    | .d x, .c i, .d k => (match s3[i]? with
      | some (.m kvs) => (okK kvs k = true ∧ kvs.length < sizeLine) ∧ N ρ (s3.set i (.m (putD kvs k x)))
      | _ => False)
    | _, _, _ => False) := by
  unfold sDput
  rw [WS_toS, W_mV]
  congr 1; funext x s1; rw [WS_toS, W_mV]
  congr 1; funext y s2; rw [WS_toS, W_mV]
  congr 1; funext z s3
  generalize frz x = x'
  generalize frz y = y'
  generalize frz z = z'
  cases x' <;> cases y' <;> cases z' <;> try rfl
  rename_i x i k
  dsimp only
  cases s3[i]? with
  | none => rfl
  | some c =>
    cases c with
    | l _ => rfl
    | m kvs =>
      dsimp only
      by_cases hh : okK kvs k = true ∧ kvs.length < sizeLine
      · rw [if_pos hh]; exact propext ⟨fun z => ⟨hh, z⟩, fun z => z.2⟩
      · rw [if_neg hh]; exact propext ⟨fun z => False.elim z, fun z => absurd z.1 hh⟩
@[simp] theorem fDix_d (kvs : List (PyData × PyData)) (k : PyData) : fDix (.dict kvs) k = if okK kvs k = true then (lookD kvs k).map .d else none := rfl
@[simp] theorem gInD_d (neg : Bool) (a : PyData) (kvs : List (PyData × PyData)) : gInD neg a (.dict kvs) = if okK kvs a = true then some (if neg then !(lookD kvs a).isSome else (lookD kvs a).isSome) else none := rfl
end
end Cp
/-! De: d.update(d2), sorted(d) of flat dicts. -/
namespace Cp
open PySem L2
/-! ### d.update(d2), flat keys -/
def mergeD (kvs lvs : List (PyData × PyData)) : List (PyData × PyData) := lvs.foldl (fun acc p => putD acc p.1 p.2) kvs
section
variable {X : Cx} {C : Cn} {o e a : Expr} {mo ma : Ev} {apos cpos pos p : Pos}
def mUpd (mo ma : Ev) : Ev := fun ρ st => (mV mo ρ st).bind fun x s1 => match view s1 x with
  | some (.dict kvs0) => if flK kvs0 = true then (mV ma ρ s1).bind fun y s2 => match x, y with
    | .c i, .d (.dict lvs) => (match s2[i]? with
      | some (.m kvs) => if flK kvs = true ∧ flK lvs = true ∧ isGone (.m kvs) = false ∧ kvs.length + lvs.length ≤ sizeLine then .ok (.d .none) (s2.set i (.m (mergeD kvs lvs))) else .no
      | _ => .no)
    | _, _ => .no else .no
  | _ => .no
variable {E : Er → Sto → Prop} {ρ : En} {st : Sto} {PE' : Rv → Sto → Prop}
@[simp] theorem W_mUpd : WVe E (mUpd mo ma ρ st) PE' = WVe E (mo ρ st) fun x s1 => (match view s1 (frz x) with
    | some (.dict kvs0) => flK kvs0 = true ∧ WVe E (ma ρ s1) fun y s2 => (match frz x, frz y with
      | .c i, .d (.dict lvs) => (match s2[i]? with
        | some (.m kvs) => (flK kvs = true ∧ flK lvs = true ∧ isGone (.m kvs) = false ∧ kvs.length + lvs.length ≤ sizeLine) ∧ PE' (.d .none) (s2.set i (.m (mergeD kvs lvs)))
        | _ => False)
      | _, _ => False)
    | _ => False) := by
  unfold mUpd; rw [WV_bind, W_mV]
  congr 1; funext x s1
  generalize frz x = x'
  cases view s1 x' with
  | none => rfl
  | some d =>
    cases d with
    | dict kvs0 =>
      dsimp only
      by_cases hf0 : flK kvs0 = true
      case neg => rw [if_neg hf0]; exact propext ⟨fun z => False.elim z, fun z => absurd z.1 hf0⟩
      rw [if_pos hf0, and_iff_right hf0, WV_bind, W_mV]
      congr 1; funext y s2
      generalize frz y = y'
      cases x' with
      | c i =>
        cases y' with
        | d d =>
          cases d with
          | dict lvs =>
            dsimp only
            cases s2[i]? with
            | none => rfl
            | some c =>
              cases c with
              | l _ => rfl
              | m kvs =>
                dsimp only
                by_cases hh : flK kvs = true ∧ flK lvs = true ∧ isGone (.m kvs) = false ∧ kvs.length + lvs.length ≤ sizeLine
                · rw [if_pos hh]; exact propext ⟨fun z => ⟨hh, z⟩, fun z => z.2⟩
                · rw [if_neg hh]; exact propext ⟨fun z => False.elim z, fun z => absurd z.1 hh⟩
          | _ => rfl
        | _ => rfl
      | _ => rfl
    | _ => rfl
end
/-! ### sorted(d), its keys texts -/
end Cp
/-! Df: a sign in a text; comprehensions that map and pick. -/
namespace Cp
open PySem L2
def gInS (neg : Bool) (a b : PyData) : Option Bool := match a, b with
  | .str x, .str z => (match x.cps.toList with
    | [c] => some (if neg then !decide (c ∈ z.cps.toList) else decide (c ∈ z.cps.toList))
    | _ => none)
  | _, _ => none
section
variable {X : Cx} {C : Cn} {a b : Expr} {ma mb : Ev} {pos : Pos} {k : Nat}
theorem one_sign {x : Str} {c : Nat} (h : x.cps.toList = [c]) : x = ⟨#[c]⟩ := by
  obtain ⟨⟨l⟩⟩ := x
  simp only at h
  subst h; rfl
theorem gInS_ok : CmpOk C rInS (gInS false) := by
  intro a b k v u μ F H st Q s va vb e q
  unfold gInS at e
  split at e
  · rename_i x z
    split at e
    · rename_i c hc
      cases e
      have ev := va.str
      have eu := vb.str
      subst ev eu
      exact ⟨c, z, by rw [one_sign hc], rfl, q⟩
    · cases e
  · cases e
theorem v_sIn (ha : PE X a (tM C ma)) (hb : PE X b (tM C mb)) (hm : behindInMarks .In b = false) : PE X (.Compare a [.In] [b] pos) (tM C (bV (mCmp (gInS false) ma mb))) := s_cmp op_inS gInS_ok ha hb hm
end
/-! ### comprehensions whose body turns nothing -/
section
variable {E : Er → Sto → Prop} {st : Sto} {ρ : En} {g g1 : Gm} {tt tt1 : En → Sto → Res Bool} {te : Ev} {all : List PyData} {P : List PyData → Sto → Prop}
theorem filter_take_succ {α : Type} {l : List α} {i : Nat} {x : α} (h : l[i]? = some x) (p : α → Bool) : (l.take (i + 1)).filter p = (l.take i).filter p ++ if p x then [x] else [] := by
  rw [List.take_succ, h, List.filter_append]
  simp only [Option.toList_some, List.filter_cons, List.filter_nil]
theorem lc_pick (sel : PyData → Bool) (f : PyData → PyData) {ds : List PyData}
    (hs : ∀ d ∈ ds, WVe noE (g (.d d) ρ st) fun ρ1 s1 => WVe noE (tt ρ1 s1) fun k s2 => k = sel d ∧ (if k = true then WVe noE (te ρ1 s2) fun r s3 => frz r = .d (f d) ∧ s3 = st else s2 = st))
    (hl : ds.length ≤ sizeLine) (h : P ((ds.filter sel).map f) st) : WVe E (lcGo g tt te none all ρ ds st []) P := by
  refine lcGo_by (I := fun i s a => s = st ∧ a = ((ds.take i).filter sel).map f) ds 0 [] ⟨rfl, rfl⟩ (fun _ _ _ _ => trivial) ?_ ?_
  · rintro i d s a hd ⟨rfl, ha⟩
    rw [Nat.zero_add] at ha ⊢
    have hi : i < ds.length := (List.getElem?_eq_some_iff.mp hd).1
    refine WV_mono (hs d (List.mem_of_getElem? hd)) fun ρ1 s1 h1 => WV_mono h1 fun k s2 h2 => ?_
    obtain ⟨rfl, h2⟩ := h2
    rw [filter_take_succ hd]
    cases q : sel d with
    | true =>
      rw [q] at h2
      simp only [if_true] at h2 ⊢
      refine WV_mono h2 fun r s3 h3 => ⟨f d, h3.1, ?_, h3.2, by rw [ha, List.map_append]; rfl⟩
      have h4 : a.length ≤ i := by
        rw [ha, List.length_map]
        exact Nat.le_trans (List.length_filter_le _ _) (by rw [List.length_take]; omega)
      omega
    | false =>
      rw [q] at h2
      simp only [Bool.false_eq_true, if_false] at h2 ⊢
      exact ⟨h2, by rw [ha]; simp⟩
  · rintro s a ⟨rfl, ha⟩
    rw [ha, Nat.zero_add, List.take_length]
    exact h
theorem lc_map (f : PyData → PyData) {ds : List PyData} (hs : ∀ d ∈ ds, WVe noE (g (.d d) ρ st) fun ρ1 s1 => WVe noE (te ρ1 s1) fun r s3 => frz r = .d (f d) ∧ s3 = st) (hl : ds.length ≤ sizeLine) (h : P (ds.map f) st) :
    WVe E (lcGo g ttY te none all ρ ds st []) P := by
  refine lc_pick (fun _ => true) f (fun d hd => WV_mono (hs d hd) fun ρ1 s1 h1 => ?_) hl (by rw [List.filter_eq_self.mpr (fun _ _ => rfl)]; exact h)
  rw [W_ttY]
  exact ⟨rfl, by rw [if_pos rfl]; exact h1⟩
end
end Cp
/-! Cu: the laws' urn: made, drawn from. -/
namespace Cp
open PySem L2
noncomputable def sbU_urn : Sv := (sSeq (sAsg (gNm 2) (mV (mBin fAdd (mBin fMulA (mK (.int 13)) (mN 1)) (mK (.int 5))))) (sSeq (sIf (mCmp (gI fun i j => decide (i < j)) (mN 1) (mCal (gLen) (aCons (mV (mN 0)) aNil))) (sAsg (gNm 2) (mV (mSix (mN 0) (mN 1)))) sNil) (sSeq (sAsg (gNm 3) (mV (mBin fMulA (mBin (fI pPos fun i j => i % j) (mCal (g1 fAbs) (aCons (mV (mN 2)) aNil)) (mBin (fI pPow fun i j => i ^ j.toNat) (mBin (fI pPow fun i j => i ^ j.toNat) (mK (.int 10)) (mK (.int 60))) (mK (.int 5)))) (mCal (g1 fInt) (aCons (mV (bV (mCmp (gI fun i j => decide (j ≤ i)) (mCal (g1 fAbs) (aCons (mV (mN 2)) aNil)) (mBin (fI pPow fun i j => i ^ j.toNat) (mK (.int 10)) (mK (.int 18)))))) aNil))))) (sRet (mLst (aCons (mV (mN 3)) (aCons (mV (mBin (fI pPos fun i j => i % j) (mBin fAdd (mBin fAdd (mBin fMulA (mBin (fI pPos fun i j => i % j) (mN 2) (mK (.int 2305843009213693951))) (mK (.int 69859))) (mBin fMulA (mBin fMulA (mK (.int 5003)) (mN 1)) (mN 1))) (mK (.int 83))) (mK (.int 2305843009213693907)))) (aCons (mV (mK (.int 0))) aNil))))))))
noncomputable def semU_urn : Fs := bodyF 4 2 sbU_urn
noncomputable def sbU_next : Sv := (sSeq (sIf (mCmp (gI fun i j => decide (j < i)) (mBin fIx (mN 0) (mK (.int 0))) (mK (.int 0))) (sSeq (sAsg (gNm 2) (mV (mBin (fI pPos fun i j => i % j) (mBin fIx (mN 0) (mK (.int 0))) (mN 1)))) (sSeq (sAsg (gPl (mN 0) (mK (.int 0))) (mV (mBin (fI pDiv fun i j => i / j) (mBin fIx (mN 0) (mK (.int 0))) (mN 1)))) (sRet (mN 2)))) sNil) (sSeq (sAsg (gPl (mN 0) (mK (.int 2))) (mV (mBin fAdd (mBin fIx (mN 0) (mK (.int 2))) (mK (.int 1))))) (sSeq (sAsg (gNm 3) (mV (mBin (fI pPos fun i j => i % j) (mBin fMulA (mBin fAdd (mBin fAdd (mBin fIx (mN 0) (mK (.int 1))) (mBin fMulA (mBin fMulA (mK (.int 30011)) (mBin fIx (mN 0) (mK (.int 2)))) (mBin fIx (mN 0) (mK (.int 2))))) (mK (.int 19))) (mK (.int 69877))) (mK (.int 2305843009213693921))))) (sSeq (sAsg (gNm 3) (mV (mBin (fI pPos fun i j => i % j) (mBin fMulA (mN 3) (mBin fAdd (mBin fAdd (mBin (fI pPos fun i j => i % j) (mN 3) (mK (.int 1000039))) (mBin fMulA (mK (.int 60013)) (mBin fIx (mN 0) (mK (.int 2))))) (mK (.int 5)))) (mK (.int 2305843009213693951))))) (sRet (mBin (fI pPos fun i j => i % j) (mBin fAdd (mBin (fI pDiv fun i j => i / j) (mN 3) (mK (.int 103))) (mBin (fI pDiv fun i j => i / j) (mN 3) (mK (.int 999979)))) (mN 1)))))))
noncomputable def semU_next : Fs := bodyF 4 2 sbU_next
noncomputable def sbU_of : Sv := (sRet (mBin fIx (mN 1) (mCall semU_next (aCons (mVc (mN 0)) (aCons (mV (mCal (gLen) (aCons (mV (mN 1)) aNil))) aNil)))))
noncomputable def semU_of : Fs := bodyF 2 2 sbU_of
/-- an urn: what is left of the script's own digits, the seed, the turns -/
def urn (a b c : Int) : Cl := .l [.int a, .int b, .int c]
/-- an urn that has been drawn from at most n times -/
def Urn (n : Int) (u : Cl) : Prop := ∃ a b c : Int, u = urn a b c ∧ 0 ≤ a ∧ 0 ≤ b ∧ b < 2 ^ 61 ∧ 0 ≤ c ∧ c ≤ n
theorem Urn.mono {n m : Int} {u : Cl} (h : Urn n u) (k : n ≤ m) : Urn m u := by
  obtain ⟨a, b, c, h1, h2, h3, h4, h5, h6⟩ := h
  exact ⟨a, b, c, h1, h2, h3, h4, h5, Int.le_trans h6 k⟩
section
variable {st : Sto} {P : Rv → Sto → Prop}
theorem own_small (x : Int) (hx : 0 ≤ x) : (x % ((10 ^ 60) ^ 5 : Int)).natAbs < 2 ^ 1000 := by
  have h1 := Int.emod_lt_of_pos x (show (0 : Int) < (10 ^ 60) ^ 5 by decide)
  have h2 := Int.emod_nonneg x (show ((10 ^ 60) ^ 5 : Int) ≠ 0 by decide)
  have h3 : ((10 ^ 60) ^ 5 : Int) < ((2 ^ 1000 : Nat) : Int) := by decide +kernel
  have h4 : ((x % ((10 ^ 60) ^ 5 : Int)).natAbs : Int) < ((2 ^ 1000 : Nat) : Int) := by rw [Int.natAbs_of_nonneg h2]; exact Int.lt_trans h1 h3
  exact Int.ofNat_lt.mp h4
theorem w_urn_fin {cell k : Int} (hk : 0 ≤ k) (hk2 : k ≤ 63) (h : ∀ u, Urn 0 u → P (.n u) st) : pPow 10 60 = true ∧ pPow 1000000000000000000000000000000000000000000000000000000000000 5 = true ∧
    pPos (if cell < 0 then -cell else cell) 1000000000000000000000000000000000000000000000000000000000000000000000000000000000000000000000000000000000000000000000000000000000000000000000000000000000000000000000000000000000000000000000000000000000000000000000000000000000000000000000000000000000000000000000000000000000000000000000000000000000000 = true ∧ pPow 10 18 = true ∧
    pMul ((if cell < 0 then -cell else cell) % 1000000000000000000000000000000000000000000000000000000000000000000000000000000000000000000000000000000000000000000000000000000000000000000000000000000000000000000000000000000000000000000000000000000000000000000000000000000000000000000000000000000000000000000000000000000000000000000000000000000000000)
      (if 1000000000000000000 ≤ if cell < 0 then -cell else cell then 1 else 0) = true ∧ pPos cell 2305843009213693951 = true ∧ pMul (cell % 2305843009213693951) 69859 = true ∧ pMul 5003 k = true ∧ pMul (5003 * k) k = true ∧
    pPos (cell % 2305843009213693951 * 69859 + 5003 * k * k + 83) 2305843009213693907 = true ∧ 3 ≤ sizeLine ∧
    P (Rv.n (Cl.l [PyData.int ((if cell < 0 then -cell else cell) % 1000000000000000000000000000000000000000000000000000000000000000000000000000000000000000000000000000000000000000000000000000000000000000000000000000000000000000000000000000000000000000000000000000000000000000000000000000000000000000000000000000000000000000000000000000000000000000000000000000000000000 *
        if 1000000000000000000 ≤ if cell < 0 then -cell else cell then 1 else 0),
      PyData.int ((cell % 2305843009213693951 * 69859 + 5003 * k * k + 83) % 2305843009213693907), PyData.int 0])) st := by
  have hx : (0 : Int) ≤ if cell < 0 then -cell else cell := by split <;> omega
  have ho := own_small _ hx
  have e1 : ((10 ^ 60) ^ 5 : Int) = 1000000000000000000000000000000000000000000000000000000000000000000000000000000000000000000000000000000000000000000000000000000000000000000000000000000000000000000000000000000000000000000000000000000000000000000000000000000000000000000000000000000000000000000000000000000000000000000000000000000000000 := by decide +kernel
  rw [e1] at ho
  have hn := Int.emod_nonneg (if cell < 0 then -cell else cell) (show (1000000000000000000000000000000000000000000000000000000000000000000000000000000000000000000000000000000000000000000000000000000000000000000000000000000000000000000000000000000000000000000000000000000000000000000000000000000000000000000000000000000000000000000000000000000000000000000000000000000000000 : Int) ≠ 0 by decide)
  generalize (if cell < 0 then -cell else cell) % 1000000000000000000000000000000000000000000000000000000000000000000000000000000000000000000000000000000000000000000000000000000000000000000000000000000000000000000000000000000000000000000000000000000000000000000000000000000000000000000000000000000000000000000000000000000000000000000000000000000000000 = own at ho hn ⊢
  have hm : (if 1000000000000000000 ≤ if cell < 0 then -cell else cell then (1 : Int) else 0) = 0 ∨ (if 1000000000000000000 ≤ if cell < 0 then -cell else cell then (1 : Int) else 0) = 1 := by
    by_cases hh : 1000000000000000000 ≤ if cell < 0 then -cell else cell
    · exact .inr (if_pos hh)
    · exact .inl (if_neg hh)
  generalize (if 1000000000000000000 ≤ if cell < 0 then -cell else cell then (1 : Int) else 0) = bit at hm ⊢
  have c1 := Int.emod_lt_of_pos cell (show (0 : Int) < 2305843009213693951 by decide)
  have c2 := Int.emod_nonneg cell (show (2305843009213693951 : Int) ≠ 0 by decide)
  have d1 := Int.emod_lt_of_pos (cell % 2305843009213693951 * 69859 + 5003 * k * k + 83) (show (0 : Int) < 2305843009213693907 by decide)
  have d2 := Int.emod_nonneg (cell % 2305843009213693951 * 69859 + 5003 * k * k + 83) (show (2305843009213693907 : Int) ≠ 0 by decide)
  refine ⟨by decide +kernel, by decide +kernel, rfl, by decide +kernel, pMul_of (a := 1000) (b := 1) ho (by omega) (by decide), rfl, pMul_of (a := 70) (b := 20) (by omega) (by decide) (by decide), pMul_of (a := 20) (b := 20) (by decide) (by omega) (by decide), pMul_of (a := 40) (b := 20) (by omega) (by omega) (by decide), rfl, by decide, h _ ⟨_, _, 0, rfl, ?_, d2, ?_, Int.le_refl _, Int.le_refl _⟩⟩
  · rcases hm with e | e <;> rw [e] <;> omega
  · exact Int.lt_trans d1 (by decide)
theorem w_urn {ns : List Int} {k : Int} (hk : 0 ≤ k) (hk2 : k ≤ 63) (h : ∀ u, Urn 0 u → P (.n u) st) : WVe noE (semU_urn [.s ns, .d (.int k)] st) P := by
  obtain ⟨j, rfl⟩ : ∃ j : Nat, k = (j : Nat) := ⟨k.toNat, by omega⟩
  unfold semU_urn sbU_urn
  rw [W_body]
  simp
  refine ⟨pMul_of (a := 10) (b := 10) (by omega) (by omega) (by decide), ?_⟩
  split
  · rename_i hl
    have hj : j < ns.length := by omega
    rw [atI_at rfl hj, List.getElem?_eq_getElem hj, WO_some]
    generalize ns[j] = cell
    exact w_urn_fin hk hk2 h
  · exact w_urn_fin hk hk2 h
@[simp] theorem atI_one {α : Type} (x y : α) (xs : List α) : atI (x :: y :: xs) 1 = some y := by
  have := atI_at (xs := x :: y :: xs) (i := 1) (k := 1) rfl (by simp)
  exact this
@[simp] theorem atI_two {α : Type} (x y z : α) (xs : List α) : atI (x :: y :: z :: xs) 2 = some z := by
  have := atI_at (xs := x :: y :: z :: xs) (i := 2) (k := 2) rfl (by simp)
  exact this
@[simp] theorem ixN30 : ixN 3 0 = some 0 := rfl
@[simp] theorem ixN31 : ixN 3 1 = some 1 := rfl
@[simp] theorem ixN32 : ixN 3 2 = some 2 := rfl
theorem WO_atI {xs : List PyData} {i : Int} {P : PyData → Prop} (h0 : 0 ≤ i) (h1 : i < xs.length) (h : ∀ (k : Nat) (d : PyData), i = (k : Nat) → xs[k]? = some d → P d) : WO (atI xs i) P := by
  obtain ⟨k, rfl⟩ : ∃ k : Nat, i = (k : Nat) := ⟨i.toNat, by omega⟩
  have hk : k < xs.length := by omega
  rw [atI_at rfl hk, List.getElem?_eq_getElem hk]
  exact h k _ rfl (List.getElem?_eq_getElem hk)
theorem w_next {i : Nat} {n : Int} {u : Cl} {m : Int} (hu : st[i]? = some u) (hU : Urn m u) (hm : m < 2 ^ 200) (hn : 0 < n) (hn2 : n < 2 ^ 200) (h : ∀ (r : Int) (u' : Cl), 0 ≤ r → r < n → Urn (m + 1) u' → P (.d (.int r)) (st.set i u')) : WVe noE (semU_next [.c i, .d (.int n)] st) P := by
  obtain ⟨a, b, c, rfl, h1, h2, h3, h4, h5⟩ := hU
  unfold semU_next sbU_next
  rw [W_body]
  have hi : i < st.length := (List.getElem?_eq_some_iff.mp hu).1
  have hset : ∀ c, (st.set i c)[i]? = some c := fun c => List.getElem?_set_self hi
  have hm2 : c + 1 < 2 ^ 201 := by omega
  have hsq : 0 ≤ (c + 1) * (c + 1) ∧ (c + 1) * (c + 1) < 2 ^ 402 := by
    have h7 : (0 : Int) ≤ c + 1 := by omega
    refine ⟨Int.mul_nonneg h7 h7, ?_⟩
    have h6 : (c + 1) * (c + 1) ≤ (c + 1) * 2 ^ 201 := Int.mul_le_mul_of_nonneg_left (Int.le_of_lt hm2) h7
    have h8 : (c + 1) * 2 ^ 201 < 2 ^ 201 * 2 ^ 201 := Int.mul_lt_mul_of_pos_right hm2 (by decide)
    have h9 : (2 ^ 201 * 2 ^ 201 : Int) = 2 ^ 402 := by decide +kernel
    omega
  simp [hu, urn, hset]
  split
  · rename_i ha
    have e := Int.emod_lt_of_pos a hn
    have e2 := Int.emod_nonneg a (show n ≠ 0 by omega)
    have e3 : 0 ≤ a / n := Int.ediv_nonneg h1 (Int.le_of_lt hn)
    refine ⟨decide_eq_true hn, ?_, h _ _ e2 e ⟨a / n, b, c, rfl, e3, h2, h3, h4, by omega⟩⟩
    unfold pDiv
    have : n.natAbs < 2 ^ 200 := by omega
    have h6 : n.natAbs ≠ 0 := by omega
    have := (Nat.log2_lt h6).mpr this
    rw [decide_eq_true hn, decide_eq_true (show n.natAbs.log2 < 9000 by omega)]; rfl
  · rename_i ha
    have e0 : a = 0 := by omega
    subst e0
    have q1 : (30011 * (c + 1) * (c + 1) : Int) = 30011 * ((c + 1) * (c + 1)) := Int.mul_assoc ..
    rw [q1]
    generalize (c + 1) * (c + 1) = sq at hsq ⊢
    have k1 := Int.emod_lt_of_pos ((b + 30011 * sq + 19) * 69877) (show (0 : Int) < 2305843009213693921 by decide)
    have k2 := Int.emod_nonneg ((b + 30011 * sq + 19) * 69877) (show (2305843009213693921 : Int) ≠ 0 by decide)
    have k3 : (b + 30011 * sq + 19).natAbs < 2 ^ 420 := by omega
    generalize (b + 30011 * sq + 19) * 69877 % 2305843009213693921 = blend at k1 k2 ⊢
    have k4 := Int.emod_lt_of_pos blend (show (0 : Int) < 1000039 by decide)
    have k5 := Int.emod_nonneg blend (show (1000039 : Int) ≠ 0 by decide)
    have k6 : (blend % 1000039 + 60013 * (c + 1) + 5).natAbs < 2 ^ 220 := by omega
    generalize blend * (blend % 1000039 + 60013 * (c + 1) + 5) % 2305843009213693951 / 103 + blend * (blend % 1000039 + 60013 * (c + 1) + 5) % 2305843009213693951 / 999979 = last
    exact ⟨pMul_of (a := 20) (b := 201) (by decide) (by omega) (by decide), pMul_of (a := 220) (b := 201) (by omega) (by omega) (by decide), pMul_of (a := 420) (b := 20) k3 (by decide) (by decide), rfl, rfl,
      pMul_of (a := 20) (b := 201) (by decide) (by omega) (by decide), pMul_of (a := 62) (b := 220) (by omega) k6 (by decide), rfl, rfl, rfl, decide_eq_true hn,
      h _ _ (Int.emod_nonneg last (by omega)) (Int.emod_lt_of_pos last hn) ⟨0, b, c + 1, rfl, Int.le_refl _, h2, h3, by omega, by omega⟩⟩
@[simp] theorem take_set {α : Type} (s : List α) (i : Nat) (u : α) : (s.set i u).take s.length = s.set i u := List.take_of_length_le (by simp)
@[simp] theorem take_set1 {α : Type} (s : List α) (i : Nat) (u v : α) (hi : i < s.length) : ((s ++ [v]).set i u).take s.length = s.set i u := by rw [List.set_append_left _ _ hi]; exact List.take_left' (by simp)
@[simp] theorem take_app {α : Type} (s t : List α) : (s ++ t).take s.length = s := List.take_left' rfl
@[simp] theorem gr1 {α : Type} {s : List α} {i : Nat} {u c : α} : (s.set i u ++ [c])[s.length]? = some c := by
  rw [List.getElem?_append_right (by simp)]; simp
@[simp] theorem sr1 {α : Type} {s : List α} {i : Nat} {u c d : α} : (s.set i u ++ [c]).set s.length d = s.set i u ++ [d] := by
  rw [List.set_append_right _ _ (by simp)]; simp
@[simp] theorem tk1 {α : Type} {s : List α} {i : Nat} {u c : α} : (s.set i u ++ [c]).take s.length = s.set i u := List.take_left' (by simp)
@[simp] theorem tk2 {α : Type} {s : List α} {i : Nat} {u c : α} : (s.set i u ++ [c]).take (s.length + 1) = s.set i u ++ [c] := List.take_of_length_le (by simp)
theorem rOk_of2 {i j : Int} (h1 : -1000000000000 ≤ i) (h2 : i ≤ 1000000000000) (h3 : -1000000000000 ≤ j) (h4 : j ≤ 1000000000000) : rOk i j = true := by
  unfold rOk
  rw [decide_eq_true (by omega), decide_eq_true (by omega), decide_eq_true (by omega), decide_eq_true (by omega)]; rfl
@[simp] theorem gr0 {α : Type} {s : List α} {c : α} : (s ++ [c])[s.length]? = some c := by simp
theorem rngD_get {lo hi : Int} {i : Nat} {d : PyData} (h : (rngD lo hi)[i]? = some d) : d = .int (lo + i) ∧ (i : Int) < hi - lo := by
  unfold rngD at h
  rw [List.getElem?_map] at h
  obtain ⟨k, h1, rfl⟩ := Option.map_eq_some_iff.mp h
  obtain ⟨h2, h3⟩ := List.getElem?_eq_some_iff.mp h1
  rw [List.getElem_range] at h3
  rw [List.length_range] at h2
  subst h3
  exact ⟨rfl, by omega⟩
/-- one of several -/
theorem w_of {i : Nat} {xs : List PyData} {u : Cl} {m : Int} (hu : st[i]? = some u) (hU : Urn m u) (hm : m < 2 ^ 200) (hx : xs ≠ []) (hx2 : xs.length ≤ sizeLine) (h : ∀ (x : PyData) (u' : Cl), x ∈ xs → Urn (m + 1) u' → P (.d x) (st.set i u')) :
    WVe noE (semU_of [.c i, .d (.list xs)] st) P := by
  unfold semU_of sbU_of
  rw [W_body]
  have hl : 0 < xs.length := List.length_pos_iff.mpr hx
  have hs : sizeLine = 16777216 := rfl
  simp
  refine w_next hu hU hm (by omega) (by omega) fun r u' h0 h1 hU' => ?_
  simp
  exact WO_atI h0 h1 fun k d _ hd => h d u' (List.mem_of_getElem? hd) hU'
end
end Cp
/-! Cw: texts: their lengths, what is shown of data. -/
namespace Cp
open PySem L2
/-- a text of at most n signs -/
def Txs (n : Nat) (x : Str) : Prop := x.length ≤ n ∧ ∀ c ∈ x.cps.toList, c < 0x110000
theorem Txs.mono {n m : Nat} {x : Str} (h : Txs n x) (k : n ≤ m) : Txs m x := ⟨Nat.le_trans h.1 k, h.2⟩
theorem Txs.ofString {n : Nat} (s : String) (h : s.length ≤ n) : Txs n (Str.ofString s) := by
  rw [Str.ofString_eq_toList]
  refine ⟨?_, fun c hc => ?_⟩
  · show (s.toList.map Char.toNat).toArray.size ≤ n
    rw [List.size_toArray, List.length_map, String.length_toList]; exact h
  · have hc' : c ∈ s.toList.map Char.toNat := by simpa using hc
    obtain ⟨ch, _, rfl⟩ := List.mem_map.mp hc'
    have h := ch.valid
    have e : ch.toNat = ch.val.toNat := rfl
    simp only [UInt32.isValidChar, Nat.isValidChar] at h
    have : ch.val.toNat < 1114112 := by omega
    rw [e]
    exact this
theorem Txs.int {k : Nat} {i : Int} (hk : 0 < k) (h : i.natAbs < 10 ^ k) : Txs (k + 1) (txI i) := Txs.ofString _ (int_text_length_le10 hk h)
theorem Txs.int2 {k : Nat} {i : Int} (hk : 0 < k) (h : i.natAbs.log2 < k) : Txs (k + 1) (Str.ofString (toString i)) := Txs.ofString _ (int_text_length_le hk h)
theorem log_small {i : Int} {k : Nat} (h : i.natAbs < 2 ^ k) (hk : k < 1920) : i.natAbs.log2 < 1920 := by
  by_cases hn : i.natAbs = 0
  · rw [hn]; decide
  · exact Nat.lt_trans ((Nat.log2_lt hn).mpr h) hk
/-! ### what is shown -/
mutual
def siz : PyData → Nat
  | .none | .bool _ => 5
  | .int i => i.natAbs.log2 + 2
  | .str x => 10 * x.length + 2
  | .list xs | .tuple xs => sizAll xs + 3
  | .dict kvs => sizKv kvs + 3
def sizAll : List PyData → Nat
  | [] => 0
  | x :: xs => siz x + 2 + sizAll xs
def sizKv : List (PyData × PyData) → Nat
  | [] => 0
  | (k, v) :: r => siz k + siz v + 4 + sizKv r
end
mutual
def okS : PyData → Prop
  | .none | .bool _ => True
  | .int i => i.natAbs.log2 < 1920
  | .str x => ∀ c ∈ x.cps.toList, c < 0x110000
  | .list xs | .tuple xs => okSs xs
  | .dict _ => False
def okSs : List PyData → Prop
  | [] => True
  | x :: xs => okS x ∧ okSs xs
end
theorem join_len (ts : List Str) : (Str.join ", " ts).length ≤ (ts.map fun t => t.length + 2).sum := by
  induction ts with
  | nil => exact Nat.zero_le _
  | cons t r ih =>
    cases r with
    | nil => show t.length ≤ _; simp
    | cons u r =>
      show (t ++ ", " ++ Str.join ", " (u :: r)).length ≤ _
      rw [strLen_append, strLen_append, List.map_cons, List.sum_cons]
      have e2 : ((", " : String) : Str).length = 2 := rfl
      omega
theorem text_len (ts : List Str) : (PySem.listText ts).length ≤ (ts.map fun t => t.length + 2).sum + 2 := by
  have h : ∀ (ts : List Str) (k : Nat) (acc : Str), (PySem.textFrom k acc ts).length ≤ acc.length + (ts.map fun t => t.length + 2).sum := by
    intro ts
    induction ts with
    | nil => intro k acc; exact Nat.le_add_right _ _
    | cons t r ih =>
      intro k acc
      show (PySem.textFrom (k + 1) (acc ++ (if k > 0 then ", " else "" : String) ++ t) r).length ≤ _
      refine Nat.le_trans (ih _ _) ?_
      rw [strLen_append, strLen_append, List.map_cons, List.sum_cons]
      have e : ((if k > 0 then ", " else "" : String) : Str).length ≤ 2 := by split <;> decide
      omega
  show (PySem.textFrom 0 "[" ts ++ "]").length ≤ _
  rw [strLen_append]
  have := h ts 0 "["
  have e1 : (("[" : String) : Str).length = 1 := rfl
  have e2 : (("]" : String) : Str).length = 1 := rfl
  omega
mutual
theorem shown_ok : ∀ {d : PyData}, okS d → d.showable = true ∧ d.hasDict = false ∧ d.shown.length ≤ siz d
  | .none, _ => ⟨rfl, rfl, by decide⟩
  | .bool b, _ => ⟨rfl, rfl, by cases b <;> decide⟩
  | .int i, h => ⟨decide_eq_true h, rfl, (Txs.int2 (i := i) (k := i.natAbs.log2 + 1) (Nat.succ_pos _) (Nat.lt_succ_self _)).1⟩
  | .str x, h => ⟨rfl, rfl, PySem.StrLaws.reprText_len x fun c hc => Nat.lt_trans (h c hc) (by decide)⟩
  | .list xs, h => by
    obtain ⟨h1, h2, h3⟩ := shown_oks h
    refine ⟨h1, h2, ?_⟩
    show (PySem.listText (PyData.shownAll xs)).length ≤ sizAll xs + 3
    have := text_len (PyData.shownAll xs)
    omega
  | .tuple xs, h => by
    obtain ⟨h1, h2, h3⟩ := shown_oks h
    refine ⟨h1, h2, ?_⟩
    show (("(" : Str) ++ Str.join ", " (PyData.shownAll xs) ++ (if (PyData.shownAll xs).length == 1 then ",)" else ")" : String)).length ≤ sizAll xs + 3
    rw [strLen_append, strLen_append]
    have := join_len (PyData.shownAll xs)
    have e1 : (("(" : String) : Str).length = 1 := rfl
    have e : ((if (PyData.shownAll xs).length == 1 then ",)" else ")" : String) : Str).length ≤ 2 := by split <;> decide
    omega
  | .dict _, h => False.elim h
theorem shown_oks : ∀ {ds : List PyData}, okSs ds → PyData.showableAll ds = true ∧ PyData.hasDictAll ds = false ∧ ((PyData.shownAll ds).map fun t => t.length + 2).sum ≤ sizAll ds
  | [], _ => ⟨rfl, rfl, Nat.le_refl _⟩
  | d :: ds, h => by
    obtain ⟨h1, h2, h3⟩ := shown_ok h.1
    obtain ⟨k1, k2, k3⟩ := shown_oks h.2
    refine ⟨?_, ?_, ?_⟩
    · show (d.showable && PyData.showableAll ds) = true; rw [h1, k1]; rfl
    · show (d.hasDict || PyData.hasDictAll ds) = false; rw [h2, k2]; rfl
    · show ((d.shown :: PyData.shownAll ds).map _).sum ≤ _
      rw [List.map_cons, List.sum_cons]
      show _ ≤ siz d + 2 + sizAll ds
      omega
end
theorem fRepr_at {d : PyData} (h : okS d) (hs : siz d ≤ sizeLine) (hd : d.depth ≤ 60) : fRepr d = some (.d (.str d.shown)) := by
  obtain ⟨h1, h2, h3⟩ := shown_ok h
  have : shw d = true := by
    unfold shw
    rw [h1, h2, decide_eq_true (Nat.le_trans h3 hs), decide_eq_true hd]; rfl
  unfold fRepr
  rw [if_pos this]
theorem sizAll_le {B : Nat} : ∀ {ds : List PyData}, (∀ d ∈ ds, siz d ≤ B) → sizAll ds ≤ ds.length * (B + 2)
  | [], _ => Nat.zero_le _
  | d :: ds, h => by
    have h1 := h d (List.mem_cons_self ..)
    have h2 := sizAll_le (ds := ds) fun e he => h e (List.mem_cons_of_mem _ he)
    show siz d + 2 + sizAll ds ≤ (ds.length + 1) * (B + 2)
    rw [Nat.add_mul]
    omega
theorem okSs_of : ∀ {ds : List PyData}, (∀ d ∈ ds, okS d) → okSs ds
  | [], _ => trivial
  | d :: ds, h => ⟨h d (List.mem_cons_self ..), okSs_of fun e he => h e (List.mem_cons_of_mem _ he)⟩
theorem depthAll_le {B : Nat} : ∀ {ds : List PyData}, (∀ d ∈ ds, d.depth ≤ B) → PyData.depthAll ds ≤ B
  | [], _ => Nat.zero_le _
  | d :: ds, h => Nat.max_le.mpr ⟨h d (List.mem_cons_self ..), depthAll_le fun e he => h e (List.mem_cons_of_mem _ he)⟩
/-! ### signs -/
theorem chr_lt (ch : Char) : ch.toNat < 0x110000 := by
  have h := ch.valid
  have e : ch.toNat = ch.val.toNat := rfl
  simp only [UInt32.isValidChar, Nat.isValidChar] at h
  rw [e]; omega
abbrev Sgn (x : Str) : Prop := ∀ c ∈ x.cps.toList, c < 0x110000
theorem Sgn.add {x y : Str} (h : Sgn x) (k : Sgn y) : Sgn (x ++ y) := fun c hc => by
  have e : (x ++ y).cps.toList = x.cps.toList ++ y.cps.toList := by
    show (x.cps ++ y.cps).toList = _
    rw [Array.toList_append]
  rw [e, List.mem_append] at hc
  exact hc.elim (h c) (k c)
theorem Sgn.lit (s : String) : Sgn (Str.ofString s) := (Txs.ofString (n := s.length) s (Nat.le_refl _)).2
theorem reprChar_lt {q c : Nat} (hc : c < 0x110000) : ∀ d ∈ Builtin.Str.reprChar q c, d < 0x110000 := by
  have hx : ∀ w d, d ∈ List.replicate (w - ((Nat.toDigits 16 c).map Char.toNat).length) 48 ++ (Nat.toDigits 16 c).map Char.toNat → d < 0x110000 := fun w d hd => by
    rcases List.mem_append.mp hd with h | h
    · rw [(List.mem_replicate.mp h).2]; decide
    · obtain ⟨ch, _, rfl⟩ := List.mem_map.mp h; exact chr_lt ch
  intro d hd
  unfold Builtin.Str.reprChar at hd
  simp only [] at hd
  split at hd
  · rcases List.mem_cons.mp hd with rfl | h
    · decide
    · rw [List.mem_singleton.mp h]; exact hc
  split at hd
  · rcases List.mem_cons.mp hd with rfl | h
    · decide
    · rw [List.mem_singleton.mp h]; decide
  split at hd
  · rcases List.mem_cons.mp hd with rfl | h
    · decide
    · rw [List.mem_singleton.mp h]; decide
  split at hd
  · rcases List.mem_cons.mp hd with rfl | h
    · decide
    · rw [List.mem_singleton.mp h]; decide
  split at hd
  · rw [List.mem_singleton.mp hd]; exact hc
  have two : ∀ w b, d ∈ [92, b] ++ (List.replicate (w - ((Nat.toDigits 16 c).map Char.toNat).length) 48 ++ (Nat.toDigits 16 c).map Char.toNat) → b < 0x110000 → d < 0x110000 := fun w b h hb => by
    rcases List.mem_append.mp h with h | h
    · rcases List.mem_cons.mp h with rfl | h
      · decide
      · rw [List.mem_singleton.mp h]; exact hb
    · exact hx w d h
  split at hd
  · exact two 2 120 hd (by decide)
  split at hd
  · exact two 4 117 hd (by decide)
  · exact two 8 85 hd (by decide)
theorem repr_sgn {x : Str} (h : Sgn x) : Sgn (reprText x) := by
  have hq : reprQuote x < 0x110000 := by
    unfold reprQuote
    split <;> decide
  have key : ∀ (l : List Nat) (acc : Array Nat), (∀ c ∈ l, c < 0x110000) → (∀ c ∈ acc.toList, c < 0x110000) → ∀ c ∈ (l.foldl (fun out c => out ++ (Builtin.Str.reprChar (reprQuote x) c).toArray) acc).toList, c < 0x110000 := by
    intro l
    induction l with
    | nil => intro acc _ h2; exact h2
    | cons a r ih =>
      intro acc h1 h2
      refine ih _ (fun c hc => h1 c (List.mem_cons_of_mem _ hc)) fun c hc => ?_
      rw [Array.toList_append, List.mem_append] at hc
      rcases hc with hc | hc
      · exact h2 c hc
      · exact reprChar_lt (h1 a (List.mem_cons_self ..)) c (by simpa using hc)
  intro c hc
  have e : (reprText x).cps.toList = (x.cps.toList.foldl (fun out c => out ++ (Builtin.Str.reprChar (reprQuote x) c).toArray) #[reprQuote x]).toList ++ [reprQuote x] := by
    unfold reprText
    rw [Array.toList_push, ← Array.foldl_toList]
  rw [e, List.mem_append] at hc
  rcases hc with hc | hc
  · refine key _ _ h (fun d hd => ?_) c hc
    have : d = reprQuote x := by simpa using hd
    rw [this]; exact hq
  · rw [List.mem_singleton.mp hc]; exact hq
theorem join_sgn {sep : Str} (hs : Sgn sep) : ∀ {ts : List Str}, (∀ t ∈ ts, Sgn t) → Sgn (Str.join sep ts)
  | [], _ => fun c hc => by simp [Str.join, Str.empty] at hc
  | [t], h => h t (List.mem_cons_self ..)
  | t :: u :: r, h => Sgn.add (Sgn.add (h t (List.mem_cons_self ..)) hs) (join_sgn hs fun z hz => h z (List.mem_cons_of_mem _ hz))
theorem text_sgn {ts : List Str} (h : ∀ t ∈ ts, Sgn t) : Sgn (PySem.listText ts) := by
  have key : ∀ (ts : List Str) (k : Nat) (acc : Str), Sgn acc → (∀ t ∈ ts, Sgn t) → Sgn (PySem.textFrom k acc ts) := by
    intro ts
    induction ts with
    | nil => intro k acc h _; exact h
    | cons t r ih =>
      intro k acc h1 h2
      refine ih (k + 1) _ (Sgn.add (Sgn.add h1 (Sgn.lit _)) (h2 t (List.mem_cons_self ..))) fun z hz => h2 z (List.mem_cons_of_mem _ hz)
  exact Sgn.add (key ts 0 _ (Sgn.lit _) h) (Sgn.lit _)
mutual
theorem shown_sgn : ∀ {d : PyData}, okS d → Sgn d.shown
  | .none, _ => Sgn.lit _
  | .bool b, _ => by cases b <;> exact Sgn.lit _
  | .int i, h => Sgn.lit _
  | .str x, h => repr_sgn h
  | .list xs, h => text_sgn (shown_sgns h)
  | .tuple xs, h => Sgn.add (Sgn.add (Sgn.lit _) (join_sgn (Sgn.lit _) (shown_sgns h))) (Sgn.lit _)
  | .dict _, h => False.elim h
theorem shown_sgns : ∀ {ds : List PyData}, okSs ds → ∀ t ∈ PyData.shownAll ds, Sgn t
  | [], _ => fun t ht => nomatch ht
  | d :: ds, h => fun t ht => by
    rcases List.mem_cons.mp ht with rfl | ht
    · exact shown_sgn h.1
    · exact shown_sgns h.2 t ht
end
/-! ### alike or not -/
mutual
theorem canLay_ok : ∀ {d : PyData}, okS d → d.canLay0 = true
  | .none, _ => rfl
  | .bool b, _ => rfl
  | .int i, h => rfl
  | .str x, h => by
    show x.cps.all (· < 0x110000) = true
    rw [Array.all_eq_true']
    intro c hc
    exact decide_eq_true (h c (by simpa using hc))
  | .list xs, h => canLay_oks h
  | .tuple xs, h => canLay_oks h
  | .dict _, h => False.elim h
theorem canLay_oks : ∀ {ds : List PyData}, okSs ds → PyData.canLayAll0 ds = true
  | [], _ => rfl
  | d :: ds, h => by
    show (d.canLay0 && PyData.canLayAll0 ds) = true
    rw [canLay_ok h.1, canLay_oks h.2]; rfl
end
theorem shaped_ok {d : PyData} (h : okS d) (hd : d.depth ≤ 64) : SeqAt.shaped d = true := by
  unfold SeqAt.shaped
  rw [canLay_ok h, decide_eq_true hd]; rfl
theorem gNe_at {a b : PyData} (ha : okS a) (hb : okS b) (hda : a.depth ≤ 64) (hdb : b.depth ≤ 64) : gNe a b = some (!PyData.eqv a b) := by
  unfold gNe
  rw [shaped_ok ha hda, shaped_ok hb hdb]; rfl
theorem gEq_at {a b : PyData} (ha : okS a) (hb : okS b) (hda : a.depth ≤ 64) (hdb : b.depth ≤ 64) : gEq a b = some (PyData.eqv a b) := by
  unfold gEq
  rw [shaped_ok ha hda, shaped_ok hb hdb]; rfl
mutual
theorem eqv_refl : ∀ {d : PyData}, d.canLay0 = true → PyData.eqv d d = true
  | .none, _ => rfl
  | .bool b, _ => by cases b <;> rfl
  | .int i, _ => by show (i == i) = true; simp
  | .str x, _ => by show (x == x) = true; simp
  | .list xs, h => eqv_refls h
  | .tuple xs, h => eqv_refls h
  | .dict _, h => by cases h
theorem eqv_refls : ∀ {ds : List PyData}, PyData.canLayAll0 ds = true → PyData.eqvAll ds ds = true
  | [], _ => rfl
  | d :: ds, h => by
    have h' : (d.canLay0 && PyData.canLayAll0 ds) = true := h
    rw [Bool.and_eq_true] at h'
    show (PyData.eqv d d && PyData.eqvAll ds ds) = true
    rw [eqv_refl h'.1, eqv_refls h'.2]; rfl
end
theorem gNe_same {d : PyData} (h : SeqAt.shaped d = true) : gNe d d = some false := by
  unfold gNe
  rw [h]
  show some (!PyData.eqv d d) = _
  rw [eqv_refl (SeqAt.canLay_of_shaped h)]; rfl
theorem eqv_str (x y : Str) : PyData.eqv (.str x) (.str y) = decide (x = y) := by
  show (x == y) = _
  by_cases h : x = y <;> simp [h]
theorem gNe_str {x y : Str} (hx : Sgn x) (hy : Sgn y) : gNe (.str x) (.str y) = some (!decide (x = y)) := by
  rw [gNe_at (a := .str x) (b := .str y) hx hy (Nat.zero_le _) (Nat.zero_le _), eqv_str]
theorem gEq_str {x y : Str} (hx : Sgn x) (hy : Sgn y) : gEq (.str x) (.str y) = some (decide (x = y)) := by
  rw [gEq_at (a := .str x) (b := .str y) hx hy (Nat.zero_le _) (Nat.zero_le _), eqv_str]
@[simp] theorem gEq_int (x y : Int) : gEq (.int x) (.int y) = some (decide (x = y)) := by
  unfold gEq
  rw [if_pos (by rfl)]
  have : PyData.eqv (.int x) (.int y) = decide (x = y) := by
    show (x == y) = _
    by_cases h : x = y <;> simp [h]
  rw [this]
end Cp
/-! Pg: policies as a Lean type, the laws' drawn policies. -/
namespace Cp
open PySem L2
noncomputable def sbP_span : Sv := (sSeq (sAsg (gNm 2) (mV (mCall semU_next (aCons (mVc (mN 0)) (aCons (mV (mBin fAdd (mN 1) (mK (.int 1)))) aNil))))) (sRet (mTup (aCons (mV (mN 2)) (aCons (mV (mBin fAdd (mN 2) (mCall semU_next (aCons (mVc (mN 0)) (aCons (mV (mCal (gII (fun i j => if j < i then j else i)) (aCons (mV (mK (.int 4))) (aCons (mV (mBin fAdd (mBin (fI (fun _ _ => true) fun i j => i - j) (mN 1) (mN 2)) (mK (.int 1)))) aNil)))) aNil))))) aNil)))))
noncomputable def semP_span : Fs := bodyF 3 2 sbP_span
noncomputable def sbP_call : Sv := (sSeq (sPar [3, 4] (aCons (mV (mCall semU_next (aCons (mVc (mN 0)) (aCons (mV (mK (.int 5))) aNil)))) (aCons (mV (bV (mCmp gEq (mCall semU_next (aCons (mVc (mN 0)) (aCons (mV (mK (.int 4))) aNil))) (mK (.int 0))))) aNil))) (sSeq (sAsg (gNm 5) (mV (eIf (mCmp gNe (mN 3) (mK (.int 3))) (mCall semP_span (aCons (mVc (mN 0)) (aCons (mV (mN 2)) aNil))) (mK .none)))) (sSeq (sAsg (gNm 6) (mV (eIf (mCmp (gIn false) (mN 3) (mTup (aCons (mV (mK (.int 1))) (aCons (mV (mK (.int 2))) (aCons (mV (mK (.int 3))) aNil))))) (mCall semP_span (aCons (mVc (mN 0)) (aCons (mV (mN 2)) aNil))) (mK .none)))) (sRet (mTup (aCons (mV (mK (.str "call"))) (aCons (mV (mN 1)) (aCons (mV (mN 5)) (aCons (mV (mN 6)) (aCons (mV (mN 4)) aNil))))))))))
noncomputable def semP_call : Fs := bodyF 7 3 sbP_call
noncomputable def sbP_label : Sv := (sSeq (sAsg (gPl (mN 0) (mK (.int 1))) (mV (mBin fAdd (mBin fIx (mN 0) (mK (.int 1))) (mK (.int 1))))) (sRet (mBin fAdd (mBin fAdd (mBin fIx (mN 0) (mK (.int 2))) (mBin fIx (mK (.str "abcdefghijklmnopqrstuvwxyz0123456789xyz0")) (mBin (fI (fun _ _ => true) fun i j => i - j) (mBin fIx (mN 0) (mK (.int 1))) (mK (.int 1))))) (mBin fMulA (mK (.str "q")) (mCal (g1 fInt) (aCons (mV (bV (mCmp (gI fun i j => decide (j < i)) (mBin fIx (mN 0) (mK (.int 1))) (mK (.int 36))))) aNil))))))
noncomputable def semP_label : Fs := bodyF 1 1 sbP_label
noncomputable def sbP_grown (sem : Fs) : Sv := (sSeq (sAsg (gPl (mN 1) (mK (.int 0))) (mV (mBin (fI (fun _ _ => true) fun i j => i - j) (mBin fIx (mN 1) (mK (.int 0))) (mK (.int 1))))) (sSeq (sAsg (gNm 4) (mV (mK (.str "call")))) (sSeq (sIf (bAnd (mCmp (gI fun i j => decide (j < i)) (mBin fIx (mN 1) (mK (.int 0))) (mK (.int 0))) (mCmp (gI fun i j => decide (j < i)) (mN 3) (mK (.int 0)))) (sSeq (sAsg (gNm 5) (mV (mLst (aCons (mV (mK (.str "call"))) (aCons (mV (mK (.str "timeout"))) (aCons (mV (mK (.str "retry"))) (aCons (mV (mK (.str "wait"))) (aCons (mV (mK (.str "timeout"))) aNil)))))))) (sSeq (sIf (mCmp (gI fun i j => decide (j < i)) (mBin fIx (mN 1) (mK (.int 0))) (mK (.int 1))) (sAsg (gNm 5) (mV (mBin fAdd (mN 5) (mLst (aCons (mV (mK (.str "then"))) (aCons (mV (mK (.str "fallback"))) (aCons (mV (mK (.str "race"))) (aCons (mV (mK (.str "hedge"))) (aCons (mV (mK (.str "both"))) (aCons (mV (mK (.str "fallback"))) (aCons (mV (mK (.str "race"))) (aCons (mV (mK (.str "hedge"))) aNil)))))))))))) sNil) (sAsg (gNm 4) (mV (mCall semU_of (aCons (mVc (mN 0)) (aCons (mV (mN 5)) aNil))))))) sNil) (sSeq (sIf (mCmp gEq (mN 4) (mK (.str "call"))) (sRet (mCall semP_call (aCons (mVc (mN 0)) (aCons (mV (mCall semP_label (aCons (mVc (mN 1)) aNil))) (aCons (mV (mN 2)) aNil))))) sNil) (sSeq (sIf (mCmp gEq (mN 4) (mK (.str "wait"))) (sRet (mTup (aCons (mV (mK (.str "wait"))) (aCons (mV (mCall semU_next (aCons (mVc (mN 0)) (aCons (mV (mBin fAdd (mN 2) (mK (.int 1)))) aNil)))) aNil)))) sNil) (sSeq (sAsg (gNm 6) (mV (eIf (mCmp gEq (mCall semU_next (aCons (mVc (mN 0)) (aCons (mV (mK (.int 9))) aNil))) (mK (.int 0))) (mK .none) (mCall semU_next (aCons (mVc (mN 0)) (aCons (mV (mBin fAdd (mN 2) (mK (.int 2)))) aNil)))))) (sSeq (sIf (mCmp gEq (mN 4) (mK (.str "retry"))) (sSeq (sAsg (gNm 7) (mV (mCal (g1 fTuple) (aCons (mV (mLc (iRg1 (aCons (mV (mCall semU_of (aCons (mVc (mN 0)) (aCons (mV (mLst (aCons (mV (mK (.int 1))) (aCons (mV (mK (.int 1))) (aCons (mV (mK (.int 2))) (aCons (mV (mK (.int 0))) aNil)))))) aNil)))) aNil)) (gNm 10) ttY (mCall semU_next (aCons (mVc (mN 0)) (aCons (mV (mK (.int 3))) aNil))) [10])) aNil)))) (sRet (mTup (aCons (mV (mK (.str "retry"))) (aCons (mV (mN 7)) (aCons (mV (mCall sem (aCons (mVc (mN 0)) (aCons (mVc (mN 1)) (aCons (mV (mN 2)) (aCons (mV (mBin (fI (fun _ _ => true) fun i j => i - j) (mN 3) (mK (.int 1)))) aNil)))))) aNil)))))) sNil) (sSeq (sIf (mCmp gEq (mN 4) (mK (.str "timeout"))) (sRet (mTup (aCons (mV (mK (.str "timeout"))) (aCons (mV (mN 6)) (aCons (mV (mCall sem (aCons (mVc (mN 0)) (aCons (mVc (mN 1)) (aCons (mV (mN 2)) (aCons (mV (mBin (fI (fun _ _ => true) fun i j => i - j) (mN 3) (mK (.int 1)))) aNil)))))) aNil))))) sNil) (sSeq (sAsg (gPl (mN 1) (mK (.int 0))) (mV (mBin (fI (fun _ _ => true) fun i j => i - j) (mBin fIx (mN 1) (mK (.int 0))) (mK (.int 1))))) (sSeq (sAsg (gNm 8) (mV (mCall sem (aCons (mVc (mN 0)) (aCons (mVc (mN 1)) (aCons (mV (mN 2)) (aCons (mV (mBin (fI (fun _ _ => true) fun i j => i - j) (mN 3) (mK (.int 1)))) aNil))))))) (sSeq (sAsg (gPl (mN 1) (mK (.int 0))) (mV (mBin fAdd (mBin fIx (mN 1) (mK (.int 0))) (mK (.int 1))))) (sSeq (sAsg (gNm 9) (mV (mCall sem (aCons (mVc (mN 0)) (aCons (mVc (mN 1)) (aCons (mV (mN 2)) (aCons (mV (mBin (fI (fun _ _ => true) fun i j => i - j) (mN 3) (mK (.int 1)))) aNil))))))) (sSeq (sIf (mCmp (gIn false) (mN 4) (mTup (aCons (mV (mK (.str "then"))) (aCons (mV (mK (.str "both"))) aNil)))) (sRet (mTup (aCons (mV (mN 4)) (aCons (mV (mN 8)) (aCons (mV (mN 9)) aNil))))) sNil) (sRet (mTup (aCons (mV (mN 4)) (aCons (mV (mN 6)) (aCons (mV (mN 8)) (aCons (mV (mN 9)) aNil)))))))))))))))))))
noncomputable def semP_grown : Nat → Fs
  | 0 => fun _ _ => .no
  | n + 1 => bodyF 11 4 (sbP_grown (semP_grown n))
noncomputable def sbP_policy : Sv := (sRet (mCall (semP_grown 12) (aCons (mVc (mN 0)) (aCons (mVc (mLst (aCons (mV (mN 1)) (aCons (mV (mK (.int 0))) (aCons (mV (mCall semU_of (aCons (mVc (mN 0)) (aCons (mV (mLst (aCons (mV (mK (.str ""))) (aCons (mV (mK (.str "c"))) (aCons (mV (mK (.str "call"))) aNil))))) aNil)))) aNil))))) (aCons (mV (mN 2)) (aCons (mV (mK (.int 8))) aNil))))))
noncomputable def semP_policy : Fs := bodyF 3 3 sbP_policy
noncomputable def sbP_linner : Sv := (sRet (mDGet2 (mDct [((mK (.str "call")), (mTup aNil)), ((mK (.str "wait")), (mTup aNil)), ((mK (.str "retry")), (mSl (mN 0) (oSome (mK (.int 2))) oNone)), ((mK (.str "timeout")), (mSl (mN 0) (oSome (mK (.int 2))) oNone))]) (mBin fIx (mN 0) (mK (.int 0))) (mSl (mN 0) (oSome (mNeg (mK (.int 2)))) oNone)))
noncomputable def semP_linner : Fs := bodyF 1 1 sbP_linner
noncomputable def sbP_inner : Sv := (sSeq (sIf (mCmp (gIn false) (mBin fIx (mN 0) (mK (.int 0))) (mTup (aCons (mV (mK (.str "call"))) (aCons (mV (mK (.str "wait"))) aNil)))) (sRet (mTup aNil)) sNil) (sRet (eIf (mCmp (gIn false) (mBin fIx (mN 0) (mK (.int 0))) (mTup (aCons (mV (mK (.str "then"))) (aCons (mV (mK (.str "both"))) aNil)))) (mSl (mN 0) (oSome (mK (.int 1))) oNone) (mSl (mN 0) (oSome (mK (.int 2))) oNone))))
noncomputable def semP_inner : Fs := bodyF 1 1 sbP_inner
/-! ### texts written out -/
theorem ofS_inj {a b : String} (h : Str.ofString a = Str.ofString b) : a = b := by
  rw [Str.ofString_eq_toList, Str.ofString_eq_toList] at h
  have h1 : (a.toList.map Char.toNat).toArray = (b.toList.map Char.toNat).toArray := congrArg Str.cps h
  have h2 : a.toList.map Char.toNat = b.toList.map Char.toNat := by simpa using h1
  have inj : ∀ (x y : List Char), x.map Char.toNat = y.map Char.toNat → x = y := by
    intro x
    induction x with
    | nil => intro y h; cases y with
      | nil => rfl
      | cons _ _ => cases h
    | cons c x ih => intro y h; cases y with
      | nil => cases h
      | cons d y =>
        rw [List.map_cons, List.map_cons] at h
        injection h with e1 e2
        have : c = d := Char.ext (UInt32.toNat_inj.mp e1)
        rw [this, ih y e2]
  exact String.toList_inj.mp (inj _ _ h2)
@[simp] theorem ofS_eq (a b : String) : (Str.ofString a = Str.ofString b) = (a = b) := propext ⟨ofS_inj, fun h => by rw [h]⟩
@[simp] theorem ofS_beq (a b : String) : (Str.ofString a == Str.ofString b) = decide (a = b) := by
  by_cases h : a = b
  · subst h; simp
  · have : ¬ Str.ofString a = Str.ofString b := fun z => h (ofS_inj z)
    simp [h]
theorem sgn_ofS (s : String) : Sgn (Str.ofString s) := (Txs.ofString (n := s.length) s (Nat.le_refl _)).2
@[simp] theorem gEq_lit (a b : String) : gEq (.str (Str.ofString a)) (.str (Str.ofString b)) = some (decide (a = b)) := by
  rw [gEq_str (sgn_ofS a) (sgn_ofS b)]; simp
@[simp] theorem gNe_lit (a b : String) : gNe (.str (Str.ofString a)) (.str (Str.ofString b)) = some (!decide (a = b)) := by
  rw [gNe_str (sgn_ofS a) (sgn_ofS b)]; simp
@[simp] theorem gNe_int (x y : Int) : gNe (.int x) (.int y) = some (!decide (x = y)) := by
  have h := gEq_int x y
  unfold gEq at h
  unfold gNe
  split at h
  · rename_i hh
    rw [if_pos hh]
    injection h with h
    rw [h]
  · cases h
/-! ### policies -/
inductive Two where
  | thn | both
inductive Num where
  | fall | race | hedge
def Two.s : Two → String
  | .thn => "then"
  | .both => "both"
def Num.s : Num → String
  | .fall => "fallback"
  | .race => "race"
  | .hedge => "hedge"
abbrev Span := Option (Int × Int)
inductive Pol where
  | call (l : Str) (g b : Span) (h : Bool)
  | wait (n : Int)
  | two (k : Two) (a b : Pol)
  | num (k : Num) (n : Option Int) (a b : Pol)
  | retry (ps : List Int) (a : Pol)
  | tmo (n : Option Int) (a : Pol)
def spD : Span → PyData
  | none => .none
  | some p => .tuple [.int p.1, .int p.2]
def nuD : Option Int → PyData
  | none => .none
  | some n => .int n
def Pol.pd : Pol → PyData
  | .call l g b h => .tuple [.str "call", .str l, spD g, spD b, .bool h]
  | .wait n => .tuple [.str "wait", .int n]
  | .two k a b => .tuple [.str k.s, a.pd, b.pd]
  | .num k n a b => .tuple [.str k.s, nuD n, a.pd, b.pd]
  | .retry ps a => .tuple [.str "retry", .tuple (ps.map PyData.int), a.pd]
  | .tmo n a => .tuple [.str "timeout", nuD n, a.pd]
def Pol.inn : Pol → List Pol
  | .call _ _ _ _ => []
  | .wait _ => []
  | .two _ a b => [a, b]
  | .num _ _ a b => [a, b]
  | .retry _ a => [a]
  | .tmo _ a => [a]
def Pol.kind : Pol → String
  | .call _ _ _ _ => "call"
  | .wait _ => "wait"
  | .two k _ _ => k.s
  | .num k _ _ _ => k.s
  | .retry _ _ => "retry"
  | .tmo _ _ => "timeout"
def Pol.size : Pol → Nat
  | .call _ _ _ _ => 1
  | .wait _ => 1
  | .two _ a b => 1 + a.size + b.size
  | .num _ _ a b => 1 + a.size + b.size
  | .retry _ a => 1 + a.size
  | .tmo _ a => 1 + a.size
def Pol.depth : Pol → Nat
  | .call _ _ _ _ => 1
  | .wait _ => 1
  | .two _ a b => 1 + max a.depth b.depth
  | .num _ _ a b => 1 + max a.depth b.depth
  | .retry _ a => 1 + a.depth
  | .tmo _ a => 1 + a.depth
/-- the labels of the calls, from left to right -/
def Pol.labs : Pol → List Str
  | .call l _ _ _ => [l]
  | .wait _ => []
  | .two _ a b => a.labs ++ b.labs
  | .num _ _ a b => a.labs ++ b.labs
  | .retry _ a => a.labs
  | .tmo _ a => a.labs
theorem Pol.size_pos : ∀ p : Pol, 1 ≤ p.size
  | .call _ _ _ _ => Nat.le_refl _
  | .wait _ => Nat.le_refl _
  | .two _ _ _ => by unfold Pol.size; omega
  | .num _ _ _ _ => by unfold Pol.size; omega
  | .retry _ _ => by unfold Pol.size; omega
  | .tmo _ _ => by unfold Pol.size; omega
theorem Pol.labs_le : ∀ p : Pol, p.labs.length ≤ p.size
  | .call _ _ _ _ => Nat.le_refl _
  | .wait _ => Nat.zero_le _
  | .two _ a b => by have := a.labs_le; have := b.labs_le; unfold Pol.size Pol.labs; rw [List.length_append]; omega
  | .num _ _ a b => by have := a.labs_le; have := b.labs_le; unfold Pol.size Pol.labs; rw [List.length_append]; omega
  | .retry _ a => by have := a.labs_le; unfold Pol.size Pol.labs; omega
  | .tmo _ a => by have := a.labs_le; unfold Pol.size Pol.labs; omega
/-- numbers as drawn: spans up to L, numbers up to L + 1, at most two pauses up to 2 -/
def spB (L : Int) : Span → Prop
  | none => True
  | some p => 0 ≤ p.1 ∧ p.1 ≤ p.2 ∧ p.2 ≤ L
def nuB (L : Int) : Option Int → Prop
  | none => True
  | some n => 0 ≤ n ∧ n ≤ L
def Pol.Bnd (L : Int) : Pol → Prop
  | .call _ g b h => spB L g ∧ spB L b ∧ (g = none → b ≠ none)
  | .wait n => 0 ≤ n ∧ n ≤ L
  | .two _ a b => a.Bnd L ∧ b.Bnd L
  | .num _ n a b => nuB (L + 1) n ∧ a.Bnd L ∧ b.Bnd L
  | .retry ps a => (ps.length ≤ 2 ∧ ∀ x ∈ ps, 0 ≤ x ∧ x ≤ 2) ∧ a.Bnd L
  | .tmo n a => nuB (L + 1) n ∧ a.Bnd L
def abcC (k : Nat) : Nat := (Str.ofString "abcdefghijklmnopqrstuvwxyz0123456789xyz0").cps.toList.getD k 0
/-- the k-th label of a stem -/
def labK (stem : Str) (k : Nat) : Str := stem ++ (⟨#[abcC (k - 1)]⟩ : Str) ++ Txt.mul (Str.ofString "q") (if 36 < k then 1 else 0)
def Pol.Lab (stem : Str) (k : Nat) (p : Pol) : Prop := p.labs = (List.range p.labs.length).map fun x => labK stem (k + x + 1)
theorem lab_app {stem : Str} {k : Nat} {a b : List Str} (ha : a = (List.range a.length).map fun x => labK stem (k + x + 1)) (hb : b = (List.range b.length).map fun x => labK stem (k + a.length + x + 1)) :
    a ++ b = (List.range (a ++ b).length).map fun x => labK stem (k + x + 1) := by
  have e : ((fun x => labK stem (k + x + 1)) ∘ fun x => a.length + x) = fun x => labK stem (k + a.length + x + 1) := by
    funext x
    show labK stem (k + (a.length + x) + 1) = labK stem (k + a.length + x + 1)
    congr 1; omega
  rw [List.length_append, List.range_add, List.map_append, List.map_map, e, ← ha, ← hb]
/-! ### two cells of a store -/
/-- the store with u at i and l at j -/
def s2 (st : Sto) (i j : Nat) (u l : Cl) : Sto := (st.set i u).set j l
structure Ij (st : Sto) (i j : Nat) : Prop where
  ne : i ≠ j
  hi : i < st.length
  hj : j < st.length
section
variable {st : Sto} {i j : Nat} {u u' l l' : Cl}
theorem s2_i (h : Ij st i j) : (s2 st i j u l)[i]? = some u := by
  unfold s2; rw [List.getElem?_set_ne (Ne.symm h.ne), List.getElem?_set_self h.hi]
theorem s2_j (h : Ij st i j) : (s2 st i j u l)[j]? = some l := by
  unfold s2; rw [List.getElem?_set_self (by simpa using h.hj)]
theorem s2_si (h : Ij st i j) : (s2 st i j u l).set i u' = s2 st i j u' l := by
  unfold s2; rw [List.set_comm _ _ (Ne.symm h.ne), List.set_set]
theorem s2_sj (h : Ij st i j) : (s2 st i j u l).set j l' = s2 st i j u l' := by
  unfold s2; rw [List.set_set]
theorem s2_len : (s2 st i j u l).length = st.length := by unfold s2; simp
theorem s2_tk : (s2 st i j u l).take st.length = s2 st i j u l := List.take_of_length_le (by rw [s2_len]; exact Nat.le_refl _)
theorem set_selfq {α : Type} {l : List α} {i : Nat} {x : α} (h : l[i]? = some x) : l.set i x = l := by
  apply List.ext_getElem?
  intro k
  by_cases e : i = k
  · subst e; rw [List.getElem?_set_self (List.getElem?_eq_some_iff.mp h).1, h]
  · rw [List.getElem?_set_ne e]
theorem s2_self (h1 : st[i]? = some u) (h2 : st[j]? = some l) : s2 st i j u l = st := by
  unfold s2
  rw [set_selfq h1, set_selfq h2]
end
end Cp
/-! Pw: the laws' drawn policies, walked. -/
namespace Cp
open PySem L2
section
variable {E : Er → Sto → Prop} {st : Sto} {P : Rv → Sto → Prop}
theorem wv_E {α : Type} {E : Er → Sto → Prop} {r : Res α} {P : α → Sto → Prop} (h : WVe noE r P) : WVe E r P := by
  cases r with
  | ok a s => exact h
  | er e s => exact False.elim h
  | no => exact h
/-! ### inner -/
theorem szl : sizeLine = 16777216 := rfl
theorem inn_pd (p : Pol) : ∃ r, p.pd = .tuple (.str (Str.ofString p.kind) :: r) := by
  cases p <;> exact ⟨_, rfl⟩
@[simp] theorem frz_m (k : List (PyData × PyData)) : frz (.n (.m k)) = .d (.dict k) := rfl
theorem cut3 (a b c : PyData) : cutD [a, b, c] (some 2) none = [c] := rfl
theorem cut4 (a b c d : PyData) : cutD [a, b, c, d] (some 2) none = [c, d] := rfl
theorem cut4n (a b c d : PyData) : cutD [a, b, c, d] (some (-2)) none = [c, d] := rfl
theorem cut3n (a b c : PyData) : cutD [a, b, c] (some (-2)) none = [b, c] := rfl
theorem cut31 (a b c : PyData) : cutD [a, b, c] (some 1) none = [b, c] := rfl
theorem w_linner {p : Pol} (h : P (.d (.tuple (p.inn.map Pol.pd))) st) : WVe E (semP_linner [.d p.pd] st) P := by
  unfold semP_linner sbP_linner
  rw [W_body]
  cases p with
  | call l g b hh => simp [Pol.pd, Pol.inn, keysD, keyD, lookK, keyB]; exact h
  | wait n => simp [Pol.pd, Pol.inn, keysD, keyD, lookK, keyB]; exact h
  | two k a b => cases k <;> simp [Pol.pd, Pol.inn, Two.s, keysD, keyD, lookK, keyB, cut3n] <;> exact h
  | num k n a b => cases k <;> simp [Pol.pd, Pol.inn, Num.s, keysD, keyD, lookK, keyB, cut4n] <;> exact h
  | retry ps a => simp [Pol.pd, Pol.inn, keysD, keyD, lookK, keyB, cut3]; exact h
  | tmo n a => simp [Pol.pd, Pol.inn, keysD, keyD, lookK, keyB, cut3]; exact h
theorem w_inner {p : Pol} (h : P (.d (.tuple (p.inn.map Pol.pd))) st) : WVe E (semP_inner [.d p.pd] st) P := by
  unfold semP_inner sbP_inner
  rw [W_body]
  cases p with
  | call l g b hh => simp [Pol.pd, Pol.inn, gIn, itemsD, flatD, eqF, szl]; exact h
  | wait n => simp [Pol.pd, Pol.inn, gIn, itemsD, flatD, eqF, szl]; exact h
  | two k a b => cases k <;> simp [Pol.pd, Pol.inn, Two.s, gIn, itemsD, flatD, eqF, cut31, szl] <;> exact h
  | num k n a b => cases k <;> simp [Pol.pd, Pol.inn, Num.s, gIn, itemsD, flatD, eqF, cut4, szl] <;> exact h
  | retry ps a => simp [Pol.pd, Pol.inn, gIn, itemsD, flatD, eqF, cut3, szl]; exact h
  | tmo n a => simp [Pol.pd, Pol.inn, gIn, itemsD, flatD, eqF, cut3, szl]; exact h
/-! ### what is drawn -/
variable {i j : Nat} {u : Cl} {m L : Int}
theorem w_span (hu : st[i]? = some u) (hU : Urn m u) (hm : m < 2 ^ 190) (hL : 0 ≤ L) (hL2 : L < 2 ^ 100) (h : ∀ (p : Int × Int) u', spB L (some p) → Urn (m + 2) u' → P (.d (spD (some p))) (st.set i u')) : WVe noE (semP_span [.c i, .d (.int L)] st) P := by
  unfold semP_span sbP_span
  rw [W_body]
  have hi : i < st.length := (List.getElem?_eq_some_iff.mp hu).1
  have hset : ∀ c, (st.set i c)[i]? = some c := fun c => List.getElem?_set_self hi
  simp
  refine w_next hu hU (by omega) (by omega) (by omega) fun low u1 a1 b1 hU1 => ?_
  simp
  refine w_next (hset u1) hU1 (by omega) (by split <;> omega) (by split <;> omega) fun r u2 a2 b2 hU2 => ?_
  have hs : sizeLine = 16777216 := rfl
  simp
  refine ⟨by omega, h (low, low + r) u2 ⟨a1, by show low ≤ low + r; omega, ?_⟩ (hU2.mono (by omega))⟩
  show low + r ≤ L
  split at b2 <;> omega
theorem w_call {l : Str} (hu : st[i]? = some u) (hU : Urn m u) (hm : m < 2 ^ 189) (hL : 0 ≤ L) (hL2 : L < 2 ^ 100) (h : ∀ g b hh u', spB L g → spB L b → (g = none → b ≠ none) → Urn (m + 6) u' → P (.d (Pol.call l g b hh).pd) (st.set i u')) : WVe noE (semP_call [.c i, .d (.str l), .d (.int L)] st) P := by
  unfold semP_call sbP_call
  rw [W_body]
  have hi : i < st.length := (List.getElem?_eq_some_iff.mp hu).1
  have hset : ∀ c, (st.set i c)[i]? = some c := fun c => List.getElem?_set_self hi
  have hs : sizeLine = 16777216 := rfl
  simp
  refine w_next hu hU (by omega) (by omega) (by omega) fun way u1 a1 b1 hU1 => ?_
  simp
  refine w_next (hset u1) hU1 (by omega) (by omega) (by omega) fun hg u2 a2 b2 hU2 => ?_
  simp [szl]
  have gin : gIn false (.int way) (.tuple [.int 1, .int 2, .int 3]) = some (decide (way = 1 ∨ way = 2 ∨ way = 3)) := by
    simp [gIn, itemsD, flatD, eqF]
    by_cases c1 : way = 1
    · subst c1; rfl
    · by_cases c2 : way = 2
      · subst c2; rfl
      · by_cases c3 : way = 3
        · subst c3; rfl
        · simp [c1, c2, c3]; omega
  rw [gin]
  split
  · rename_i h3
    subst h3
    simp
    refine w_span (hset u2) hU2 (by omega) hL hL2 fun p u3 hp hU3 => ?_
    simp [spD, szl]
    exact h none (some p) _ u3 trivial hp (by simp) (hU3.mono (by omega))
  · refine w_span (hset u2) hU2 (by omega) hL hL2 fun p u3 hp hU3 => ?_
    simp [spD, szl]
    split
    · refine w_span (hset u3) hU3 (by omega) hL hL2 fun q u4 hq hU4 => ?_
      simp [spD, szl]
      exact h (some p) (some q) _ u4 hp hq (by simp) (hU4.mono (by omega))
    · exact h (some p) none _ u3 hp trivial (by simp) (hU3.mono (by omega))
theorem abc_at {k : Nat} (hk : k < 40) : fIx (.str (Str.ofString "abcdefghijklmnopqrstuvwxyz0123456789xyz0")) (.int k) = some (.d (.str ⟨#[abcC k]⟩)) := by
  have hl : (Str.ofString "abcdefghijklmnopqrstuvwxyz0123456789xyz0").cps.toList.length = 40 := by decide +kernel
  show (if (Str.ofString "abcdefghijklmnopqrstuvwxyz0123456789xyz0").length ≤ sizeLine then (atI (Str.ofString "abcdefghijklmnopqrstuvwxyz0123456789xyz0").cps.toList k).map fun c => Rv.d (.str ⟨#[c]⟩) else none) = _
  unfold abcC
  rw [if_pos (by decide +kernel), atI_at rfl (by omega), List.getD_eq_getElem?_getD, List.getElem?_eq_getElem (by omega)]
  rfl
theorem w_label {a : Int} {k : Nat} {stem : Str} {j : Nat} (hj : st[j]? = some (.l [.int a, .int k, .str stem])) (hk : k < 40) (hl : stem.length ≤ 1000) (h : P (.d (.str (labK stem (k + 1)))) (st.set j (.l [.int a, .int (k + 1 : Nat), .str stem]))) : WVe noE (semP_label [.c j] st) P := by
  unfold semP_label sbP_label
  rw [W_body]
  have hi : j < st.length := (List.getElem?_eq_some_iff.mp hj).1
  have hset : ∀ c, (st.set j c)[j]? = some c := fun c => List.getElem?_set_self hi
  have e36 : ((36 : Int) < (k : Int) + 1) = (36 < k + 1) := propext (by omega)
  have q1 : (Str.ofString "q").length = 1 := by decide +kernel
  have l1 : (⟨#[abcC k]⟩ : Str).length = 1 := rfl
  have lm : (Txt.mul (Str.ofString "q") (if 36 < k + 1 then 1 else 0)).length ≤ 1 := by split <;> decide +kernel
  have e2 : labK stem (k + 1) = stem ++ (⟨#[abcC k]⟩ : Str) ++ Txt.mul (Str.ofString "q") (if 36 < k + 1 then 1 else 0) := rfl
  rw [e2] at h
  have eq : ((k + 1 : Nat) : Int) = (k : Int) + 1 := by omega
  rw [eq] at h
  have l2 : (stem ++ (⟨#[abcC k]⟩ : Str)).length = stem.length + 1 := by rw [strLen_append, l1]
  have c1 : stem.length + 1 ≤ 16777216 := by omega
  simp [hj, hset, szl, abc_at hk, e36, q1, l1, c1, l2]
  exact ⟨⟨by split <;> omega, by split <;> omega, by split <;> omega⟩, by omega, h⟩
end
end Cp
/-! Pz: the laws' drawn policies, grown. -/
namespace Cp
open PySem L2
theorem seq_cut {E : Er → Sto → Prop} {x y : Sv} {ρ : En} {st : Sto} {N B C : En → Sto → Prop} {R : Rv → Sto → Prop} (I : En → Sto → Prop) (h1 : WSe E (x ρ st) I B C R) (h2 : ∀ ρ s, I ρ s → WSe E (y ρ s) N B C R) : WSe E (sSeq x y ρ st) N B C R := by
  unfold sSeq
  cases q : x ρ st with
  | nx ρ' s => rw [q] at h1; exact h2 _ _ h1
  | bk ρ' s => rw [q] at h1; exact h1
  | ct ρ' s => rw [q] at h1; exact h1
  | rt r s => rw [q] at h1; exact h1
  | er e s => rw [q] at h1; exact h1
  | no => rw [q] at h1; exact h1
/-- what is left: parts, labels made, stem -/
abbrev lft (a : Int) (k : Nat) (stem : Str) : Cl := .l [.int a, .int k, .str stem]
def KindOk (a dp : Int) (kd : String) : Prop := kd = "call" ∨ ((0 < a ∧ 0 < dp) ∧ (kd = "timeout" ∨ kd = "retry" ∨ kd = "wait" ∨ (1 < a ∧ (kd = "then" ∨ kd = "fallback" ∨ kd = "race" ∨ kd = "hedge" ∨ kd = "both"))))
section
variable {E : Er → Sto → Prop} {st : Sto} {P : Rv → Sto → Prop} {i j : Nat}
theorem w_grown : ∀ (f : Nat) {st : Sto} {P : Rv → Sto → Prop} {u : Cl} {m L dp a : Int} {k : Nat} {stem : Str}, Ij st i j → Urn m u → 1 ≤ a → a ≤ 60 → (k : Int) + a ≤ 40 → 0 ≤ L → L < 2 ^ 90 → 0 ≤ dp → dp < f → stem.length ≤ 100 → m + 8 * a < 2 ^ 180 →
    (∀ (p : Pol) (u' : Cl), p.Bnd L → (p.size : Int) ≤ a → (p.depth : Int) ≤ dp + 1 → p.Lab stem k → Urn (m + 8 * p.size) u' → P (.d p.pd) (s2 st i j u' (lft (a - p.size) (k + p.labs.length) stem))) →
    WVe noE (semP_grown f [.c i, .c j, .d (.int L), .d (.int dp)] (s2 st i j u (lft a k stem))) P
  | 0, _, _, _, _, _, _, _, _, _, _, _, _, _, _, _, _, hd, hf, _, _, _ => absurd hf (by omega)
  | f + 1, st, P, u, m, L, dp, a, k, stem, J, hU, a1, a60, ka, hL, hL2, hd, hf, hst, hm, h => by
    show WVe noE (bodyF 11 4 (sbP_grown (semP_grown f)) _ _) P
    unfold sbP_grown
    rw [W_body]
    refine ⟨rfl, ?_⟩
    refine seq_cut (fun ρ s => ρ = [some (.c i), some (.c j), some (.d (.int L)), some (.d (.int dp)), none, none, none, none, none, none, none] ∧ s = s2 st i j u (lft (a - 1) k stem)) (by simp [szl, s2_j J, s2_sj J]) ?_
    rintro ρ s ⟨rfl, rfl⟩
    refine seq_cut (fun ρ s => ρ = [some (.c i), some (.c j), some (.d (.int L)), some (.d (.int dp)), some (.d (.str "call")), none, none, none, none, none, none] ∧ s = s2 st i j u (lft (a - 1) k stem)) (by simp) ?_
    rintro ρ s ⟨rfl, rfl⟩
    refine seq_cut (fun ρ s => ∃ (kd : String) (x5 : Option Vl) (u' : Cl), ρ = [some (.c i), some (.c j), some (.d (.int L)), some (.d (.int dp)), some (.d (.str kd)), x5, none, none, none, none, none] ∧ s = s2 st i j u' (lft (a - 1) k stem) ∧ Urn (m + 1) u' ∧ KindOk (a - 1) dp kd) ?_ ?_
    · have fin : ∀ {xs : List PyData} {Q : Rv → Sto → Prop}, (∀ x ∈ xs, ∃ kd : String, x = .str (Str.ofString kd) ∧ KindOk (a - 1) dp kd) → xs ≠ [] → xs.length ≤ sizeLine → (∀ (kd : String) u', Urn (m + 1) u' → KindOk (a - 1) dp kd → Q (.d (.str (Str.ofString kd))) (s2 st i j u' (lft (a - 1) k stem))) →
          WVe noE (semU_of [.c i, .d (.list xs)] (s2 st i j u (lft (a - 1) k stem))) fun r s' => back (s2 st i j u (lft (a - 1) k stem)).length r s' Q := by
        intro xs Q hxs h0 hl hQ
        refine w_of (s2_i J) hU (by omega) h0 hl fun x u' hx hU' => ?_
        obtain ⟨kd, rfl, hk⟩ := hxs x hx
        rw [s2_si J, back_d, s2_len, s2_tk]
        exact hQ kd u' hU' hk
      simp [szl, s2_j J]
      split
      · split
        · split
          · refine fin (fun x hx => ?_) (by simp) (by decide) fun kd u' hU' hk => ⟨kd, rfl, u', rfl, hU', hk⟩
            simp at hx
            rcases hx with rfl | rfl | rfl | rfl | rfl | rfl | rfl | rfl | rfl | rfl | rfl | rfl | rfl <;> exact ⟨_, rfl, by unfold KindOk; simp; try omega⟩
          · refine fin (fun x hx => ?_) (by simp) (by decide) fun kd u' hU' hk => ⟨kd, rfl, u', rfl, hU', hk⟩
            simp at hx
            rcases hx with rfl | rfl | rfl | rfl | rfl <;> exact ⟨_, rfl, by unfold KindOk; simp; try omega⟩
        · exact ⟨u, rfl, hU.mono (by omega), .inl rfl⟩
      · exact ⟨u, rfl, hU.mono (by omega), .inl rfl⟩
    · rintro ρ s ⟨kd, x5, u', rfl, rfl, hU', hk⟩
      rcases hk with rfl | ⟨⟨ha0, hd0⟩, hk⟩
      · refine seq_cut (fun _ _ => False) ?_ (fun _ _ z => z.elim)
        simp
        refine w_label (a := a - 1) (s2_j J) (by omega) (by omega) ?_
        rw [s2_sj J]
        simp [s2_len, s2_tk]
        refine w_call (s2_i J) hU' (by omega) hL (by omega) fun g b hh u2 hg hb hgb hU2 => ?_
        rw [s2_si J]
        simp [s2_len, s2_tk]
        have := h (Pol.call (labK stem (k + 1)) g b hh) u2 ⟨hg, hb, hgb⟩ (by show ((1 : Nat) : Int) ≤ a; omega) (by show ((1 : Nat) : Int) ≤ dp + 1; omega) rfl (hU2.mono (by show m + 1 + 6 ≤ m + 8 * ((1 : Nat) : Int); omega))
        exact this
      by_cases hw : kd = "wait"
      · subst hw
        refine seq_cut (fun ρ s => ρ = [some (.c i), some (.c j), some (.d (.int L)), some (.d (.int dp)), some (.d (.str "wait")), x5, none, none, none, none, none] ∧ s = s2 st i j u' (lft (a - 1) k stem)) (by simp) ?_
        rintro ρ s ⟨rfl, rfl⟩
        refine seq_cut (fun _ _ => False) ?_ (fun _ _ z => z.elim)
        simp
        refine w_next (s2_i J) hU' (by omega) (by omega) (by omega) fun n u2 n0 n1 hU2 => ?_
        rw [s2_si J]
        simp [s2_len, s2_tk, szl]
        have := h (Pol.wait n) u2 ⟨n0, by omega⟩ (by show ((1 : Nat) : Int) ≤ a; omega) (by show ((1 : Nat) : Int) ≤ dp + 1; omega) rfl (hU2.mono (by show m + 1 + 1 ≤ m + 8 * ((1 : Nat) : Int); omega))
        exact this
      have hc : kd ≠ "call" := by rcases hk with rfl | rfl | rfl | ⟨_, rfl | rfl | rfl | rfl | rfl⟩ <;> decide
      refine seq_cut (fun ρ s => ρ = [some (.c i), some (.c j), some (.d (.int L)), some (.d (.int dp)), some (.d (.str kd)), x5, none, none, none, none, none] ∧ s = s2 st i j u' (lft (a - 1) k stem)) (by simp [hc]) ?_
      rintro ρ s ⟨rfl, rfl⟩
      refine seq_cut (fun ρ s => ρ = [some (.c i), some (.c j), some (.d (.int L)), some (.d (.int dp)), some (.d (.str kd)), x5, none, none, none, none, none] ∧ s = s2 st i j u' (lft (a - 1) k stem)) (by simp [hw]) ?_
      rintro ρ s ⟨rfl, rfl⟩
      refine seq_cut (fun ρ s => ∃ (n : Option Int) (u3 : Cl), ρ = [some (.c i), some (.c j), some (.d (.int L)), some (.d (.int dp)), some (.d (.str kd)), x5, some (.d (nuD n)), none, none, none, none] ∧ s = s2 st i j u3 (lft (a - 1) k stem) ∧ Urn (m + 3) u3 ∧ nuB (L + 1) n) ?_ ?_
      · simp
        refine w_next (s2_i J) hU' (by omega) (by omega) (by omega) fun n9 u2 _ _ hU2 => ?_
        rw [s2_si J]
        simp [s2_len, s2_tk]
        split
        · exact ⟨none, rfl, u2, rfl, hU2.mono (by omega), trivial⟩
        · refine w_next (s2_i J) hU2 (by omega) (by omega) (by omega) fun n u3 n0 n1 hU3 => ?_
          rw [s2_si J]
          simp [s2_len, s2_tk]
          exact ⟨some n, rfl, u3, rfl, hU3.mono (by omega), n0, by omega⟩
      rintro ρ s ⟨n, u3, rfl, rfl, hU3, hn⟩
      rcases hk with rfl | rfl | rfl | ⟨ha1, hk⟩
      · refine seq_cut (fun ρ s => ρ = [some (.c i), some (.c j), some (.d (.int L)), some (.d (.int dp)), some (.d (.str "timeout")), x5, some (.d (nuD n)), none, none, none, none] ∧ s = s2 st i j u3 (lft (a - 1) k stem)) (by simp) ?_
        rintro ρ s ⟨rfl, rfl⟩
        refine seq_cut (fun _ _ => False) ?_ (fun _ _ z => z.elim)
        simp
        refine w_grown f J hU3 (by omega) (by omega) (by omega) hL hL2 (by omega) (by omega) hst (by omega) fun p u4 hp hs hdp hlab hU4 => ?_
        simp [s2_len, s2_tk, szl]
        have := h (Pol.tmo n p) u4 ⟨hn, hp⟩ (by show ((1 + p.size : Nat) : Int) ≤ a; omega) (by show ((1 + p.depth : Nat) : Int) ≤ dp + 1; omega) hlab (hU4.mono (by show m + 3 + 8 * (p.size : Int) ≤ m + 8 * ((1 + p.size : Nat) : Int); omega))
        have e : a - ((Pol.tmo n p).size : Int) = a - 1 - (p.size : Int) := by show a - ((1 + p.size : Nat) : Int) = _; omega
        rw [e] at this
        exact this
      · refine seq_cut (fun _ _ => False) ?_ (fun _ _ z => z.elim)
        simp [szl]
        refine w_of (xs := [.int 1, .int 1, .int 2, .int 0]) (s2_i J) hU3 (by omega) (by simp) (by decide) fun x u4 hx hU4 => ?_
        rw [s2_si J]
        have hx' : ∃ c : Int, x = .int c ∧ 0 ≤ c ∧ c ≤ 2 := by
          simp at hx
          rcases hx with rfl | rfl | rfl <;> exact ⟨_, rfl, by decide, by decide⟩
        obtain ⟨c, rfl, c0, c2⟩ := hx'
        simp [s2_len, s2_tk]
        refine ⟨rOk_of2 (by decide) (by decide) (by omega) (by omega), ?_⟩
        refine lcGo_by (I := fun x s acc => ∃ (ps : List Int) (u5 : Cl), acc = ps.map PyData.int ∧ ps.length = x ∧ (∀ y ∈ ps, 0 ≤ y ∧ y ≤ 2) ∧ s = s2 st i j u5 (lft (a - 1) k stem) ∧ Urn (m + 4 + x) u5) _ 0 [] ⟨[], u4, rfl, rfl, fun _ z => (nomatch z), rfl, hU4.mono (by omega)⟩ (fun _ _ _ _ => trivial) ?_ ?_
        · rintro x d s acc hd' ⟨ps, u5, rfl, hl, hps, rfl, hU5⟩
          have hx2 : x < 2 := by
            have := (List.getElem?_eq_some_iff.mp hd').1
            have e : (rngD 0 c).length = c.toNat := by unfold rngD; simp
            omega
          simp [wipeE]
          refine w_next (s2_i J) hU5 (by omega) (by omega) (by omega) fun y u6 y0 y1 hU6 => ?_
          rw [s2_si J]
          simp [s2_len, s2_tk, szl]
          refine ⟨by omega, ps ++ [y], by simp, by simp; omega, fun z hz => ?_, u6, rfl, hU6.mono (by omega)⟩
          rcases List.mem_append.mp hz with hz | hz
          · exact hps z hz
          · simp at hz; omega
        · rintro s acc ⟨ps, u5, rfl, hl, hps, rfl, hU5⟩
          have hlen : ps.length ≤ 2 := by
            have e : (rngD 0 c).length = c.toNat := by unfold rngD; simp
            omega
          have hU5' : Urn (m + 6) u5 := hU5.mono (by omega)
          refine w_grown f J hU5' (by omega) (by omega) (by omega) hL hL2 (by omega) (by omega) hst (by omega) fun p u7 hp hs hdp hlab hU7 => ?_
          simp [s2_len, s2_tk, szl]
          have := h (Pol.retry ps p) u7 ⟨⟨hlen, hps⟩, hp⟩ (by show ((1 + p.size : Nat) : Int) ≤ a; omega) (by show ((1 + p.depth : Nat) : Int) ≤ dp + 1; omega) hlab (hU7.mono (by show m + 6 + 8 * (p.size : Int) ≤ m + 8 * ((1 + p.size : Nat) : Int); omega))
          have e : a - ((Pol.retry ps p).size : Int) = a - 1 - (p.size : Int) := by show a - ((1 + p.size : Nat) : Int) = _; omega
          rw [e] at this
          exact this
      · exact absurd rfl hw
      · have hc2 : kd ≠ "retry" ∧ kd ≠ "timeout" := by rcases hk with rfl | rfl | rfl | rfl | rfl <;> decide
        refine seq_cut (fun ρ s => ρ = [some (.c i), some (.c j), some (.d (.int L)), some (.d (.int dp)), some (.d (.str kd)), x5, some (.d (nuD n)), none, none, none, none] ∧ s = s2 st i j u3 (lft (a - 1) k stem)) (by simp [hc2.1]) ?_
        rintro ρ s ⟨rfl, rfl⟩
        refine seq_cut (fun ρ s => ρ = [some (.c i), some (.c j), some (.d (.int L)), some (.d (.int dp)), some (.d (.str kd)), x5, some (.d (nuD n)), none, none, none, none] ∧ s = s2 st i j u3 (lft (a - 1) k stem)) (by simp [hc2.2]) ?_
        rintro ρ s ⟨rfl, rfl⟩
        refine seq_cut (fun ρ s => ρ = [some (.c i), some (.c j), some (.d (.int L)), some (.d (.int dp)), some (.d (.str kd)), x5, some (.d (nuD n)), none, none, none, none] ∧ s = s2 st i j u3 (lft (a - 1 - 1) k stem)) (by simp [szl, s2_j J, s2_sj J]) ?_
        rintro ρ s ⟨rfl, rfl⟩
        refine seq_cut (fun ρ s => ∃ (p : Pol) (u4 : Cl), ρ = [some (.c i), some (.c j), some (.d (.int L)), some (.d (.int dp)), some (.d (.str kd)), x5, some (.d (nuD n)), none, some (.d p.pd), none, none] ∧ s = s2 st i j u4 (lft (a - 1 - 1 - p.size) (k + p.labs.length) stem) ∧ p.Bnd L ∧ (p.size : Int) ≤ a - 2 ∧ (p.depth : Int) ≤ dp ∧ p.Lab stem k ∧ Urn (m + 3 + 8 * p.size) u4) ?_ ?_
        · simp
          refine w_grown f J hU3 (by omega) (by omega) (by omega) hL hL2 (by omega) (by omega) hst (by omega) fun p u4 hp hs hdp hlab hU4 => ?_
          simp [s2_len, s2_tk, szl]
          exact ⟨p, rfl, u4, rfl, hp, by omega, by omega, hlab, hU4⟩
        rintro ρ s ⟨p, u4, rfl, rfl, hp, hps, hpd, hpl, hU4⟩
        have hsz := p.size_pos
        have hll := p.labs_le
        refine seq_cut (fun ρ s => ρ = [some (.c i), some (.c j), some (.d (.int L)), some (.d (.int dp)), some (.d (.str kd)), x5, some (.d (nuD n)), none, some (.d p.pd), none, none] ∧ s = s2 st i j u4 (lft (a - 1 - 1 - p.size + 1) (k + p.labs.length) stem)) (by simp [szl, s2_j J, s2_sj J, lft]) ?_
        rintro ρ s ⟨rfl, rfl⟩
        refine seq_cut (fun ρ s => ∃ (q : Pol) (u5 : Cl), ρ = [some (.c i), some (.c j), some (.d (.int L)), some (.d (.int dp)), some (.d (.str kd)), x5, some (.d (nuD n)), none, some (.d p.pd), some (.d q.pd), none] ∧ s = s2 st i j u5 (lft (a - 1 - 1 - p.size + 1 - q.size) (k + p.labs.length + q.labs.length) stem) ∧ q.Bnd L ∧ (p.size + q.size : Int) ≤ a - 1 ∧ (q.depth : Int) ≤ dp ∧ q.Lab stem (k + p.labs.length) ∧ Urn (m + 3 + 8 * p.size + 8 * q.size) u5) ?_ ?_
        · simp
          refine w_grown f J hU4 (by omega) (by omega) (by omega) hL hL2 (by omega) (by omega) hst (by omega) fun q u5 hq hs hqd hlab hU5 => ?_
          simp [s2_len, s2_tk, szl]
          exact ⟨q, rfl, u5, rfl, hq, by omega, by omega, hlab, hU5⟩
        rintro ρ s ⟨q, u5, rfl, rfl, hq, hqs, hqd, hql, hU5⟩
        have hsz2 := q.size_pos
        have hlab : (p.labs ++ q.labs) = (List.range (p.labs ++ q.labs).length).map fun x => labK stem (k + x + 1) := lab_app hpl hql
        have hmax : max p.depth q.depth = p.depth ∨ max p.depth q.depth = q.depth := by omega
        have e2 : ((k + (p.labs ++ q.labs).length : Nat) : Int) = (k : Int) + p.labs.length + q.labs.length := by rw [List.length_append]; omega
        have fT : ∀ t : Two, P (.d (Pol.two t p q).pd) (s2 st i j u5 (lft (a - 1 - 1 - p.size + 1 - q.size) (k + p.labs.length + q.labs.length) stem)) := fun t => by
          have := h (Pol.two t p q) u5 ⟨hp, hq⟩ (by show ((1 + p.size + q.size : Nat) : Int) ≤ a; omega) (by show ((1 + max p.depth q.depth : Nat) : Int) ≤ dp + 1; rcases hmax with e | e <;> rw [e] <;> omega) hlab (hU5.mono (by show m + 3 + 8 * (p.size : Int) + 8 * (q.size : Int) ≤ m + 8 * ((1 + p.size + q.size : Nat) : Int); omega))
          have e : a - ((Pol.two t p q).size : Int) = a - 1 - 1 - p.size + 1 - q.size := by show a - ((1 + p.size + q.size : Nat) : Int) = _; omega
          have e3 : k + (Pol.two t p q).labs.length = k + p.labs.length + q.labs.length := by show k + (p.labs ++ q.labs).length = _; rw [List.length_append]; omega
          rw [e, e3] at this
          exact this
        have fN : ∀ t : Num, P (.d (Pol.num t n p q).pd) (s2 st i j u5 (lft (a - 1 - 1 - p.size + 1 - q.size) (k + p.labs.length + q.labs.length) stem)) := fun t => by
          have := h (Pol.num t n p q) u5 ⟨hn, hp, hq⟩ (by show ((1 + p.size + q.size : Nat) : Int) ≤ a; omega) (by show ((1 + max p.depth q.depth : Nat) : Int) ≤ dp + 1; rcases hmax with e | e <;> rw [e] <;> omega) hlab (hU5.mono (by show m + 3 + 8 * (p.size : Int) + 8 * (q.size : Int) ≤ m + 8 * ((1 + p.size + q.size : Nat) : Int); omega))
          have e : a - ((Pol.num t n p q).size : Int) = a - 1 - 1 - p.size + 1 - q.size := by show a - ((1 + p.size + q.size : Nat) : Int) = _; omega
          have e3 : k + (Pol.num t n p q).labs.length = k + p.labs.length + q.labs.length := by show k + (p.labs ++ q.labs).length = _; rw [List.length_append]; omega
          rw [e, e3] at this
          exact this
        rcases hk with rfl | rfl | rfl | rfl | rfl
        · simp [gIn, itemsD, flatD, eqF, szl]; exact fT .thn
        · simp [gIn, itemsD, flatD, eqF, szl]; exact fN .fall
        · simp [gIn, itemsD, flatD, eqF, szl]; exact fN .race
        · simp [gIn, itemsD, flatD, eqF, szl]; exact fN .hedge
        · simp [gIn, itemsD, flatD, eqF, szl]; exact fT .both
theorem w_policy {i : Nat} {u : Cl} {m L most : Int} (hu : st[i]? = some u) (hU : Urn m u) (h1 : 1 ≤ most) (h2 : most ≤ 38) (hL : 0 ≤ L) (hL2 : L < 2 ^ 90) (hm : m < 2 ^ 170)
    (h : ∀ (p : Pol) (stem : Str) (u' : Cl), p.Bnd L → (p.size : Int) ≤ most → p.depth ≤ 9 → p.Lab stem 0 → stem ∈ [Str.ofString "", Str.ofString "c", Str.ofString "call"] → Urn (m + 1 + 8 * most) u' → P (.d p.pd) (st.set i u')) :
    WVe noE (semP_policy [.c i, .d (.int most), .d (.int L)] st) P := by
  unfold semP_policy sbP_policy
  rw [W_body]
  have hi : i < st.length := (List.getElem?_eq_some_iff.mp hu).1
  simp [szl]
  refine w_of (xs := [.str (Str.ofString ""), .str (Str.ofString "c"), .str (Str.ofString "call")]) hu hU (by omega) (by simp) (by decide) fun x u1 hx hU1 => ?_
  have hx' : ∃ stem : Str, x = .str stem ∧ stem ∈ [Str.ofString "", Str.ofString "c", Str.ofString "call"] := by
    simp at hx
    rcases hx with rfl | rfl | rfl <;> exact ⟨_, rfl, by simp⟩
  obtain ⟨stem, rfl, hst⟩ := hx'
  have hsl : stem.length ≤ 100 := by
    simp at hst
    rcases hst with rfl | rfl | rfl <;> decide +kernel
  simp [szl]
  have J : Ij (st.set i u1 ++ [lft most 0 stem]) i st.length := ⟨by omega, by simp; omega, by simp⟩
  have e0 : st.set i u1 ++ [Cl.l [.int most, .int 0, .str stem]] = s2 (st.set i u1 ++ [lft most 0 stem]) i st.length u1 (lft most 0 stem) := by
    rw [s2_self]
    · rfl
    · rw [List.getElem?_append_left (by simpa using hi), List.getElem?_set_self hi]
    · rw [List.getElem?_append_right (by simp)]; simp
  rw [e0]
  refine w_grown 12 J hU1 h1 (by omega) (by omega) hL hL2 (by omega) (by omega) hsl (by omega) fun p u2 hp hs hd hlab hU2 => ?_
  have et : ∀ c d, (s2 (st.set i u1 ++ [lft most 0 stem]) i st.length c d).take st.length = st.set i c := fun c d => by
    unfold s2
    rw [List.set_append_left _ _ (by simpa using hi), List.set_append_right _ _ (by simp), List.set_set]
    exact List.take_left' (by simp)
  simp [et]
  exact h p stem u2 hp hs (by omega) hlab hst (hU2.mono (by omega))
end
end Cp
/-! Ps: policies, their parts, paths, forms. -/
namespace Cp
open PySem L2
noncomputable def sbS_is_label : Sv := (sRet (eAnd (mIsi "str" (mN 0)) (eAnd (bV (mChn (gI fun i j => decide (i ≤ j)) (gI fun i j => decide (i ≤ j)) (mK (.int 1)) (mCal (gLen) (aCons (mV (mN 0)) aNil)) (mK (.int 8)))) (mCal (g1 fAll) (aCons (mV (mLc (iOf (mN 0)) (gNm 1) ttY (bV (mCmp (gInS false) (mN 1) (mK (.str "abcdefghijklmnopqrstuvwxyz0123456789")))) [1])) aNil)))))
noncomputable def semS_is_label : Fs := bodyF 2 1 sbS_is_label
noncomputable def sbS_is_number : Sv := (sRet (eAnd (mIsi "int" (mN 0)) (eAnd (eNot (mIsi "bool" (mN 0))) (bV (mChn (gI fun i j => decide (i ≤ j)) (gI fun i j => decide (i ≤ j)) (mK (.int 0)) (mN 0) (mK (.int 1000000000)))))))
noncomputable def semS_is_number : Fs := bodyF 1 1 sbS_is_number
noncomputable def sbS_is_span : Sv := (sSeq (sIf (bOr (bNot (mTru (mIsi "tuple" (mN 0)))) (bOr (mCmp gNe (mCal (gLen) (aCons (mV (mN 0)) aNil)) (mK (.int 2))) (bNot (mTru (mCal (g1 fAll) (aCons (mV (mLc (iOf (mN 0)) (gNm 1) ttY (mCall semS_is_number (aCons (mV (mN 1)) aNil)) [1])) aNil)))))) (sRet (mK (.bool false))) sNil) (sRet (bV (mCmp (gI fun i j => decide (i ≤ j)) (mBin fIx (mN 0) (mK (.int 0))) (mBin fIx (mN 0) (mK (.int 1)))))))
noncomputable def semS_is_span : Fs := bodyF 2 1 sbS_is_span
noncomputable def sbS_is_call : Sv := (sSeq (sAsg (gTp 5 (gCons9 (gNm 1) (gCons9 (gNm 2) (gCons9 (gNm 3) (gCons9 (gNm 4) (gCons9 (gNm 5) gNil9)))))) (mV (mN 0))) (sSeq (sIf (bOr (bNot (mTru (mCall semS_is_label (aCons (mV (mN 2)) aNil)))) (bNot (mTru (mIsi "bool" (mN 5))))) (sRet (mK (.bool false))) sNil) (sSeq (sIf (bNot (mTru (mCal (g1 fAll) (aCons (mV (mLc (iOf (mTup (aCons (mV (mN 3)) (aCons (mV (mN 4)) aNil)))) (gNm 6) ttY (eOr (bV (mCmp gIsN (mN 6) (mK .none))) (mCall semS_is_span (aCons (mV (mN 6)) aNil))) [6])) aNil)))) (sRet (mK (.bool false))) sNil) (sRet (eOr (mN 5) (eOr (bV (mCmp gNotN (mN 3) (mK .none))) (bV (mCmp gNotN (mN 4) (mK .none)))))))))
noncomputable def semS_is_call : Fs := bodyF 7 1 sbS_is_call
noncomputable def sbS_has_number : Sv := (sSeq (sIf (mCmp gEq (mN 0) (mK (.str "wait"))) (sRet (mCall semS_is_number (aCons (mV (mN 1)) aNil))) sNil) (sSeq (sIf (mCmp gEq (mN 0) (mK (.str "retry"))) (sRet (eAnd (mIsi "tuple" (mN 1)) (eAnd (bV (mCmp (gI fun i j => decide (i ≤ j)) (mCal (gLen) (aCons (mV (mN 1)) aNil)) (mK (.int 5)))) (mCal (g1 fAll) (aCons (mV (mLc (iOf (mN 1)) (gNm 2) ttY (mCall semS_is_number (aCons (mV (mN 2)) aNil)) [2])) aNil))))) sNil) (sRet (eOr (bV (mCmp gIsN (mN 1) (mK .none))) (mCall semS_is_number (aCons (mV (mN 1)) aNil))))))
noncomputable def semS_has_number : Fs := bodyF 3 2 sbS_has_number
noncomputable def sbS_has_form : Sv := (sSeq (sIf (bOr (bNot (mTru (mIsi "tuple" (mN 0)))) (bOr (mCmp gEq (mN 0) (mTup aNil)) (bNot (mTru (mIsi "str" (mBin fIx (mN 0) (mK (.int 0)))))))) (sRet (mK (.bool false))) sNil) (sSeq (sIf (mCmp gNe (mTabG [("call", 5), ("wait", 2), ("then", 3), ("fallback", 4), ("retry", 3), ("timeout", 3), ("race", 4), ("hedge", 4), ("both", 3)] (mBin fIx (mN 0) (mK (.int 0)))) (mCal (gLen) (aCons (mV (mN 0)) aNil))) (sRet (mK (.bool false))) sNil) (sSeq (sIf (mCmp gEq (mBin fIx (mN 0) (mK (.int 0))) (mK (.str "call"))) (sRet (mCall semS_is_call (aCons (mV (mN 0)) aNil))) sNil) (sRet (eOr (bV (mCmp (gIn true) (mBin fIx (mN 0) (mK (.int 0))) (mK (.tuple [.str "wait", .str "retry", .str "fallback", .str "timeout", .str "race", .str "hedge"])))) (mCall semS_has_number (aCons (mV (mBin fIx (mN 0) (mK (.int 0)))) (aCons (mV (mBin fIx (mN 0) (mK (.int 1)))) aNil))))))))
noncomputable def semS_has_form : Fs := bodyF 1 1 sbS_has_form
noncomputable def sbS_is_policy : Sv := (sSeq (sPar [1, 2, 3] (aCons (mVc (mLst (aCons (mV (mTup (aCons (mV (mN 0)) (aCons (mV (mK (.int 1))) aNil)))) aNil))) (aCons (mVc mD0) (aCons (mV (mK (.int 0))) aNil)))) (sSeq (whGo (mCmp gNe (mN 1) (mLst aNil)) (sSeq (sAsg (gTp 2 (gCons9 (gNm 4) (gCons9 (gNm 5) gNil9))) (mV (mPop (mN 1)))) (sSeq (sAugI 3 (mK (.int 1))) (sSeq (sIf (bOr (mCmp (gI fun i j => decide (j < i)) (mN 3) (mK (.int 40))) (bOr (mCmp (gI fun i j => decide (j < i)) (mN 5) (mK (.int 20))) (bNot (mTru (mCall semS_has_form (aCons (mV (mN 4)) aNil)))))) (sRet (mK (.bool false))) sNil) (sSeq (sIf (mCmp gEq (mBin fIx (mN 4) (mK (.int 0))) (mK (.str "call"))) (sSeq (sIf (mCmp (gInD false) (mBin fIx (mN 4) (mK (.int 1))) (mN 2)) (sRet (mK (.bool false))) sNil) (sDput (mN 2) (mBin fIx (mN 4) (mK (.int 1))) (mK (.bool true)))) sNil) (sExp (mExt (mN 1) (mLc (iOf (mCall semP_inner (aCons (mV (mN 4)) aNil))) (gNm 6) ttY (mTup (aCons (mV (mN 6)) (aCons (mV (mBin fAdd (mN 5) (mK (.int 1)))) aNil))) [6]))))))) 1048576) (sRet (mK (.bool true)))))
noncomputable def semS_is_policy : Fs := bodyF 7 1 sbS_is_policy
noncomputable def sbS_is_index : Sv := (sRet (eAnd (mIsi "int" (mN 0)) (eAnd (eNot (mIsi "bool" (mN 0))) (bV (mChn (gI fun i j => decide (i ≤ j)) (gI fun i j => decide (i < j)) (mK (.int 0)) (mN 0) (mN 1))))))
noncomputable def semS_is_index : Fs := bodyF 2 2 sbS_is_index
noncomputable def sbS_check_part : Sv := (sSeq (sIf (bNot (mTru (mIsi "tuple" (mN 1)))) (sRaise1 "NoPart" "value" (aCons (mV (mN 1)) aNil)) sNil) (sSeq (sAsg (gNm 2) (mV (mN 0))) (sFor (iOf (mN 1)) (gNm 3) (sSeq (sAsg (gNm 4) (mV (mCall semP_inner (aCons (mV (mN 2)) aNil)))) (sSeq (sIf (bNot (mTru (mCall semS_is_index (aCons (mV (mN 3)) (aCons (mV (mCal (gLen) (aCons (mV (mN 4)) aNil))) aNil))))) (sRaise1 "NoPart" "value" (aCons (mV (mN 1)) aNil)) sNil) (sAsg (gNm 2) (mV (mBin fIx (mN 4) (mN 3)))))))))
noncomputable def semS_check_part : Fs := bodyF 5 2 sbS_check_part
noncomputable def sbS_part_at : Sv := (sSeq (sExp (mCall semS_check_part (aCons (mV (mN 0)) (aCons (mV (mN 1)) aNil)))) (sSeq (sAsg (gNm 2) (mV (mN 0))) (sSeq (sFor (iOf (mN 1)) (gNm 3) (sAsg (gNm 2) (mV (mBin fIx (mCall semP_inner (aCons (mV (mN 2)) aNil)) (mN 3))))) (sRet (mN 2)))))
noncomputable def semS_part_at : Fs := bodyF 4 2 sbS_part_at
noncomputable def sbS_with_inner : Sv := (sRet (mBin fAdd (mSl (mN 0) oNone (oSome (mBin (fI (fun _ _ => true) fun i j => i - j) (mCal (gLen) (aCons (mV (mN 0)) aNil)) (mCal (gLen) (aCons (mV (mN 1)) aNil))))) (mCal (g1 fTuple) (aCons (mV (mN 1)) aNil))))
noncomputable def semS_with_inner : Fs := bodyF 2 2 sbS_with_inner
noncomputable def sbS_put_at (sem : Fs) : Sv := (sSeq (sIf (mCmp gEq (mN 1) (mTup aNil)) (sRet (mN 2)) sNil) (sSeq (sAsg (gNm 3) (mVc (mCal (g1 fList) (aCons (mV (mCall semP_inner (aCons (mV (mN 0)) aNil))) aNil)))) (sSeq (sAsg (gPl (mN 3) (mBin fIx (mN 1) (mK (.int 0)))) (mV (mCall sem (aCons (mV (mBin fIx (mN 3) (mBin fIx (mN 1) (mK (.int 0))))) (aCons (mV (mSl (mN 1) (oSome (mK (.int 1))) oNone)) (aCons (mV (mN 2)) aNil)))))) (sRet (mCall semS_with_inner (aCons (mV (mN 0)) (aCons (mV (mN 3)) aNil)))))))
noncomputable def semS_put_at : Nat → Fs
  | 0 => fun _ _ => .no
  | n + 1 => bodyF 4 3 (sbS_put_at (semS_put_at n))
noncomputable def sbS_check_policy : Sv := (sIf (bNot (mTru (mCall semS_is_policy (aCons (mV (mN 0)) aNil)))) (sRaise1 "InvalidPolicy" "value" (aCons (mV (mN 0)) aNil)) sNil)
noncomputable def semS_check_policy : Fs := bodyF 1 1 sbS_check_policy
noncomputable def sbS_replaced : Sv := (sSeq (sExp (mCall semS_check_part (aCons (mV (mN 0)) (aCons (mV (mN 1)) aNil)))) (sSeq (sAsg (gNm 3) (mV (mCall (semS_put_at 25) (aCons (mV (mN 0)) (aCons (mV (mN 1)) (aCons (mV (mN 2)) aNil)))))) (sSeq (sExp (mCall semS_check_policy (aCons (mV (mN 3)) aNil))) (sRet (mN 3)))))
noncomputable def semS_replaced : Fs := bodyF 4 3 sbS_replaced
noncomputable def sbS_with_number : Sv := (sSeq (sAsg (gNm 3) (mV (mCall semS_part_at (aCons (mV (mN 0)) (aCons (mV (mN 1)) aNil))))) (sSeq (sIf (mCmp (gIn true) (mBin fIx (mN 3) (mK (.int 0))) (mK (.tuple [.str "wait", .str "retry", .str "fallback", .str "timeout", .str "race", .str "hedge"]))) (sRaise1 "NoPart" "value" (aCons (mV (mN 1)) aNil)) sNil) (sRet (mCall semS_replaced (aCons (mV (mN 0)) (aCons (mV (mN 1)) (aCons (mV (mBin fAdd (mTup (aCons (mV (mBin fIx (mN 3) (mK (.int 0)))) (aCons (mV (mN 2)) aNil))) (mSl (mN 3) (oSome (mK (.int 2))) oNone))) aNil)))))))
noncomputable def semS_with_number : Fs := bodyF 4 3 sbS_with_number
noncomputable def sbS_all_paths (sem : Fs) : Sv := (sSeq (sAsg (gNm 1) (mVc (mLst (aCons (mV (mTup aNil)) aNil)))) (sSeq (sFor (iEn (aCons (mV (mCall semP_linner (aCons (mV (mN 0)) aNil))) aNil)) (gTp 2 (gCons9 (gNm 2) (gCons9 (gNm 3) gNil9))) (sExp (mExt (mN 1) (mLc (iOf (mCall sem (aCons (mV (mN 3)) aNil))) (gNm 4) ttY (mBin fAdd (mTup (aCons (mV (mN 2)) aNil)) (mN 4)) [4])))) (sRet (mN 1))))
noncomputable def semS_all_paths : Nat → Fs
  | 0 => fun _ _ => .no
  | n + 1 => bodyF 5 1 (sbS_all_paths (semS_all_paths n))
noncomputable def sbS_part : Sv := (sSeq (sFor (iOf (mN 1)) (gNm 2) (sAsg (gNm 0) (mV (mBin fIx (mCall semP_linner (aCons (mV (mN 0)) aNil)) (mN 2))))) (sRet (mN 0)))
noncomputable def semS_part : Fs := bodyF 3 2 sbS_part
noncomputable def sbS_lput (sem : Fs) : Sv := (sSeq (sIf (mCmp gEq (mN 1) (mTup aNil)) (sRet (mN 2)) sNil) (sSeq (sAsg (gNm 3) (mVc (mCal (g1 fList) (aCons (mV (mCall semP_linner (aCons (mV (mN 0)) aNil))) aNil)))) (sSeq (sAsg (gPl (mN 3) (mBin fIx (mN 1) (mK (.int 0)))) (mV (mCall sem (aCons (mV (mBin fIx (mN 3) (mBin fIx (mN 1) (mK (.int 0))))) (aCons (mV (mSl (mN 1) (oSome (mK (.int 1))) oNone)) (aCons (mV (mN 2)) aNil)))))) (sRet (mBin fAdd (mSl (mN 0) oNone (oSome (mBin (fI (fun _ _ => true) fun i j => i - j) (mCal (gLen) (aCons (mV (mN 0)) aNil)) (mCal (gLen) (aCons (mV (mN 3)) aNil))))) (mCal (g1 fTuple) (aCons (mV (mN 3)) aNil)))))))
noncomputable def semS_lput : Nat → Fs
  | 0 => fun _ _ => .no
  | n + 1 => bodyF 4 3 (sbS_lput (semS_lput n))
section
variable {st : Sto} {P : Rv → Sto → Prop} {E : Er → Sto → Prop}
def SIG : Str := Str.ofString "abcdefghijklmnopqrstuvwxyz0123456789"
structure IsLab (x : Str) : Prop where
  lo : 1 ≤ x.length
  hi : x.length ≤ 8
  sg : ∀ c ∈ x.cps.toList, c ∈ SIG.cps.toList
@[simp] theorem kb_str_str : kitB "str" "str" = some true := by decide +kernel
@[simp] theorem kb_tuple_tuple : kitB "tuple" "tuple" = some true := by decide +kernel
@[simp] theorem kb_int_int : kitB "int" "int" = some true := by decide +kernel
@[simp] theorem kb_int_bool : kitB "int" "bool" = some false := by decide +kernel
@[simp] theorem kb_bool_bool : kitB "bool" "bool" = some true := by decide +kernel
@[simp] theorem kb_bool_int : kitB "bool" "int" = some true := by decide +kernel
@[simp] theorem kb_str_tuple : kitB "str" "tuple" = some false := by decide +kernel
@[simp] theorem kb_str_int : kitB "str" "int" = some false := by decide +kernel
@[simp] theorem kb_tuple_str : kitB "tuple" "str" = some false := by decide +kernel
@[simp] theorem kb_tuple_int : kitB "tuple" "int" = some false := by decide +kernel
@[simp] theorem kb_NoneType_int : kitB "NoneType" "int" = some false := by decide +kernel
@[simp] theorem kb_NoneType_tuple : kitB "NoneType" "tuple" = some false := by decide +kernel
@[simp] theorem kb_NoneType_str : kitB "NoneType" "str" = some false := by decide +kernel
@[simp] theorem kb_list_tuple : kitB "list" "tuple" = some false := by decide +kernel
@[simp] theorem kb_int_tuple : kitB "int" "tuple" = some false := by decide +kernel
@[simp] theorem kb_int_str : kitB "int" "str" = some false := by decide +kernel
@[simp] theorem fLen_s (x : Str) : fLen (.str x) = if x.length ≤ sizeLine then some (.d (.int x.length)) else none := rfl
@[simp] theorem srcOf_s (x : Str) : srcOf st (.d (.str x)) = some (signs x, none) := rfl
@[simp] theorem tyD_s (x : Str) : tyD (.str x) = "str" := rfl
@[simp] theorem tyD_t (x : List PyData) : tyD (.tuple x) = "tuple" := rfl
@[simp] theorem tyD_i (x : Int) : tyD (.int x) = "int" := rfl
@[simp] theorem tyD_b (x : Bool) : tyD (.bool x) = "bool" := rfl
@[simp] theorem tyD_n : tyD .none = "NoneType" := rfl
@[simp] theorem truD_bS (b : Bool) : truD (.bool b) = some b := rfl
theorem fAll_trues {n : Nat} {α : Type} (l : List α) : fAll (.list (l.map fun _ => PyData.bool true)) = some (.d (.bool true)) := by
  have : l.map (fun _ => PyData.bool true) = List.replicate l.length (.bool true) := List.map_const'
  rw [this]; exact fAll_true _
theorem w_is_label {x : Str} (hx : IsLab x) (h : P (.d (.bool true)) st) : WVe noE (semS_is_label [.d (.str x)] st) P := by
  unfold semS_is_label sbS_is_label
  rw [W_body]
  have h1 := hx.lo
  have h2 := hx.hi
  have h3 : (1 : Int) ≤ x.length := by omega
  have h4 : (x.length : Int) ≤ 8 := by omega
  have h5 : x.length ≤ 16777216 := by omega
  simp [szl, h3, h4, h5]
  have hsl : (signs x).length ≤ sizeLine := by unfold signs; rw [List.length_map, szl]; exact h5
  refine lc_map (fun _ => .bool true) (fun d hd => ?_) hsl ?_
  · unfold signs at hd
    obtain ⟨c, hc, rfl⟩ := List.mem_map.mp hd
    have := hx.sg c hc
    simp [wipeE, gInS]
    exact Array.mem_toList_iff.mp this
  · rw [fAll_trues (n := 0)]
    exact h
theorem w_is_num {i : Int} (h0 : 0 ≤ i) (h1 : i ≤ 1000000000) (h : P (.d (.bool true)) st) : WVe noE (semS_is_number [.d (.int i)] st) P := by
  unfold semS_is_number sbS_is_number
  rw [W_body]
  simp [h0, h1]
  exact h
def SpOk : Span → Prop
  | none => True
  | some p => 0 ≤ p.1 ∧ p.1 ≤ p.2 ∧ p.2 ≤ 1000000000
theorem w_is_span {p : Int × Int} (hp : SpOk (some p)) (h : P (.d (.bool true)) st) : WVe noE (semS_is_span [.d (spD (some p))] st) P := by
  obtain ⟨h0, h1, h2⟩ := hp
  unfold semS_is_span sbS_is_span
  rw [W_body]
  have h3 : p.1 ≤ 1000000000 := by omega
  have h4 : 0 ≤ p.2 := by omega
  simp [spD]
  refine lc_map (fun _ => .bool true) (fun d hd => ?_) (by simp [szl]) ?_
  · simp at hd
    rcases hd with rfl | rfl
    · simp [wipeE]
      exact w_is_num h0 h3 (by simp)
    · simp [wipeE]
      exact w_is_num h4 h2 (by simp)
  · rw [fAll_trues (n := 0)]
    simp [truD, h1]
    exact h
/-- what a policy's node keeps -/
def NuOk : Option Int → Prop
  | none => True
  | some n => 0 ≤ n ∧ n ≤ 1000000000
def Pol.Node : Pol → Prop
  | .call l g b h => IsLab l ∧ SpOk g ∧ SpOk b ∧ (h = true ∨ g ≠ none ∨ b ≠ none)
  | .wait n => 0 ≤ n ∧ n ≤ 1000000000
  | .two _ _ _ => True
  | .num _ n _ _ => NuOk n
  | .retry ps _ => ps.length ≤ 5 ∧ ∀ x ∈ ps, 0 ≤ x ∧ x ≤ 1000000000
  | .tmo n _ => NuOk n
def Pol.All (Q : Pol → Prop) : Pol → Prop
  | .call l g b h => Q (.call l g b h)
  | .wait n => Q (.wait n)
  | .two k a b => Q (.two k a b) ∧ a.All Q ∧ b.All Q
  | .num k n a b => Q (.num k n a b) ∧ a.All Q ∧ b.All Q
  | .retry ps a => Q (.retry ps a) ∧ a.All Q
  | .tmo n a => Q (.tmo n a) ∧ a.All Q
theorem Pol.All.top {Q : Pol → Prop} {p : Pol} (h : p.All Q) : Q p := by
  cases p <;> first | exact h | exact h.1
theorem Pol.All.inn {Q : Pol → Prop} {p q : Pol} (h : p.All Q) (hq : q ∈ p.inn) : q.All Q := by
  cases p with
  | call _ _ _ _ => cases hq
  | wait _ => cases hq
  | two k a b => simp [Pol.inn] at hq; rcases hq with rfl | rfl; exact h.2.1; exact h.2.2
  | num k n a b => simp [Pol.inn] at hq; rcases hq with rfl | rfl; exact h.2.1; exact h.2.2
  | retry ps a => simp [Pol.inn] at hq; subst hq; exact h.2
  | tmo n a => simp [Pol.inn] at hq; subst hq; exact h.2
theorem w_is_call {l : Str} {g b : Span} {hh : Bool} (hn : (Pol.call l g b hh).Node) (h : P (.d (.bool true)) st) : WVe noE (semS_is_call [.d (Pol.call l g b hh).pd] st) P := by
  obtain ⟨h1, h2, h3, h4⟩ := hn
  unfold semS_is_call sbS_is_call
  rw [W_body]
  simp [Pol.pd]
  refine w_is_label h1 ?_
  simp [truD, szl]
  refine lc_map (ds := [spD g, spD b]) (fun _ => .bool true) (fun d hd => ?_) (by simp [szl]) ?_
  · simp at hd
    rcases hd with rfl | rfl
    · cases g with
      | none => simp [wipeE, spD, gIsN]
      | some p => simp [wipeE, gIsN]; simp [spD]; exact w_is_span h2 (by simp)
    · cases b with
      | none => simp [wipeE, spD, gIsN]
      | some p => simp [wipeE, gIsN]; simp [spD]; exact w_is_span h3 (by simp)
  · rw [fAll_trues (n := 0)]
    cases hh with
    | true => simp [truD]; exact h
    | false =>
      cases g with
      | some p => simp [truD, spD, gNotN]; exact h
      | none =>
        cases b with
        | some p => simp [truD, spD, gNotN]; exact h
        | none => simp at h4
theorem w_has_number_opt {k : String} {n : Option Int} (hk : k = "fallback" ∨ k = "timeout" ∨ k = "race" ∨ k = "hedge") (hn : NuOk n) (h : P (.d (.bool true)) st) : WVe noE (semS_has_number [.d (.str (Str.ofString k)), .d (nuD n)] st) P := by
  unfold semS_has_number sbS_has_number
  rw [W_body]
  have e1 : (k = "wait") = False := by rcases hk with rfl | rfl | rfl | rfl <;> simp
  have e2 : (k = "retry") = False := by rcases hk with rfl | rfl | rfl | rfl <;> simp
  cases n with
  | none => simp [nuD, e1, e2, gIsN]; exact h
  | some n => simp [nuD, e1, e2, gIsN]; exact w_is_num hn.1 hn.2 (by simpa using h)
theorem w_has_number_wait {n : Int} (h0 : 0 ≤ n) (h1 : n ≤ 1000000000) (h : P (.d (.bool true)) st) : WVe noE (semS_has_number [.d (.str (Str.ofString "wait")), .d (.int n)] st) P := by
  unfold semS_has_number sbS_has_number
  rw [W_body]
  simp
  exact w_is_num h0 h1 (by simpa using h)
theorem w_has_number_retry {ps : List Int} (hl : ps.length ≤ 5) (hx : ∀ x ∈ ps, 0 ≤ x ∧ x ≤ 1000000000) (h : P (.d (.bool true)) st) : WVe noE (semS_has_number [.d (.str (Str.ofString "retry")), .d (.tuple (ps.map PyData.int))] st) P := by
  unfold semS_has_number sbS_has_number
  rw [W_body]
  have hl' : (ps.length : Int) ≤ 5 := by omega
  simp [hl']
  refine lc_map (fun _ => .bool true) (fun d hd => ?_) (by simp [szl]; omega) ?_
  · obtain ⟨x, hx', rfl⟩ := List.mem_map.mp hd
    simp [wipeE]
    exact w_is_num (hx x hx').1 (hx x hx').2 (by simp)
  · rw [fAll_trues (n := 0)]
    simp
    exact h
theorem shp_pol {ds : List PyData} (h : ∀ d ∈ ds, okS d ∧ d.depth ≤ 50) : gEq (.tuple ds) (.tuple []) = some ds.isEmpty := by
  have e := gEq_at (a := .tuple ds) (b := .tuple []) (okSs_of fun d hd => (h d hd).1) trivial (by
    show PyData.depthAll ds + 1 ≤ 64
    have := depthAll_le (B := 50) (ds := ds) fun d hd => (h d hd).2
    omega) (by decide)
  rw [e]
  cases ds with
  | nil => rfl
  | cons _ _ => rfl
/-- a policy's texts and numbers can be shown and compared -/
theorem Pol.okS : ∀ {p : Pol}, p.All Pol.Node → Cp.okS p.pd
  | .call l g b h, hn => by
    obtain ⟨h1, h2, h3, h4⟩ := hn
    have sp : ∀ g : Span, SpOk g → Cp.okS (spD g) := fun g hg => by
      cases g with
      | none => trivial
      | some p => exact ⟨log_small (k := 40) (by have := hg.1; have := hg.2; omega) (by decide), log_small (k := 40) (by have := hg.1; have := hg.2; omega) (by decide), trivial⟩
    refine ⟨sgn_ofS _, ?_, sp g h2, sp b h3, trivial, trivial⟩
    intro c hc
    have hz := h1.sg c hc
    exact sgn_ofS _ c hz
  | .wait n, hn => ⟨sgn_ofS _, log_small (k := 40) (by have := hn.1; have := hn.2; omega) (by decide), trivial⟩
  | .two k a b, hn => ⟨sgn_ofS _, Pol.okS hn.2.1, Pol.okS hn.2.2, trivial⟩
  | .num k n a b, hn => ⟨sgn_ofS _, (by
    cases n with
    | none => trivial
    | some n => exact log_small (k := 40) (by have := hn.1.1; have := hn.1.2; omega) (by decide)), Pol.okS hn.2.1, Pol.okS hn.2.2, trivial⟩
  | .retry ps a, hn => ⟨sgn_ofS _, (okSs_of fun d hd => by
      obtain ⟨x, hx, rfl⟩ := List.mem_map.mp hd
      exact log_small (k := 40) (by have := hn.1.2 x hx; omega) (by decide)), Pol.okS hn.2, trivial⟩
  | .tmo n a, hn => ⟨sgn_ofS _, (by
    cases n with
    | none => trivial
    | some n => exact log_small (k := 40) (by have := hn.1.1; have := hn.1.2; omega) (by decide)), Pol.okS hn.2, trivial⟩
theorem Pol.pd_depth : ∀ p : Pol, p.pd.depth ≤ p.depth + 1
  | .call l g b h => by
    have sp : ∀ g : Span, (spD g).depth ≤ 1 := fun g => by cases g <;> first | exact Nat.zero_le _ | exact Nat.le_refl _
    show PyData.depthAll [.str _, .str l, spD g, spD b, .bool h] + 1 ≤ 2
    have := sp g
    have := sp b
    simp [PyData.depthAll, PyData.depth]; omega
  | .wait n => by show PyData.depthAll [.str _, .int n] + 1 ≤ 2; simp [PyData.depthAll, PyData.depth]
  | .two k a b => by
    show PyData.depthAll [.str _, a.pd, b.pd] + 1 ≤ _
    have := a.pd_depth
    have := b.pd_depth
    simp [PyData.depthAll, PyData.depth, Pol.depth]; omega
  | .num k n a b => by
    show PyData.depthAll [.str _, nuD n, a.pd, b.pd] + 1 ≤ _
    have := a.pd_depth
    have := b.pd_depth
    have : (nuD n).depth = 0 := by cases n <;> rfl
    simp [PyData.depthAll, PyData.depth, Pol.depth]; omega
  | .retry ps a => by
    show PyData.depthAll [.str _, .tuple (ps.map PyData.int), a.pd] + 1 ≤ _
    have := a.pd_depth
    have h0 : PyData.depthAll (ps.map PyData.int) ≤ 0 := depthAll_le fun d hd => by
      obtain ⟨x, _, rfl⟩ := List.mem_map.mp hd; exact Nat.le_refl _
    have h1 : a.depth ≥ 1 := by cases a <;> simp [Pol.depth] <;> omega
    have : (PyData.tuple (ps.map PyData.int)).depth = PyData.depthAll (ps.map PyData.int) + 1 := rfl
    simp [PyData.depthAll, PyData.depth, Pol.depth]; omega
  | .tmo n a => by
    show PyData.depthAll [.str _, nuD n, a.pd] + 1 ≤ _
    have := a.pd_depth
    have : (nuD n).depth = 0 := by cases n <;> rfl
    simp [PyData.depthAll, PyData.depth, Pol.depth]; omega
theorem pd_nil {p : Pol} (hn : p.All Pol.Node) (hd : p.depth ≤ 48) : ∀ ds, p.pd = .tuple ds → gEq (.tuple ds) (.tuple []) = some false := fun ds e => by
  have h1 := Pol.okS hn
  rw [e] at h1
  have h2 := p.pd_depth
  rw [e] at h2
  have h3 : PyData.depthAll ds + 1 ≤ p.depth + 1 := h2
  have := gEq_at (a := .tuple ds) (b := .tuple []) h1 trivial (by show PyData.depthAll ds + 1 ≤ 64; omega) (by decide)
  rw [this]
  obtain ⟨r, er⟩ := inn_pd p
  rw [e] at er
  cases er
  rfl
theorem w_has_form {p : Pol} (hn : p.All Pol.Node) (hd : p.depth ≤ 48) (h : P (.d (.bool true)) st) : WVe noE (semS_has_form [.d p.pd] st) P := by
  unfold semS_has_form sbS_has_form
  rw [W_body]
  have hz := pd_nil hn hd
  have ht := hn.top
  cases p with
  | call l g b hh =>
    have e := hz _ rfl
    simp [Pol.pd] at e ⊢
    simp [e]
    exact w_is_call (l := l) ht (by simpa using h)
  | wait n =>
    have e := hz _ rfl
    simp [Pol.pd] at e ⊢
    simp [e, gIn, itemsD, flatD, eqF]
    exact w_has_number_wait ht.1 ht.2 (by simpa using h)
  | two k a b =>
    have e := hz _ rfl
    cases k <;> simp [Pol.pd, Two.s] at e ⊢ <;> simp [e, gIn, itemsD, flatD, eqF] <;> exact h
  | num k n a b =>
    have e := hz _ rfl
    cases k <;> simp [Pol.pd, Num.s] at e ⊢ <;> simp [e, gIn, itemsD, flatD, eqF] <;> exact w_has_number_opt (by simp) ht (by simpa using h)
  | retry ps a =>
    have e := hz _ rfl
    simp [Pol.pd] at e ⊢
    simp [e, gIn, itemsD, flatD, eqF]
    exact w_has_number_retry ht.1 ht.2 (by simpa using h)
  | tmo n a =>
    have e := hz _ rfl
    simp [Pol.pd] at e ⊢
    simp [e, gIn, itemsD, flatD, eqF]
    exact w_has_number_opt (by simp) ht (by simpa using h)
/-! ### paths -/
def Pol.paths : Pol → List (List Nat)
  | .call _ _ _ _ => [[]]
  | .wait _ => [[]]
  | .two _ a b => [] :: (a.paths.map (0 :: ·) ++ b.paths.map (1 :: ·))
  | .num _ _ a b => [] :: (a.paths.map (0 :: ·) ++ b.paths.map (1 :: ·))
  | .retry _ a => [] :: a.paths.map (0 :: ·)
  | .tmo _ a => [] :: a.paths.map (0 :: ·)
def paD (q : List Nat) : PyData := .tuple (q.map fun (n : Nat) => .int (n : Int))
theorem Pol.paths_len : ∀ p : Pol, p.paths.length = p.size
  | .call _ _ _ _ => rfl
  | .wait _ => rfl
  | .two _ a b => by simp [Pol.paths, Pol.size, a.paths_len, b.paths_len]; omega
  | .num _ _ a b => by simp [Pol.paths, Pol.size, a.paths_len, b.paths_len]; omega
  | .retry _ a => by simp [Pol.paths, Pol.size, a.paths_len]; omega
  | .tmo _ a => by simp [Pol.paths, Pol.size, a.paths_len]; omega
theorem Pol.paths_short : ∀ (p : Pol), ∀ q ∈ p.paths, q.length + 1 ≤ p.depth
  | .call _ _ _ _, q, h => by simp [Pol.paths] at h; subst h; simp [Pol.depth]
  | .wait _, q, h => by simp [Pol.paths] at h; subst h; simp [Pol.depth]
  | .two _ a b, q, h => by
    simp [Pol.paths] at h
    rcases h with rfl | ⟨r, hr, rfl⟩ | ⟨r, hr, rfl⟩
    · simp [Pol.depth]
    · have := a.paths_short r hr; simp [Pol.depth]; omega
    · have := b.paths_short r hr; simp [Pol.depth]; omega
  | .num _ _ a b, q, h => by
    simp [Pol.paths] at h
    rcases h with rfl | ⟨r, hr, rfl⟩ | ⟨r, hr, rfl⟩
    · simp [Pol.depth]
    · have := a.paths_short r hr; simp [Pol.depth]; omega
    · have := b.paths_short r hr; simp [Pol.depth]; omega
  | .retry _ a, q, h => by
    simp [Pol.paths] at h
    rcases h with rfl | ⟨r, hr, rfl⟩
    · simp [Pol.depth]
    · have := a.paths_short r hr; simp [Pol.depth]; omega
  | .tmo _ a, q, h => by
    simp [Pol.paths] at h
    rcases h with rfl | ⟨r, hr, rfl⟩
    · simp [Pol.depth]
    · have := a.paths_short r hr; simp [Pol.depth]; omega
@[simp] theorem tq1 (s : Sto) (x : Cl) (t : Sto) : (s ++ (x :: t)).take (s.length + 1) = s ++ [x] := by
  rw [List.take_append, List.take_of_length_le (by omega), Nat.add_sub_cancel_left]; rfl
theorem w_all_paths : ∀ (f : Nat) {p : Pol} {st : Sto} {P : Rv → Sto → Prop}, p.depth ≤ f → p.size ≤ 1000 → p.depth ≤ 100 → P (.c st.length) (st ++ [.l (p.paths.map paD)]) → WVe noE (semS_all_paths f [.d p.pd] st) P
  | 0, p, _, _, h, _, _, _ => by have : 1 ≤ p.depth := by cases p <;> simp [Pol.depth] <;> omega
                                 omega
  | f + 1, p, st, P, hf, hs, hd, h => by
    show WVe noE (bodyF 5 1 (sbS_all_paths (semS_all_paths f)) _ _) P
    unfold sbS_all_paths
    rw [W_body]
    have one : ∀ {a : Pol} {i : Nat} {xs : List PyData} {x y z : Option Vl} {N B C : En → Sto → Prop} {R : Rv → Sto → Prop}, a.depth ≤ f → a.size ≤ 1000 → a.depth ≤ 99 → xs.length ≤ 2000 →
        (∀ x y, N [some (.d p.pd), some (.c st.length), x, y, z] (st ++ [.l (xs ++ (a.paths.map (i :: ·)).map paD)])) →
        WSe noE (sExp (mExt (mN 1) (mLc (iOf (mCall (semS_all_paths f) (aCons (mV (mN 3)) aNil))) (gNm 4) ttY (mBin fAdd (mTup (aCons (mV (mN 2)) aNil)) (mN 4)) [4])) [some (.d p.pd), some (.c st.length), some (.d (.int (i : Int))), some (.d a.pd), z] (st ++ [.l xs])) N B C R := by
      intro a i xs x y z N B C R h1 h2 h3 h4 h5
      simp
      refine w_all_paths f h1 h2 (by omega) ?_
      simp
      refine lc_map (fun d => match d with
        | .tuple ds => .tuple (.int (i : Int) :: ds)
        | d => d) (fun d hd => ?_) (by rw [List.length_map, Pol.paths_len, szl]; omega) ?_
      · obtain ⟨q, hq, rfl⟩ := List.mem_map.mp hd
        have := a.paths_short q hq
        simp [wipeE, paD, szl]
        omega
      · have e : ((a.paths.map paD).map fun d => match d with
          | .tuple ds => PyData.tuple (.int (i : Int) :: ds)
          | d => d) = (a.paths.map (i :: ·)).map paD := by
          rw [List.map_map, List.map_map]; rfl
        rw [e]
        have hl : xs.length + ((a.paths.map (i :: ·)).map paD).length ≤ sizeLine := by
          rw [List.length_map, List.length_map, Pol.paths_len, szl]; omega
        simp only [gr0, tq1, WO_some, fExt, itemsD, if_pos hl]
        rw [List.set_append_right _ _ (Nat.le_refl _), Nat.sub_self]
        exact h5 _ _
    refine ⟨rfl, ?_⟩
    refine seq_cut (fun ρ s => ρ = [some (.d p.pd), some (.c st.length), none, none, none] ∧ s = st ++ [.l [paD []]]) (by simp [szl, paD]) ?_
    rintro ρ s ⟨rfl, rfl⟩
    refine seq_cut (fun ρ s => (∃ x y, ρ = [some (.d p.pd), some (.c st.length), x, y, none]) ∧ s = st ++ [.l (p.paths.map paD)]) ?_ ?_
    · simp
      refine wv_E (w_linner ?_)
      have e0 : ∀ (x : Cl), (st ++ [x]).take (st.length + 1) = st ++ [x] := fun x => tq1 st x []
      cases p with
      | call l g b hh => simp [Pol.inn, enumF, e0, Pol.paths]; rw [forGo_n]; exact ⟨⟨_, _, rfl⟩, rfl⟩
      | wait n => simp [Pol.inn, enumF, e0, Pol.paths]; rw [forGo_n]; exact ⟨⟨_, _, rfl⟩, rfl⟩
      | retry ps a =>
        simp [Pol.depth, Pol.size] at hf hs hd
        simp [Pol.inn, enumF, e0]
        rw [forGo_c]
        simp only [W_gTp, W_gCons, W_gNm, W_gNil, List.set, List.length_cons, List.length_nil, true_and]
        refine one (i := 0) (x := none) (y := none) (by omega) (by omega) (by omega) (by simp) fun x y => ?_
        rw [forGo_n]
        exact ⟨⟨_, _, rfl⟩, by simp [Pol.paths]⟩
      | tmo n a =>
        simp [Pol.depth, Pol.size] at hf hs hd
        simp [Pol.inn, enumF, e0]
        rw [forGo_c]
        simp only [W_gTp, W_gCons, W_gNm, W_gNil, List.set, List.length_cons, List.length_nil, true_and]
        refine one (i := 0) (x := none) (y := none) (by omega) (by omega) (by omega) (by simp) fun x y => ?_
        rw [forGo_n]
        exact ⟨⟨_, _, rfl⟩, by simp [Pol.paths]⟩
      | two k a b =>
        simp [Pol.depth, Pol.size] at hf hs hd
        simp [Pol.inn, enumF, e0]
        rw [forGo_c]
        simp only [W_gTp, W_gCons, W_gNm, W_gNil, List.set, List.length_cons, List.length_nil, true_and]
        refine one (i := 0) (x := none) (y := none) (by omega) (by omega) (by omega) (by simp) fun x y => ?_
        rw [forGo_c]
        simp only [W_gTp, W_gCons, W_gNm, W_gNil, List.set, List.length_cons, List.length_nil, true_and]
        refine one (i := 1) (x := none) (y := none) (by omega) (by omega) (by omega) (by simp [Pol.paths_len]; omega) fun x y => ?_
        rw [forGo_n]
        exact ⟨⟨_, _, rfl⟩, by simp [Pol.paths]⟩
      | num k n a b =>
        simp [Pol.depth, Pol.size] at hf hs hd
        simp [Pol.inn, enumF, e0]
        rw [forGo_c]
        simp only [W_gTp, W_gCons, W_gNm, W_gNil, List.set, List.length_cons, List.length_nil, true_and]
        refine one (i := 0) (x := none) (y := none) (by omega) (by omega) (by omega) (by simp) fun x y => ?_
        rw [forGo_c]
        simp only [W_gTp, W_gCons, W_gNm, W_gNil, List.set, List.length_cons, List.length_nil, true_and]
        refine one (i := 1) (x := none) (y := none) (by omega) (by omega) (by omega) (by simp [Pol.paths_len]; omega) fun x y => ?_
        rw [forGo_n]
        exact ⟨⟨_, _, rfl⟩, by simp [Pol.paths]⟩
    · rintro ρ s ⟨⟨x, y, rfl⟩, rfl⟩
      simp
      exact h
end
end Cp
/-! Ps2: parts at paths. -/
namespace Cp
open PySem L2
section
variable {st : Sto} {P : Rv → Sto → Prop} {E : Er → Sto → Prop}
def stepP (p : Pol) (d : PyData) : Option Pol := match d with
  | .int i => if 0 ≤ i ∧ i < p.inn.length then p.inn[i.toNat]? else none
  | _ => none
def walkP : Pol → List PyData → Option Pol
  | p, [] => some p
  | p, d :: ds => match stepP p d with
    | some q => walkP q ds
    | none => none
def pathP (p : Pol) : PyData → Option Pol
  | .tuple ds => walkP p ds
  | _ => none
def idxB (d : PyData) (n : Nat) : Bool := match d with
  | .int i => decide (0 ≤ i) && decide (i < (n : Int))
  | _ => false
theorem w_is_index (d : PyData) {n : Nat} (hq : isQ d = false) (h : P (.d (.bool (idxB d n))) st) : WVe noE (semS_is_index [.d d, .d (.int (n : Int))] st) P := by
  unfold semS_is_index sbS_is_index
  rw [W_body]
  cases d with
  | int i =>
    simp
    by_cases c : 0 ≤ i
    · simp [c]; simpa [idxB, c] using h
    · simp [c]; simpa [idxB, c] using h
  | dict kvs =>
    simp [hq]
    have : kitB (tyD (.dict kvs)) "int" = some false := kitB_int _
    rw [this]
    exact h
  | bool b => simp; exact h
  | none => simp; exact h
  | str b => simp; exact h
  | tuple b => simp; exact h
  | list b =>
    simp
    have : kitB (tyD (.list b)) "int" = some false := kitB_int _
    rw [this]
    exact h
theorem stepP_idx {p : Pol} {d : PyData} : (idxB d p.inn.length = true ∧ ∃ i : Nat, d = .int (i : Int) ∧ stepP p d = p.inn[i]? ∧ i < p.inn.length) ∨ (idxB d p.inn.length = false ∧ stepP p d = none) := by
  cases d with
  | int i =>
    by_cases c : 0 ≤ i ∧ i < (p.inn.length : Int)
    · refine .inl ⟨by simp [idxB, c], i.toNat, by congr 1; omega, ?_, by omega⟩
      unfold stepP; simp only; rw [if_pos c]
    · refine .inr ⟨?_, by unfold stepP; simp only; rw [if_neg c]⟩
      unfold idxB
      simp only [Bool.and_eq_false_iff, decide_eq_false_iff_not]
      omega
  | _ => exact .inr ⟨rfl, rfl⟩
theorem atI_inn {p : Pol} {i : Nat} (h : i < p.inn.length) : ∃ q, p.inn[i]? = some q ∧ atI (p.inn.map Pol.pd) (i : Int) = some q.pd := by
  refine ⟨p.inn[i], List.getElem?_eq_getElem h, ?_⟩
  rw [atI_at rfl (by rw [List.length_map]; exact h), List.getElem?_map, List.getElem?_eq_getElem h]; rfl
/-- a path is of such -/
def QPath (d : PyData) : Prop := isQ d = false ∧ ∀ ds, d = .tuple ds → ∀ x ∈ ds, isQ x = false
theorem isT_tuple (d : PyData) : isT "tuple" d = match d with
    | .tuple _ => true
    | _ => false := by cases d <;> simp [isT, tyD]
theorem w_check_part {p : Pol} (d : PyData) (hq : QPath d) (h : ∀ q, pathP p d = some q → P (.d .none) st) (he : pathP p d = none → E ⟨Str.ofString "NoPart", some (Str.ofString "value", d)⟩ st) : WVe E (semS_check_part [.d p.pd, .d d] st) P := by
  unfold semS_check_part sbS_check_part
  rw [W_body]
  refine ⟨rfl, ?_⟩
  have hk := kitB_tuple d
  rw [isT_tuple] at hk
  cases d with
  | tuple ds =>
    refine seq_cut (fun ρ s => ρ = [some (.d p.pd), some (.d (.tuple ds)), none, none, none] ∧ st = s) (by simp) ?_
    rintro ρ s ⟨rfl, rfl⟩
    refine seq_cut (fun ρ s' => ρ = [some (.d p.pd), some (.d (.tuple ds)), some (.d p.pd), none, none] ∧ st = s') (by simp) ?_
    rintro ρ s' ⟨rfl, rfl⟩
    rw [W_sFor]
    simp
    have key : ∀ (r all : List PyData) (q : Pol) (x y : Option Vl), (∀ z ∈ r, isQ z = false) → (∀ o, walkP q r = some o → P (.d .none) st) → (walkP q r = none → E ⟨Str.ofString "NoPart", some (Str.ofString "value", .tuple ds)⟩ st) →
        WSe E (forGo (gNm 3) (sSeq (sAsg (gNm 4) (mV (mCall semP_inner (aCons (mV (mN 2)) aNil)))) (sSeq (sIf (bNot (mTru (mCall semS_is_index (aCons (mV (mN 3)) (aCons (mV (mCal (gLen) (aCons (mV (mN 4)) aNil))) aNil))))) (sRaise1 "NoPart" "value" (aCons (mV (mN 1)) aNil)) sNil) (sAsg (gNm 2) (mV (mBin fIx (mN 4) (mN 3)))))) none all r
          [some (.d p.pd), some (.d (.tuple ds)), some (.d q.pd), x, y] st) (fun _ s => P (.d .none) s) (fun _ _ => False) (fun _ _ => False) P := by
      intro r
      induction r with
      | nil => intro all q x y _ h1 _; rw [forGo_n]; exact h1 q rfl
      | cons d r ih =>
        intro all q x y hz h1 h2
        rw [forGo_c]
        simp
        refine wv_E (w_inner ?_)
        simp
        have e : ((q.inn.map Pol.pd).length : Int) = ((q.inn.length : Nat) : Int) := by rw [List.length_map]
        refine wv_E (w_is_index (n := q.inn.length) d (hz d (List.mem_cons_self ..)) ?_)
        rcases stepP_idx (p := q) (d := d) with ⟨g1, i, rfl, g2, g3⟩ | ⟨g1, g2⟩
        · rw [g1]
          obtain ⟨o, g4, g5⟩ := atI_inn g3
          simp [g5]
          refine ih _ o _ _ (fun z hz' => hz z (List.mem_cons_of_mem _ hz')) (fun o' ho => h1 o' ?_) (fun ho => h2 ?_)
          · show (match stepP q (.int (i : Int)) with | some q => walkP q r | none => none) = _
            rw [g2, g4]; exact ho
          · show (match stepP q (.int (i : Int)) with | some q => walkP q r | none => none) = _
            rw [g2, g4]; exact ho
        · rw [g1]
          simp
          refine h2 ?_
          show (match stepP q d with | some q => walkP q r | none => none) = _
          rw [g2]
    exact key ds _ p _ _ (hq.2 ds rfl) h he
  | _ =>
    simp [hq.1, hk]
    exact he rfl
theorem w_part_at {p : Pol} (d : PyData) (hq : QPath d) (h : ∀ q, pathP p d = some q → P (.d q.pd) st) (he : pathP p d = none → E ⟨Str.ofString "NoPart", some (Str.ofString "value", d)⟩ st) : WVe E (semS_part_at [.d p.pd, .d d] st) P := by
  unfold semS_part_at sbS_part_at
  rw [W_body]
  refine ⟨rfl, ?_⟩
  cases e0 : pathP p d with
  | none =>
    rw [W_sSeq]
    simp
    exact w_check_part d hq (fun q e => by rw [e0] at e; cases e) (fun _ => by simpa using he e0)
  | some q =>
    have hfin := h q e0
    refine seq_cut (fun ρ s => ρ = [some (.d p.pd), some (.d d), none, none] ∧ st = s) ?_ ?_
    · simp
      exact w_check_part d hq (fun q _ => by simp) (fun e => by rw [e0] at e; cases e)
    rintro ρ s ⟨rfl, rfl⟩
    obtain ⟨ds, rfl⟩ : ∃ ds, d = .tuple ds := by cases d <;> first | cases e0 | exact ⟨_, rfl⟩
    refine seq_cut (fun ρ s' => ρ = [some (.d p.pd), some (.d (.tuple ds)), some (.d p.pd), none] ∧ st = s') (by simp) ?_
    rintro ρ s' ⟨rfl, rfl⟩
    refine seq_cut (fun ρ s' => (∃ x, ρ = [some (.d p.pd), some (.d (.tuple ds)), some (.d q.pd), x]) ∧ st = s') ?_ ?_
    · rw [W_sFor]
      simp
      have key : ∀ (r all : List PyData) (o : Pol) (x : Option Vl), walkP o r = some q →
          WSe E (forGo (gNm 3) (sAsg (gNm 2) (mV (mBin fIx (mCall semP_inner (aCons (mV (mN 2)) aNil)) (mN 3)))) none all r [some (.d p.pd), some (.d (.tuple ds)), some (.d o.pd), x] st)
            (fun ρ s' => (∃ x, ρ = [some (.d p.pd), some (.d (.tuple ds)), some (.d q.pd), x]) ∧ st = s') (fun _ _ => False) (fun _ _ => False) P := by
        intro r
        induction r with
        | nil => intro all o x hw; cases hw; rw [forGo_n]; exact ⟨⟨_, rfl⟩, rfl⟩
        | cons d r ih =>
          intro all o x hw
          rw [forGo_c]
          simp
          refine wv_E (w_inner ?_)
          rcases stepP_idx (p := o) (d := d) with ⟨_, i, rfl, g2, g3⟩ | ⟨_, g2⟩
          · obtain ⟨o', g4, g5⟩ := atI_inn g3
            simp [g5]
            refine ih _ o' _ ?_
            have hw : (match stepP o (.int (i : Int)) with | some q => walkP q r | none => none) = some q := hw
            rw [g2, g4] at hw; exact hw
          · exfalso
            have hw : (match stepP o d with | some q => walkP q r | none => none) = some q := hw
            rw [g2] at hw; cases hw
      exact key ds _ p _ e0
    · rintro ρ s' ⟨⟨x, rfl⟩, rfl⟩
      simp
      exact hfin
theorem w_part {p q : Pol} {ds : List PyData} (hw : walkP p ds = some q) (h : P (.d q.pd) st) : WVe E (semS_part [.d p.pd, .d (.tuple ds)] st) P := by
  unfold semS_part sbS_part
  rw [W_body]
  refine ⟨rfl, ?_⟩
  refine seq_cut (fun ρ s' => (∃ x, ρ = [some (.d q.pd), some (.d (.tuple ds)), x]) ∧ st = s') ?_ ?_
  · rw [W_sFor]
    simp
    have key : ∀ (r all : List PyData) (o : Pol) (x : Option Vl), walkP o r = some q →
        WSe E (forGo (gNm 2) (sAsg (gNm 0) (mV (mBin fIx (mCall semP_linner (aCons (mV (mN 0)) aNil)) (mN 2)))) none all r [some (.d o.pd), some (.d (.tuple ds)), x] st)
          (fun ρ s' => (∃ x, ρ = [some (.d q.pd), some (.d (.tuple ds)), x]) ∧ st = s') (fun _ _ => False) (fun _ _ => False) P := by
      intro r
      induction r with
      | nil => intro all o x hw; cases hw; rw [forGo_n]; exact ⟨⟨_, rfl⟩, rfl⟩
      | cons d r ih =>
        intro all o x hw
        rw [forGo_c]
        simp
        refine wv_E (w_linner ?_)
        rcases stepP_idx (p := o) (d := d) with ⟨_, i, rfl, g2, g3⟩ | ⟨_, g2⟩
        · obtain ⟨o', g4, g5⟩ := atI_inn g3
          simp [g5]
          refine ih _ o' _ ?_
          have hw : (match stepP o (.int (i : Int)) with | some q => walkP q r | none => none) = some q := hw
          rw [g2, g4] at hw; exact hw
        · exfalso
          have hw : (match stepP o d with | some q => walkP q r | none => none) = some q := hw
          rw [g2] at hw; cases hw
    exact key ds _ p _ hw
  · rintro ρ s' ⟨⟨x, rfl⟩, rfl⟩
    simp
    exact h
/-! ### parts put in place -/
def Pol.hd : Pol → List PyData
  | .call l g b h => [.str "call", .str l, spD g, spD b, .bool h]
  | .wait n => [.str "wait", .int n]
  | .two k _ _ => [.str k.s]
  | .num k n _ _ => [.str k.s, nuD n]
  | .retry ps _ => [.str "retry", .tuple (ps.map PyData.int)]
  | .tmo n _ => [.str "timeout", nuD n]
theorem pd_hd (p : Pol) : p.pd = .tuple (p.hd ++ p.inn.map Pol.pd) := by cases p <;> rfl
def Pol.putX : Pol → List Nat → PyData → PyData
  | _, [], x => x
  | p, i :: q, x => .tuple (p.hd ++ (p.inn.map Pol.pd).set i (match p.inn[i]? with
    | some r => r.putX q x
    | none => .none))
theorem cutT {ds : List PyData} {a : Nat} (h : a ≤ ds.length) : cutD ds none (some (a : Int)) = ds.take a := by
  unfold cutD
  have : HT.sIx ds.length ds.length (some (a : Int)) = a := by
    unfold HT.sIx
    simp
    rw [if_neg (by omega)]; omega
  rw [this]
  show (ds.drop 0).take (a - 0) = _
  simp
theorem w_with_inner {p : Pol} {v : Vl} {xs : List PyData} (hv : view st v = some (.list xs)) (hl : xs.length = p.inn.length) (h : P (.d (.tuple (p.hd ++ xs))) st) : WVe noE (semS_with_inner [.d p.pd, v] st) P := by
  unfold semS_with_inner sbS_with_inner
  rw [W_body]
  have hg : gLen st [v] = some (.d (.int xs.length)) := by
    cases v with
    | d d => cases hv; rfl
    | c i => rw [gLen_c, hv]; rfl
    | s _ => cases hv
    | o x =>
      show g1 fLen st [.o x] = _
      unfold g1
      simp only [hv]; rfl
  have ht : g1 fTuple st [v] = some (.d (.tuple xs)) := by
    cases v with
    | d d => cases hv; rfl
    | c i => rw [g1_c, hv]; rfl
    | s _ => cases hv
    | o x =>
      unfold g1
      simp only [hv]; rfl
  have h2 : p.inn.length ≤ 2 := by cases p <;> simp [Pol.inn]
  have h3 : p.hd.length ≤ 5 := by cases p <;> simp [Pol.hd]
  rw [pd_hd]
  have e1 : ((p.hd.length : Int) + (p.inn.length : Int) - (xs.length : Int)) = ((p.hd.length : Nat) : Int) := by omega
  simp [hg, ht, e1]
  rw [cutT (by simp), List.take_left' rfl]
  simp [szl]
  exact ⟨by omega, h⟩
def Pol.at : Pol → List Nat → Option Pol
  | p, [] => some p
  | p, i :: q => match p.inn[i]? with
    | some r => r.at q
    | none => none
theorem walk_path : ∀ {q : List Nat} {p r : Pol}, p.at q = some r → walkP p (q.map fun (n : Nat) => .int (n : Int)) = some r
  | [], _, _, h => h
  | i :: q, p, r, h => by
    have h : (match p.inn[i]? with | some r => r.at q | none => none) = some r := h
    have hs : stepP p (.int (i : Int)) = p.inn[i]? := by
      unfold stepP
      simp only
      by_cases c : i < p.inn.length
      · rw [if_pos ⟨by omega, by omega⟩]; rfl
      · rw [if_neg (by omega), List.getElem?_eq_none (by omega)]
    show (match stepP p (.int (i : Int)) with | some q' => walkP q' _ | none => none) = some r
    rw [hs]
    cases q1 : p.inn[i]? with
    | none => rw [q1] at h; cases h
    | some o => rw [q1] at h; exact walk_path h
theorem at_depth : ∀ {q : List Nat} {p r : Pol}, p.at q = some r → q.length + r.depth ≤ p.depth
  | [], _, _, h => by cases h; simp
  | i :: q, p, r, h => by
    have h : (match p.inn[i]? with | some r => r.at q | none => none) = some r := h
    cases q1 : p.inn[i]? with
    | none => rw [q1] at h; cases h
    | some o =>
      rw [q1] at h
      have h2 := at_depth h
      have h3 : o ∈ p.inn := List.mem_of_getElem? q1
      have h4 : o.depth + 1 ≤ p.depth := by
        cases p <;> simp [Pol.inn] at h3
        · rcases h3 with rfl | rfl <;> simp [Pol.depth] <;> omega
        · rcases h3 with rfl | rfl <;> simp [Pol.depth] <;> omega
        · subst h3; simp [Pol.depth]; omega
        · subst h3; simp [Pol.depth]; omega
      rw [List.length_cons]; omega
theorem at_small : ∀ {q : List Nat} {p r : Pol}, p.at q = some r → ∀ i ∈ q, i < 2
  | [], _, _, _, i, hi => by cases hi
  | j :: q, p, r, h, i, hi => by
    have h : (match p.inn[j]? with | some r => r.at q | none => none) = some r := h
    cases q1 : p.inn[j]? with
    | none => rw [q1] at h; cases h
    | some o =>
      rw [q1] at h
      rcases List.mem_cons.mp hi with rfl | hi
      · have := (List.getElem?_eq_some_iff.mp q1).1
        have h2 : p.inn.length ≤ 2 := by cases p <;> simp [Pol.inn]
        omega
      · exact at_small h i hi
theorem paD_eq (q : List Nat) (hq : ∀ i ∈ q, i < 1000) : gEq (paD q) (.tuple []) = some q.isEmpty := by
  have := shp_pol (ds := q.map fun (n : Nat) => .int (n : Int)) fun d hd => by
    obtain ⟨n, hn, rfl⟩ := List.mem_map.mp hd
    have := hq n hn
    exact ⟨log_small (k := 40) (by omega) (by decide), Nat.zero_le _⟩
  unfold paD
  rw [this]
  cases q <;> rfl
theorem cutD1 (d : PyData) (ds : List PyData) : cutD (d :: ds) (some 1) none = ds := by
  unfold cutD
  have : HT.sIx (d :: ds).length 0 (some 1) = 1 := by
    rw [show (1 : Int) = ((1 : Nat) : Int) from rfl, HT.sIx_nat]
    simp
  rw [this]
  show ((d :: ds).drop 1).take ((d :: ds).length - 1) = ds
  simp
theorem w_put_at : ∀ (f : Nat) {q : List Nat} {p r : Pol} {x : PyData} {st : Sto} {P : Rv → Sto → Prop}, q.length < f → p.at q = some r → (∀ t, P (.d (p.putX q x)) (st ++ t)) → WVe noE (semS_put_at f [.d p.pd, .d (paD q), .d x] st) P
  | 0, _, _, _, _, _, _, h, _, _ => absurd h (Nat.not_lt_zero _)
  | f + 1, q, p, r, x, st, P, hf, ha, h => by
    show WVe noE (bodyF 4 3 (sbS_put_at (semS_put_at f)) _ _) P
    unfold sbS_put_at
    rw [W_body]
    have e := paD_eq q fun i hi => Nat.lt_of_lt_of_le (at_small ha i hi) (by decide)
    cases q with
    | nil =>
      simp [e]
      have := h []
      simpa [Pol.putX] using this
    | cons i q =>
      have ha2 : (match p.inn[i]? with | some r => r.at q | none => none) = some r := ha
      cases q1 : p.inn[i]? with
      | none => rw [q1] at ha2; cases ha2
      | some o =>
        rw [q1] at ha2
        have hi : i < p.inn.length := (List.getElem?_eq_some_iff.mp q1).1
        have hl : p.inn.length ≤ 2 := by cases p <;> simp [Pol.inn]
        obtain ⟨o', e1, e2⟩ := atI_inn hi
        rw [q1] at e1; cases e1
        have e3 : ixN p.inn.length (i : Int) = some i := by
          unfold ixN
          rw [if_pos (by omega), if_pos (by omega)]; rfl
        have hdo := at_depth ha2
        simp [e]
        refine w_inner ?_
        simp [paD, e2, cutD1]
        refine w_put_at f (q := q) (r := r) (by simp at hf; omega) ha2 fun t => ?_
        rw [List.append_assoc]
        simp [e3]
        refine w_with_inner (xs := (p.inn.map Pol.pd).set i (o.putX q x)) ?_ (by simp) ?_
        · simp
        · have : p.putX (i :: q) x = .tuple (p.hd ++ (p.inn.map Pol.pd).set i (o.putX q x)) := by
            show PyData.tuple (p.hd ++ (p.inn.map Pol.pd).set i (match p.inn[i]? with | some r => r.putX q x | none => .none)) = _
            rw [q1]
          rw [← this]
          simp
          exact h _
end
end Cp
/-! Ps3: is_policy of policies. -/
namespace Cp
open PySem L2
section
variable {st : Sto} {P : Rv → Sto → Prop} {E : Er → Sto → Prop} {ρ : En} {ma : Ev} {PE : Rv → Sto → Prop}
@[simp] theorem W_mPop : WVe E (mPop ma ρ st) PE = WVe E (ma ρ st) fun r s => (match frz r with
    | .c k => (match s[k]? with
      | some (.l xs) => (match xs[xs.length - 1]? with
        | some d => PE (.d d) (s.set k (.l xs.dropLast))
        | none => False)
      | _ => False)
    | _ => False) := by
  unfold mPop; rw [WV_bind, W_mV]
  congr 1; funext r s
  generalize frz r = v
  cases v with
  | c k =>
    simp only [lstAt_c]
    cases s[k]? with
    | none => rfl
    | some c =>
      cases c with
      | m _ => rfl
      | l xs =>
        simp only
        cases xs[xs.length - 1]? <;> rfl
  | _ => rfl
theorem gNe_lnil {ds : List PyData} (h : ∀ d ∈ ds, okS d ∧ d.depth ≤ 60) : gNe (.list ds) (.list []) = some (!ds.isEmpty) := by
  rw [gNe_at (a := .list ds) (b := .list []) (okSs_of fun d hd => (h d hd).1) trivial (by
    show PyData.depthAll ds + 1 ≤ 64
    have := depthAll_le (B := 60) (ds := ds) fun d hd => (h d hd).2
    omega) (by decide)]
  cases ds <;> rfl
def seenD (xs : List Str) : List (PyData × PyData) := xs.map fun x => (.str x, .bool true)
theorem seen_flat (xs : List Str) : flK (seenD xs) = true := by
  unfold flK seenD
  rw [List.all_map]
  exact List.all_eq_true.mpr fun _ _ => rfl
theorem keyE_str (a b : Str) : keyE (.str a) (.str b) = decide (a = b) := by
  unfold keyE keyN
  by_cases h : a = b
  · subst h; simp
  · simp [h]
theorem seen_look (l : Str) : ∀ xs : List Str, l ∉ xs → lookD (seenD xs) (.str l) = none
  | [], _ => rfl
  | x :: xs, h => by
    show (if keyE (.str x) (.str l) = true then _ else lookD (seenD xs) (.str l)) = none
    rw [keyE_str, if_neg (by simpa using fun e => h (by rw [e]; exact List.mem_cons_self ..))]
    exact seen_look l xs fun hx => h (List.mem_cons_of_mem _ hx)
theorem seen_put (l : Str) (xs : List Str) (h : l ∉ xs) : putD (seenD xs) (.str l) (.bool true) = seenD (xs ++ [l]) := by
  unfold putD
  rw [if_neg]
  · unfold seenD; rw [List.map_append]; rfl
  · rw [List.any_eq_true]
    rintro ⟨p, hp, e⟩
    unfold seenD at hp
    obtain ⟨x, hx, rfl⟩ := List.mem_map.mp hp
    rw [keyE_str] at e
    exact h (by rw [← of_decide_eq_true e]; exact hx)
theorem seen_ok (l : Str) (xs : List Str) : okK (seenD xs) (.str l) = true := by
  unfold okK
  rw [seen_flat]; rfl
theorem seen_len (xs : List Str) : (seenD xs).length = xs.length := List.length_map _
/-- a policy that is one -/
structure Pol.Valid (p : Pol) : Prop where
  nd : p.All Pol.Node
  sz : p.size ≤ 40
  dp : p.depth ≤ 20
  lb : p.labs.Nodup
abbrev Stk := List (Pol × Nat)
def stkD (s : Stk) : List PyData := s.map fun x => .tuple [x.1.pd, .int (x.2 : Int)]
def stkS (s : Stk) : Nat := (s.map fun x => x.1.size).sum
theorem stkS_app (a b : Stk) : stkS (a ++ b) = stkS a + stkS b := by unfold stkS; rw [List.map_append, List.sum_append]
def innS (p : Pol) (d : Nat) : Stk := p.inn.map fun q => (q, d)
theorem inn_size (p : Pol) (d : Nat) : stkS (innS p d) + 1 = p.size := by
  cases p <;> simp [innS, stkS, Pol.inn, Pol.size] <;> omega
theorem inn_labs (p : Pol) (d : Nat) (h : p.kind ≠ "call") : (innS p d).flatMap (fun x => x.1.labs) = p.labs := by
  cases p <;> simp [innS, Pol.inn, Pol.labs, Pol.kind] at h ⊢
theorem inn_dp {p q : Pol} (h : q ∈ p.inn) : q.depth + 1 ≤ p.depth := by
  cases p <;> simp [Pol.inn] at h
  · rcases h with rfl | rfl <;> simp [Pol.depth] <;> omega
  · rcases h with rfl | rfl <;> simp [Pol.depth] <;> omega
  · subst h; simp [Pol.depth]; omega
  · subst h; simp [Pol.depth]; omega
theorem dp_pos (p : Pol) : 1 ≤ p.depth := by cases p <;> simp [Pol.depth] <;> omega
/-- the walk's state -/
def Iip (d : PyData) (st : Sto) (tot : Nat) (k : Nat) (ρ : En) (s : Sto) : Prop := ∃ (stk : Stk) (seen : List Str) (many : Nat) (x4 x5 x6 : Option Vl),
  ρ = [some (.d d), some (.c st.length), some (.c (st.length + 1)), some (.d (.int (many : Int))), x4, x5, x6] ∧ s = st ++ [.l (stkD stk), .m (seenD seen)] ∧ k = stkS stk ∧ many + stkS stk ≤ tot ∧ tot ≤ 40 ∧
  (∀ x ∈ stk, x.1.All Pol.Node ∧ x.2 + x.1.depth ≤ 21) ∧ (stk.flatMap (fun x => x.1.labs) ++ seen).Nodup ∧ seen.length ≤ many ∧ stk.length ≤ stkS stk
theorem stk_ok {stk : Stk} (h : ∀ x ∈ stk, x.1.All Pol.Node ∧ x.2 + x.1.depth ≤ 21) : ∀ d ∈ stkD stk, okS d ∧ d.depth ≤ 60 := fun d hd => by
  unfold stkD at hd
  obtain ⟨x, hx, rfl⟩ := List.mem_map.mp hd
  obtain ⟨h1, h2⟩ := h x hx
  refine ⟨⟨Pol.okS h1, log_small (k := 40) (by omega) (by decide), trivial⟩, ?_⟩
  show PyData.depthAll [x.1.pd, .int _] + 1 ≤ 60
  have := x.1.pd_depth
  simp [PyData.depthAll, PyData.depth]
  omega
theorem size_ge (s : Stk) : s.length ≤ stkS s := by
  induction s with
  | nil => exact Nat.le_refl _
  | cons x s ih =>
    have := Pol.size_pos x.1
    unfold stkS at ih ⊢
    rw [List.map_cons, List.sum_cons, List.length_cons]
    omega
@[simp] theorem tq2 (s : Sto) (x y : Cl) (t : Sto) : (s ++ (x :: y :: t)).take (s.length + 2) = s ++ [x, y] := by
  rw [List.take_append, List.take_of_length_le (by omega), Nat.add_sub_cancel_left]; rfl
theorem whGo_two {c : En → Sto → Res Bool} {b : Sv} {N B C : En → Sto → Prop} {R : Rv → Sto → Prop} (I : Nat → En → Sto → Prop) {n m : Nat} (hnm : m < n) (h0 : I m ρ st)
    (hc : ∀ k ρ s, I k ρ s → WVe E (c ρ s) fun t s1 => s1 = s ∧ (t = true → 0 < k) ∧ (t = false → N ρ s)) (hb : ∀ k ρ s, I (k + 1) ρ s → WSe E (b ρ s) (I k) N (I k) R) : WSe E (whGo c b n ρ st) N B C R :=
  whGo_by I n m hnm h0 fun k ρ s hI => WV_mono (hc k ρ s hI) fun t s1 ⟨e, h1, h2⟩ => by
    subst e
    cases t with
    | true =>
      rw [if_pos rfl]
      have := h1 rfl
      obtain ⟨j, rfl⟩ : ∃ j, k = j + 1 := ⟨k - 1, by omega⟩
      exact ⟨j, rfl, hb j ρ s1 hI⟩
    | false => rw [if_neg (by decide)]; exact h2 rfl
theorem w_is_policy {p : Pol} (hv : p.Valid) (h : ∀ t, P (.d (.bool true)) (st ++ t)) : WVe noE (semS_is_policy [.d p.pd] st) P := by
  unfold semS_is_policy sbS_is_policy
  rw [W_body]
  refine ⟨rfl, ?_⟩
  refine seq_cut (Iip p.pd st p.size p.size) ?_ ?_
  · simp [mD0, szl]
    exact ⟨[(p, 1)], [], 0, none, none, none, by simp, by simp [stkD, seenD], by simp [stkS], by simp [stkS], hv.sz, fun x hx => by
      rw [List.mem_singleton] at hx; subst hx; have := hv.dp; exact ⟨hv.nd, by show 1 + p.depth ≤ 21; omega⟩, by simpa using hv.lb, Nat.le_refl _, by have := Pol.size_pos p; simpa [stkS] using this⟩
  intro ρ s hI
  refine seq_cut (fun ρ s => ∃ t, s = st ++ t) ?_ ?_
  · refine whGo_two (Iip p.pd st p.size) (n := 1048576) (m := p.size) (by have := hv.sz; omega) hI ?_ ?_
    · rintro k ρ s ⟨stk, seen, many, x4, x5, x6, rfl, rfl, hk, hm, h40, hall, hnd, hsl, hsz⟩
      have e1 := gNe_lnil (stk_ok hall)
      have e2 : cmp2 gNe (st ++ [Cl.l (stkD stk), .m (seenD seen)]) (.c st.length) (.d (.list [])) = some (!(stkD stk).isEmpty) := by
        rw [cmp2_of (a := .list (stkD stk)) (b := .list []) (by simp) rfl]; exact e1
      simp [e2]
      intro hne
      cases stk with
      | nil => exact absurd rfl hne
      | cons y ys => simp at hsz; omega
    · rintro k ρ s ⟨stk, seen, many, x4, x5, x6, rfl, rfl, hk, hm, h40, hall, hnd, hsl, hsz⟩
      obtain ⟨ys, y, rfl⟩ : ∃ ys y, stk = ys ++ [y] := by
        rcases List.eq_nil_or_concat stk with e | ⟨ys, y, e⟩
        · subst e; simp [stkS] at hk
        · exact ⟨ys, y, by rw [e, List.concat_eq_append]⟩
      obtain ⟨q, dp⟩ := y
      obtain ⟨hq, hdp⟩ := hall (q, dp) (by simp)
      have hq1 := dp_pos q
      have hqs := Pol.size_pos q
      have hsum : stkS (ys ++ [(q, dp)]) = stkS ys + q.size := by rw [stkS_app]; simp [stkS]
      have eD : stkD (ys ++ [(q, dp)]) = stkD ys ++ [.tuple [q.pd, .int (dp : Int)]] := by unfold stkD; rw [List.map_append]; rfl
      simp only at hq hdp
      rw [eD]
      -- part, depth = waiting.pop()
      refine seq_cut (fun ρ s => ρ = [some (.d p.pd), some (.c st.length), some (.c (st.length + 1)), some (.d (.int (many : Int))), some (.d q.pd), some (.d (.int (dp : Int))), x6] ∧ s = st ++ [.l (stkD ys), .m (seenD seen)]) ?_ ?_
      · simp
      rintro ρ s ⟨rfl, rfl⟩
      refine seq_cut (fun ρ s => ρ = [some (.d p.pd), some (.c st.length), some (.c (st.length + 1)), some (.d (.int (many + 1 : Nat))), some (.d q.pd), some (.d (.int (dp : Int))), x6] ∧ s = st ++ [.l (stkD ys), .m (seenD seen)]) ?_ ?_
      · simp
      rintro ρ s ⟨rfl, rfl⟩
      refine seq_cut (fun ρ s => ρ = [some (.d p.pd), some (.c st.length), some (.c (st.length + 1)), some (.d (.int (many + 1 : Nat))), some (.d q.pd), some (.d (.int (dp : Int))), x6] ∧ s = st ++ [.l (stkD ys), .m (seenD seen)]) ?_ ?_
      · have c1 : ¬ ((40 : Int) < (many : Int) + 1) := by omega
        have c2 : ¬ ((20 : Int) < (dp : Int)) := by omega
        simp [c1, c2]
        exact w_has_form hq (by omega) (by simp)
      rintro ρ s ⟨rfl, rfl⟩
      have hlen : (stkD ys).length ≤ 40 := by
        have := size_ge ys
        unfold stkD; rw [List.length_map]; omega
      have hin := inn_size q (dp + 1)
      have hil : q.inn.length ≤ 2 := by cases q <;> simp [Pol.inn]
      -- the last step, by what seen is then
      have fin : ∀ seen' : List Str, seen'.length ≤ many + 1 → (((ys ++ innS q (dp + 1)).flatMap fun x => x.1.labs) ++ seen').Nodup →
          WSe noE ((sExp (mExt (mN 1) (mLc (iOf (mCall semP_inner (aCons (mV (mN 4)) aNil))) (gNm 6) ttY (mTup (aCons (mV (mN 6)) (aCons (mV (mBin fAdd (mN 5) (mK (.int 1)))) aNil))) [6])))
            [some (.d p.pd), some (.c st.length), some (.c (st.length + 1)), some (.d (.int (many + 1 : Nat))), some (.d q.pd), some (.d (.int (dp : Int))), x6] (st ++ [.l (stkD ys), .m (seenD seen')]))
            (Iip p.pd st p.size k) (fun ρ s => ∃ t, s = st ++ t) (Iip p.pd st p.size k) P := by
        intro seen' hs1 hs2
        simp
        refine w_inner ?_
        simp
        refine lc_map (fun d => .tuple [d, .int ((dp + 1 : Nat) : Int)]) (fun d hd => ?_) (by rw [List.length_map, szl]; omega) ?_
        · simp [wipeE, szl]
        · have e3 : ((q.inn.map Pol.pd).map fun d => PyData.tuple [d, .int ((dp + 1 : Nat) : Int)]) = stkD (innS q (dp + 1)) := by
            unfold stkD innS
            rw [List.map_map, List.map_map]; rfl
          rw [e3]
          have hl2 : (stkD ys).length + (stkD (innS q (dp + 1))).length ≤ sizeLine := by
            unfold innS
            rw [szl]; unfold stkD; rw [List.length_map, List.length_map, List.length_map]; unfold stkD at hlen; rw [List.length_map] at hlen; omega
          simp [fExt, itemsD, hl2]
          refine ⟨ys ++ innS q (dp + 1), seen', many + 1, _, _, _, rfl, by unfold stkD; rw [List.map_append], ?_, ?_, h40, ?_, hs2, hs1, size_ge _⟩
          · rw [stkS_app]; omega
          · rw [stkS_app]; omega
          · intro x hx
            rcases List.mem_append.mp hx with hx | hx
            · exact hall x (List.mem_append_left _ hx)
            · unfold innS at hx
              obtain ⟨o, ho, rfl⟩ := List.mem_map.mp hx
              have := inn_dp ho
              exact ⟨hq.inn ho, by show dp + 1 + o.depth ≤ 21; omega⟩
      have hnd1 : (ys.flatMap (fun x => x.1.labs) ++ q.labs ++ seen).Nodup := by
        rw [List.flatMap_append] at hnd
        simpa using hnd
      by_cases hc : q.kind = "call"
      · obtain ⟨l, g, b, hh, rfl⟩ : ∃ l g b hh, q = .call l g b hh := by
          cases q with
          | call l g b hh => exact ⟨l, g, b, hh, rfl⟩
          | two k _ _ => cases k <;> simp [Pol.kind, Two.s] at hc
          | num k _ _ _ => cases k <;> simp [Pol.kind, Num.s] at hc
          | _ => simp [Pol.kind] at hc
        have hnl : l ∉ seen := by
          have := (List.nodup_append.mp hnd1).2.2 l (by simp [Pol.labs])
          exact fun hm => this l hm rfl
        refine seq_cut (fun ρ s => ρ = [some (.d p.pd), some (.c st.length), some (.c (st.length + 1)), some (.d (.int (many + 1 : Nat))), some (.d (Pol.call l g b hh).pd), some (.d (.int (dp : Int))), x6] ∧ s = st ++ [.l (stkD ys), .m (seenD (seen ++ [l]))]) ?_ ?_
        · have hsl' : seen.length < 16777216 := by omega
          have e4 := cmp2_of (st := st ++ [Cl.l (stkD ys), .m (seenD seen)]) (g := gInD false) (x := .d (.str l)) (y := .c (st.length + 1)) (a := .str l) (b := .dict (seenD seen)) rfl (by
            have hg : isGone (.m (seenD seen)) = false := ok_notGone (seen_ok l seen)
            simp [hg])
          rw [gInD_d, if_pos (seen_ok l seen), seen_look l seen hnl] at e4
          simp [Pol.pd, e4, seen_ok, seen_len, szl, hsl', seen_put l seen hnl]
        rintro ρ s ⟨rfl, rfl⟩
        refine fin (seen ++ [l]) (by simp; omega) ?_
        rw [List.flatMap_append]
        have e5 : ((innS (Pol.call l g b hh) (dp + 1)).flatMap fun x => x.1.labs) = [] := rfl
        rw [e5, List.append_nil]
        have hp : ((ys.flatMap fun x => x.1.labs) ++ (seen ++ [l])).Perm (ys.flatMap (fun x => x.1.labs) ++ (Pol.call l g b hh).labs ++ seen) := by
          rw [List.append_assoc]
          exact List.Perm.append_left _ List.perm_append_comm
        exact hp.nodup_iff.mpr hnd1
      · refine seq_cut (fun ρ s => ρ = [some (.d p.pd), some (.c st.length), some (.c (st.length + 1)), some (.d (.int (many + 1 : Nat))), some (.d q.pd), some (.d (.int (dp : Int))), x6] ∧ s = st ++ [.l (stkD ys), .m (seenD seen)]) ?_ ?_
        · obtain ⟨r, er⟩ := inn_pd q
          rw [er]
          simp [hc]
        rintro ρ s ⟨rfl, rfl⟩
        refine fin seen (by omega) ?_
        rw [List.flatMap_append, inn_labs q (dp + 1) hc]
        exact hnd1
  · rintro ρ s ⟨t, rfl⟩
    simp
    exact h t
end
end Cp
/-! Ps4: parts put in place, parts left out. -/
namespace Cp
open PySem L2
section
variable {st : Sto} {P : Rv → Sto → Prop} {E : Er → Sto → Prop}
theorem w_lput : ∀ (f : Nat) {q : List Nat} {p r : Pol} {x : PyData} {st : Sto} {P : Rv → Sto → Prop}, q.length < f → p.at q = some r → (∀ t, P (.d (p.putX q x)) (st ++ t)) → WVe noE (semS_lput f [.d p.pd, .d (paD q), .d x] st) P
  | 0, _, _, _, _, _, _, h, _, _ => absurd h (Nat.not_lt_zero _)
  | f + 1, q, p, r, x, st, P, hf, ha, h => by
    show WVe noE (bodyF 4 3 (sbS_lput (semS_lput f)) _ _) P
    unfold sbS_lput
    rw [W_body]
    have e := paD_eq q fun i hi => Nat.lt_of_lt_of_le (at_small ha i hi) (by decide)
    cases q with
    | nil =>
      simp [e]
      have := h []
      simpa [Pol.putX] using this
    | cons i q =>
      have ha2 : (match p.inn[i]? with | some r => r.at q | none => none) = some r := ha
      cases q1 : p.inn[i]? with
      | none => rw [q1] at ha2; cases ha2
      | some o =>
        rw [q1] at ha2
        have hi : i < p.inn.length := (List.getElem?_eq_some_iff.mp q1).1
        have hl : p.inn.length ≤ 2 := by cases p <;> simp [Pol.inn]
        obtain ⟨o', e1, e2⟩ := atI_inn hi
        rw [q1] at e1; cases e1
        have e3 : ixN p.inn.length (i : Int) = some i := by
          unfold ixN
          rw [if_pos (by omega), if_pos (by omega)]; rfl
        simp [e]
        refine w_linner ?_
        simp [paD, e2, cutD1]
        refine w_lput f (q := q) (r := r) (by simp at hf; omega) ha2 fun t => ?_
        rw [List.append_assoc]
        have h3 : p.hd.length ≤ 5 := by cases p <;> simp [Pol.hd]
        have this : p.putX (i :: q) x = .tuple (p.hd ++ (p.inn.map Pol.pd).set i (o.putX q x)) := by
          show PyData.tuple (p.hd ++ (p.inn.map Pol.pd).set i (match p.inn[i]? with | some r => r.putX q x | none => .none)) = _
          rw [q1]
        have e4 : ((p.hd.length : Int) + (p.inn.length : Int) - (p.inn.length : Int)) = ((p.hd.length : Nat) : Int) := by omega
        rw [pd_hd]
        simp [e3, e4]
        rw [cutT (by simp), List.take_left' rfl]
        simp [szl]
        rw [← this]
        exact ⟨by omega, h _⟩
/-- another policy in the place of a part -/
def Pol.put : Pol → List Nat → Pol → Pol
  | _, [], x => x
  | .two k a b, 0 :: q, x => .two k (a.put q x) b
  | .two k a b, 1 :: q, x => .two k a (b.put q x)
  | .num k n a b, 0 :: q, x => .num k n (a.put q x) b
  | .num k n a b, 1 :: q, x => .num k n a (b.put q x)
  | .retry ps a, 0 :: q, x => .retry ps (a.put q x)
  | .tmo n a, 0 :: q, x => .tmo n (a.put q x)
  | p, _ :: _, _ => p
theorem putX_put : ∀ (q : List Nat) {p r : Pol} (x : Pol), p.at q = some r → p.putX q x.pd = (p.put q x).pd
  | [], p, r, x, _ => by simp [Pol.putX, Pol.put]
  | i :: q, p, r, x, h => by
    have h : (match p.inn[i]? with | some r => r.at q | none => none) = some r := h
    show PyData.tuple (p.hd ++ (p.inn.map Pol.pd).set i (match p.inn[i]? with | some r => r.putX q x.pd | none => .none)) = _
    cases p with
    | call l g b hh => simp [Pol.inn] at h
    | wait n => simp [Pol.inn] at h
    | two k a b =>
      match i, h with
      | 0, h => simp [Pol.inn] at h ⊢; rw [putX_put q x h]; rfl
      | 1, h => simp [Pol.inn] at h ⊢; rw [putX_put q x h]; rfl
      | i + 2, h => simp [Pol.inn] at h
    | num k n a b =>
      match i, h with
      | 0, h => simp [Pol.inn] at h ⊢; rw [putX_put q x h]; rfl
      | 1, h => simp [Pol.inn] at h ⊢; rw [putX_put q x h]; rfl
      | i + 2, h => simp [Pol.inn] at h
    | retry ps a =>
      match i, h with
      | 0, h => simp [Pol.inn] at h ⊢; rw [putX_put q x h]; rfl
      | i + 1, h => simp [Pol.inn] at h
    | tmo n a =>
      match i, h with
      | 0, h => simp [Pol.inn] at h ⊢; rw [putX_put q x h]; rfl
      | i + 1, h => simp [Pol.inn] at h
def Pol.lv : Pol → Bool
  | .num _ n _ _ => n.isSome
  | .tmo n _ => n.isSome
  | .retry ps _ => !ps.isEmpty
  | _ => false
theorem at_node : ∀ (q : List Nat) {p r : Pol}, p.at q = some r → p.All Pol.Node → r.All Pol.Node
  | [], p, r, h, hp => by cases h; exact hp
  | i :: q, p, r, h, hp => by
    have h : (match p.inn[i]? with | some r => r.at q | none => none) = some r := h
    cases q1 : p.inn[i]? with
    | none => rw [q1] at h; cases h
    | some o => rw [q1] at h; exact at_node q h (hp.inn (List.mem_of_getElem? q1))
theorem put_node : ∀ (q : List Nat) {p r x : Pol}, p.at q = some r → p.All Pol.Node → x.All Pol.Node → (p.put q x).All Pol.Node
  | [], p, r, x, h, hp, hx => by simp [Pol.put]; exact hx
  | i :: q, p, r, x, h, hp, hx => by
    have h : (match p.inn[i]? with | some r => r.at q | none => none) = some r := h
    cases p with
    | call l g b hh => simp [Pol.inn] at h
    | wait n => simp [Pol.inn] at h
    | two k a b =>
      match i, h with
      | 0, h => simp [Pol.inn] at h; exact ⟨hp.1, put_node q h hp.2.1 hx, hp.2.2⟩
      | 1, h => simp [Pol.inn] at h; exact ⟨hp.1, hp.2.1, put_node q h hp.2.2 hx⟩
      | i + 2, h => simp [Pol.inn] at h
    | num k n a b =>
      match i, h with
      | 0, h => simp [Pol.inn] at h; exact ⟨hp.1, put_node q h hp.2.1 hx, hp.2.2⟩
      | 1, h => simp [Pol.inn] at h; exact ⟨hp.1, hp.2.1, put_node q h hp.2.2 hx⟩
      | i + 2, h => simp [Pol.inn] at h
    | retry ps a =>
      match i, h with
      | 0, h => simp [Pol.inn] at h; exact ⟨hp.1, put_node q h hp.2 hx⟩
      | i + 1, h => simp [Pol.inn] at h
    | tmo n a =>
      match i, h with
      | 0, h => simp [Pol.inn] at h; exact ⟨hp.1, put_node q h hp.2 hx⟩
      | i + 1, h => simp [Pol.inn] at h
theorem path_at {p r : Pol} {q : List Nat} (h : p.at q = some r) : pathP p (paD q) = some r := walk_path h
theorem qpath_paD (q : List Nat) : QPath (paD q) := ⟨rfl, fun ds e x hx => by
  unfold paD at e
  cases e
  obtain ⟨n, _, rfl⟩ := List.mem_map.mp hx
  rfl⟩
theorem w_check_policy {p : Pol} (hv : p.Valid) (h : ∀ t, P (.d .none) (st ++ t)) : WVe E (semS_check_policy [.d p.pd] st) P := by
  unfold semS_check_policy sbS_check_policy
  rw [W_body]
  simp
  refine wv_E (w_is_policy hv fun t => ?_)
  simp
  simpa using h []
theorem w_replaced {p r x : Pol} {q : List Nat} (ha : p.at q = some r) (hq : q.length < 25) (hv : (p.put q x).Valid) (h : P (.d (p.put q x).pd) st) : WVe E (semS_replaced [.d p.pd, .d (paD q), .d x.pd] st) P := by
  unfold semS_replaced sbS_replaced
  rw [W_body]
  simp
  refine w_check_part _ (qpath_paD q) (fun _ _ => ?_) (fun e => by rw [path_at ha] at e; cases e)
  simp
  refine wv_E (w_put_at 25 hq ha fun t => ?_)
  simp
  rw [putX_put q x ha]
  refine w_check_policy hv fun t => ?_
  simp
  exact h
end
end Cp
/-! Ps5: parts left out. -/
namespace Cp
open PySem L2
section
variable {st : Sto} {P : Rv → Sto → Prop} {E : Er → Sto → Prop}
def pl (p : Pol) (q : List Nat) : Bool := match p.at q with
  | some r => r.lv
  | none => false
theorem paths_at : ∀ (p : Pol), ∀ q ∈ p.paths, ∃ r, p.at q = some r
  | .call _ _ _ _, q, h => by simp [Pol.paths] at h; subst h; exact ⟨_, rfl⟩
  | .wait _, q, h => by simp [Pol.paths] at h; subst h; exact ⟨_, rfl⟩
  | .two _ a b, q, h => by
    simp [Pol.paths] at h
    rcases h with rfl | ⟨r, hr, rfl⟩ | ⟨r, hr, rfl⟩
    · exact ⟨_, rfl⟩
    · exact paths_at a r hr
    · exact paths_at b r hr
  | .num _ _ a b, q, h => by
    simp [Pol.paths] at h
    rcases h with rfl | ⟨r, hr, rfl⟩ | ⟨r, hr, rfl⟩
    · exact ⟨_, rfl⟩
    · exact paths_at a r hr
    · exact paths_at b r hr
  | .retry _ a, q, h => by
    simp [Pol.paths] at h
    rcases h with rfl | ⟨r, hr, rfl⟩
    · exact ⟨_, rfl⟩
    · exact paths_at a r hr
  | .tmo _ a, q, h => by
    simp [Pol.paths] at h
    rcases h with rfl | ⟨r, hr, rfl⟩
    · exact ⟨_, rfl⟩
    · exact paths_at a r hr
end
end Cp
/-! Ps6: drawn policies are policies; what paths look like. -/
namespace Cp
open PySem L2
def isLabB (x : Str) : Bool := decide (1 ≤ x.length) && (decide (x.length ≤ 8) && x.cps.toList.all fun c => SIG.cps.toList.contains c)
theorem isLabB_ok {x : Str} (h : isLabB x = true) : IsLab x := by
  unfold isLabB at h
  simp only [Bool.and_eq_true, decide_eq_true_eq, List.all_eq_true] at h
  exact ⟨h.1, h.2.1, fun c hc => by have := h.2.2 c hc; simpa using this⟩
def stems : List Str := [Str.ofString "", Str.ofString "c", Str.ofString "call"]
theorem labs_all : (stems.all fun s => (List.range 40).all fun k => isLabB (labK s (k + 1))) = true := by decide +kernel
theorem labs_nd : (stems.all fun s => decide (((List.range 40).map fun k => labK s (k + 1)).Nodup)) = true := by decide +kernel
theorem lab_ok {stem : Str} (hs : stem ∈ stems) {k : Nat} (hk : k < 40) : IsLab (labK stem (k + 1)) :=
  isLabB_ok (List.all_eq_true.mp (List.all_eq_true.mp labs_all stem hs) k (List.mem_range.mpr hk))
theorem labs_le : ∀ p : Pol, p.labs.length ≤ p.size
  | .call _ _ _ _ => Nat.le_refl _
  | .wait _ => Nat.zero_le _
  | .two _ a b => by have := labs_le a; have := labs_le b; simp [Pol.labs, Pol.size]; omega
  | .num _ _ a b => by have := labs_le a; have := labs_le b; simp [Pol.labs, Pol.size]; omega
  | .retry _ a => by have := labs_le a; simp [Pol.labs, Pol.size]; omega
  | .tmo _ a => by have := labs_le a; simp [Pol.labs, Pol.size]; omega
theorem drawn_node {L : Int} (hL : L < 1000000000) : ∀ {p : Pol}, p.Bnd L → (∀ l ∈ p.labs, IsLab l) → p.All Pol.Node
  | .call l g b h, hb, hl => by
    have sp : ∀ s : Span, spB L s → SpOk s := fun s hs => by
      cases s with
      | none => trivial
      | some s => exact ⟨hs.1, hs.2.1, by have := hs.2.2; omega⟩
    refine ⟨hl l (by simp [Pol.labs]), sp g hb.1, sp b hb.2.1, ?_⟩
    cases g with
    | some g => exact .inr (.inl (by simp))
    | none => exact .inr (.inr (hb.2.2 rfl))
  | .wait n, hb, _ => ⟨hb.1, by have := hb.2; omega⟩
  | .two k a b, hb, hl => ⟨trivial, drawn_node hL hb.1 fun l h => hl l (by simp [Pol.labs, h]), drawn_node hL hb.2 fun l h => hl l (by simp [Pol.labs, h])⟩
  | .num k n a b, hb, hl => ⟨(by cases n with
    | none => trivial
    | some n => exact ⟨hb.1.1, by have := hb.1.2; omega⟩), drawn_node hL hb.2.1 fun l h => hl l (by simp [Pol.labs, h]), drawn_node hL hb.2.2 fun l h => hl l (by simp [Pol.labs, h])⟩
  | .retry ps a, hb, hl => ⟨⟨by have := hb.1.1; omega, fun x hx => by have := hb.1.2 x hx; omega⟩, drawn_node hL hb.2 fun l h => hl l (by simpa [Pol.labs] using h)⟩
  | .tmo n a, hb, hl => ⟨(by cases n with
    | none => trivial
    | some n => exact ⟨hb.1.1, by have := hb.1.2; omega⟩), drawn_node hL hb.2 fun l h => hl l (by simpa [Pol.labs] using h)⟩
theorem valid_drawn {L : Int} {p : Pol} {stem : Str} (hL : L < 1000000000) (hb : p.Bnd L) (hs : p.size ≤ 40) (hd : p.depth ≤ 20) (hl : p.Lab stem 0) (hst : stem ∈ stems) : p.Valid := by
  have hn := labs_le p
  have hl : p.labs = (List.range p.labs.length).map fun x => labK stem (0 + x + 1) := hl
  refine ⟨drawn_node hL hb fun l h => ?_, hs, hd, ?_⟩
  · rw [hl] at h
    obtain ⟨k, hk, rfl⟩ := List.mem_map.mp h
    rw [Nat.zero_add]
    exact lab_ok hst (by have := List.mem_range.mp hk; omega)
  · have h40 : ((List.range 40).map fun k => labK stem (k + 1)).Nodup := of_decide_eq_true (List.all_eq_true.mp labs_nd stem hst)
    rw [hl]
    have e : (fun x => labK stem (0 + x + 1)) = fun k => labK stem (k + 1) := by funext x; rw [Nat.zero_add]
    rw [e]
    refine h40.sublist (List.Sublist.map _ ?_)
    have : List.range 40 = List.range p.labs.length ++ (List.range (40 - p.labs.length)).map (p.labs.length + ·) := by
      rw [← List.range_add]; congr 1; omega
    rw [this]
    exact List.sublist_append_left _ _
/-! ### paths as texts -/
def dgL (l : List Nat) : List Nat := l.filter fun c => decide (c = 48) || decide (c = 49)
def dg (x : Str) : List Nat := dgL x.cps.toList
end Cp
/-! Ps7: policies and paths shown. -/
namespace Cp
open PySem L2
theorem siz_small {i : Int} (h : 0 ≤ i ∧ i ≤ 1000000000) : siz (.int i) ≤ 32 := by
  show i.natAbs.log2 + 2 ≤ 32
  have h2 : i.natAbs < 2 ^ 30 := by omega
  by_cases hz : i.natAbs = 0
  · rw [hz]; decide
  · have := (Nat.log2_lt hz).mpr h2; omega
theorem siz_nu {n : Option Int} (h : NuOk n) : siz (nuD n) ≤ 32 := by
  cases n with
  | none => exact (by decide : (5 : Nat) ≤ 32)
  | some n => exact siz_small h
theorem siz_sp {g : Span} (h : SpOk g) : siz (spD g) ≤ 80 := by
  cases g with
  | none => exact (by decide : (5 : Nat) ≤ 80)
  | some p =>
    have h1 := siz_small (i := p.1) ⟨h.1, by have := h.2; omega⟩
    have h2 := siz_small (i := p.2) ⟨by have := h.1; have := h.2; omega, h.2.2⟩
    show siz (.int p.1) + 2 + (siz (.int p.2) + 2 + 0) + 3 ≤ 80
    omega
theorem siz_kind (k : String) (h : (Str.ofString k).length ≤ 10) : siz (.str (Str.ofString k)) ≤ 102 := by
  show 10 * (Str.ofString k).length + 2 ≤ 102; omega
theorem Pol.siz_le : ∀ {p : Pol}, p.All Pol.Node → siz p.pd ≤ p.size * 500
  | .call l g b h, hn => by
    obtain ⟨h1, h2, h3, h4⟩ := hn
    have a1 := siz_kind "call" (by decide)
    have a2 := siz_sp h2
    have a3 := siz_sp h3
    have a4 := h1.hi
    show siz (.str (Str.ofString "call")) + 2 + ((10 * l.length + 2) + 2 + (siz (spD g) + 2 + (siz (spD b) + 2 + (5 + 2 + 0)))) + 3 ≤ 1 * 500
    omega
  | .wait n, hn => by
    have a1 := siz_kind "wait" (by decide)
    have a2 := siz_small hn
    show siz (.str (Str.ofString "wait")) + 2 + (siz (.int n) + 2 + 0) + 3 ≤ 1 * 500
    omega
  | .two k a b, hn => by
    have a1 : siz (.str (Str.ofString k.s)) ≤ 102 := siz_kind _ (by cases k <;> decide)
    have a2 := Pol.siz_le hn.2.1
    have a3 := Pol.siz_le hn.2.2
    show siz (.str (Str.ofString k.s)) + 2 + (siz a.pd + 2 + (siz b.pd + 2 + 0)) + 3 ≤ (1 + a.size + b.size) * 500
    omega
  | .num k n a b, hn => by
    have a1 : siz (.str (Str.ofString k.s)) ≤ 102 := siz_kind _ (by cases k <;> decide)
    have a2 := Pol.siz_le hn.2.1
    have a3 := Pol.siz_le hn.2.2
    have a4 := siz_nu hn.1
    show siz (.str (Str.ofString k.s)) + 2 + (siz (nuD n) + 2 + (siz a.pd + 2 + (siz b.pd + 2 + 0))) + 3 ≤ (1 + a.size + b.size) * 500
    omega
  | .retry ps a, hn => by
    have a1 := siz_kind "retry" (by decide)
    have a2 := Pol.siz_le hn.2
    have a3 := sizAll_le (B := 32) (ds := ps.map PyData.int) fun d hd => by
      obtain ⟨x, hx, rfl⟩ := List.mem_map.mp hd
      exact siz_small (hn.1.2 x hx)
    rw [List.length_map] at a3
    have a4 := hn.1.1
    show siz (.str (Str.ofString "retry")) + 2 + ((sizAll (ps.map PyData.int) + 3) + 2 + (siz a.pd + 2 + 0)) + 3 ≤ (1 + a.size) * 500
    omega
  | .tmo n a, hn => by
    have a1 := siz_kind "timeout" (by decide)
    have a2 := Pol.siz_le hn.2
    have a4 := siz_nu hn.1
    show siz (.str (Str.ofString "timeout")) + 2 + (siz (nuD n) + 2 + (siz a.pd + 2 + 0)) + 3 ≤ (1 + a.size) * 500
    omega
end Cp
/-! Ps8: labels, numbers, forms. -/
namespace Cp
open PySem L2
/-! ### texts sorted -/
/-! ### parts -/
def Pol.sub (p : Pol) (q : List Nat) : Pol := (p.at q).getD (.wait 0)
section
variable {st : Sto} {P : Rv → Sto → Prop} {E : Er → Sto → Prop}
def isNumD : PyData → Bool
  | .tuple (.str k :: _) => decide (k ∈ ["wait", "retry", "fallback", "timeout", "race", "hedge"].map Str.ofString)
  | _ => false
/-! ### calls -/
def Pol.cls : Pol → List (Str × PyData)
  | .call l g b h => [(l, (Pol.call l g b h).pd)]
  | .wait _ => []
  | .two _ a b => a.cls ++ b.cls
  | .num _ _ a b => a.cls ++ b.cls
  | .retry _ a => a.cls
  | .tmo _ a => a.cls
/-! ### forms -/
def Two.t (k : Two) : PyData := .str (Str.ofString k.s)
def Num.t (k : Num) : PyData := .str (Str.ofString k.s)
def Pol.bare : Pol → PyData
  | .call l g b h => .list [.str (Str.ofString "call"), .str l, spD g, spD b, .bool h]
  | .wait _ => .list [.str (Str.ofString "wait")]
  | .two k a b => .list [k.t, a.bare, b.bare]
  | .num k _ a b => .list [k.t, a.bare, b.bare]
  | .retry _ a => .list [.str (Str.ofString "retry"), a.bare]
  | .tmo _ a => .list [.str (Str.ofString "timeout"), a.bare]
theorem eqvT (a b : PyData) (xs ys : List PyData) : PyData.eqvAll (a :: xs) (b :: ys) = (PyData.eqv a b && PyData.eqvAll xs ys) := by rw [PyData.eqvAll]
theorem eqvTup (xs ys : List PyData) : PyData.eqv (.tuple xs) (.tuple ys) = PyData.eqvAll xs ys := by rw [PyData.eqv]
end
end Cp
/-! Ps9: is_policy where labels may come twice; numbers put and put back. -/
namespace Cp
open PySem L2
theorem at_ind {C : List Nat → Pol → Pol → Prop} (h0 : ∀ p, C [] p p)
    (t0 : ∀ k a b q r, a.at q = some r → C q a r → C (0 :: q) (.two k a b) r) (t1 : ∀ k a b q r, b.at q = some r → C q b r → C (1 :: q) (.two k a b) r)
    (n0 : ∀ k n a b q r, a.at q = some r → C q a r → C (0 :: q) (.num k n a b) r) (n1 : ∀ k n a b q r, b.at q = some r → C q b r → C (1 :: q) (.num k n a b) r)
    (r0 : ∀ ps a q r, a.at q = some r → C q a r → C (0 :: q) (.retry ps a) r) (m0 : ∀ n a q r, a.at q = some r → C q a r → C (0 :: q) (.tmo n a) r) :
    ∀ (q : List Nat) {p r : Pol}, p.at q = some r → C q p r
  | [], p, r, h => by cases h; exact h0 p
  | i :: q, p, r, h => by
    have h : (match p.inn[i]? with | some r => r.at q | none => none) = some r := h
    cases p with
    | call l g b hh => simp [Pol.inn] at h
    | wait n => simp [Pol.inn] at h
    | two k a b =>
      match i, h with
      | 0, h => simp [Pol.inn] at h; exact t0 k a b q r h (at_ind h0 t0 t1 n0 n1 r0 m0 q h)
      | 1, h => simp [Pol.inn] at h; exact t1 k a b q r h (at_ind h0 t0 t1 n0 n1 r0 m0 q h)
      | i + 2, h => simp [Pol.inn] at h
    | num k n a b =>
      match i, h with
      | 0, h => simp [Pol.inn] at h; exact n0 k n a b q r h (at_ind h0 t0 t1 n0 n1 r0 m0 q h)
      | 1, h => simp [Pol.inn] at h; exact n1 k n a b q r h (at_ind h0 t0 t1 n0 n1 r0 m0 q h)
      | i + 2, h => simp [Pol.inn] at h
    | retry ps a =>
      match i, h with
      | 0, h => simp [Pol.inn] at h; exact r0 ps a q r h (at_ind h0 t0 t1 n0 n1 r0 m0 q h)
      | i + 1, h => simp [Pol.inn] at h
    | tmo n a =>
      match i, h with
      | 0, h => simp [Pol.inn] at h; exact m0 n a q r h (at_ind h0 t0 t1 n0 n1 r0 m0 q h)
      | i + 1, h => simp [Pol.inn] at h
theorem put_nil (p x : Pol) : p.put [] x = x := by cases p <;> simp [Pol.put]
end Cp
/-! Cf_value: an own error made with one value, kept as its field value. -/
namespace Cfvalue
open PySem PySem.W PySem.Calls PyProof.Rows PySem.HandSPX
def iA (p1 p2 : Pos) : Arguments := { posonlyargs := [], args := [{ arg := "self", annotation := none, pos := p1 }, { arg := "value", annotation := none, pos := p2 }], vararg := none, kwonlyargs := [], kw_defaults := [], kwarg := none, defaults := [] }
def iB (q1 q2 q3 q4 : Pos) : List Stmt := [.Assign [.Attribute (.Name "self" q1) "value" q2] (.Name "value" q3) q4]
def iS : Scope := { kind := .function, names := [(PySem.Str.ofString "self", .local), (PySem.Str.ofString "value", .local)], isGenerator := false, isCoroutine := false, more := [] }
/-- what the written part says of the class at C, and of its __init__, at fI -/
structure Txt (K : Frag) (C fI : Addr) (ql : Str) : Prop where
  cls : ∃ nm q N bs bm sn sub ab col dd k0 k1 k2 k3 k5, K.lookup C = some (excClassObj nm q C N bs bm true sn sub ab col dd k0 k1 k2 k3 k5 "ValueError.__new__") ∧ refsVE bm = true
  sa : findIn K (.ref C) "__setattr__" = some (some (.builtin "object.__setattr__"))
  noN : findIn K (.ref C) "value" = some none
  iC : findIn K (.ref C) "__init__" = some (some (.ref fI))
  tC : typeIn K (.ref fI) = some (.type "function")
  kC : keepIn K (.ref C) = true
  exC : subIn K (.ref C) (.type "BaseException") = some true
  tyC : typeIn K (.ref C) = some (.type "type")
  fn : ∃ (oc : Value) (od : Option Addr) (kV doc pm : Value) (an : Option Addr) (cdv ct : Value) (osl : Array (Option Value)) (p1 p2 q1 q2 q3 q4 : Pos),
    K.lookup fI = some ⟨oc, od, .func (fnOf "__init__" ql (iA p1 p2) (iB q1 q2 q3 q4) iS .none kV doc pm an cdv ct), osl⟩ ∧ codeIn K cdv ql = true
def txtB (x : Str) : Cp.Fb := fun K => Cp.exObjB x K && (He.eqO (findIn K (.ref (He.ga K x)) "__setattr__") (some (some (.builtin "object.__setattr__"))) && (He.eqO (findIn K (.ref (He.ga K x)) "value") (some none) && (He.eqO (findIn K (.ref (He.ga K x)) "__init__") (some (some (.ref (He.ma K (He.ga K x) "__init__")))) &&
  (decide (typeIn K (.ref (He.ma K (He.ga K x) "__init__")) = some (.type "function")) && (keepIn K (.ref (He.ga K x)) && (decide (subIn K (.ref (He.ga K x)) (.type "BaseException") = some true) && decide (typeIn K (.ref (He.ga K x)) = some (.type "type"))))))))
theorem txt_ok {K : Frag} {x ql : Str} {p1 p2 q1 q2 q3 q4 : Pos} {fd : FuncData} (h : txtB x K = true) (F : L2.FunD K "__init__" ql (iA p1 p2) (iB q1 q2 q3 q4) iS [] [] (He.ma K (He.ga K x) "__init__") fd) : Txt K (He.ga K x) (He.ma K (He.ga K x) "__init__") ql := by
  obtain ⟨h1, h⟩ := He.ba h
  obtain ⟨h2, h⟩ := He.ba h
  obtain ⟨h3, h⟩ := He.ba h
  obtain ⟨h4, h⟩ := He.ba h
  obtain ⟨h5, h⟩ := He.ba h
  obtain ⟨h6, h⟩ := He.ba h
  obtain ⟨h7, h8⟩ := He.ba h
  obtain ⟨oc, od, dV, kV, doc, pm, an, cdv, ct, osl, rfl, lk, hcd, hd, _⟩ := F.ex
  have ed : dV = .none := by
    rcases hd with ⟨_, e⟩ | ⟨e, _⟩
    · exact e
    · exact absurd rfl e
  subst ed
  exact ⟨Cp.exObjB_ok h1, He.eqO_ok h2, He.eqO_ok h3, He.eqO_ok h4, of_decide_eq_true h5, h6, of_decide_eq_true h7, of_decide_eq_true h8, oc, od, kV, doc, pm, an, cdv, ct, osl, p1, p2, q1, q2, q3, q4, lk, hcd⟩
theorem one_size (v : Value) : [v].length ≤ sizeLine := by
  rw [sizeLine_eq]
  exact (by decide : 1 ≤ 16777216)
theorem ldC {M : Model} {s : Shared} {name : Str} {scope : Scope} {L a : Addr} {cd : Value} {m : Str → Option Value} {x : Str} {pos : Pos} {v : Value} {Q : Value → Shared → Prop} {A : Around} {E : Value → Shared → Prop} (hn : s.heap.Ns L m) (hv : m x = some v) (h : Q v s)
    (hk : scope.kind = .function := by rfl) (hl : (envOfC name scope L a cd).kindOf x = some .local := by rfl) (hd : (x == ("__debug__" : Str)) = false := by decide) :
    wpAny M A (eval (.Name x pos) (envOfC name scope L a cd)) Q E s := wpAny_Name (wpAny_loadName_local hk hl hn hv h) hd
structure InitEnd (h h' : Heap) (x C dx t1 : Addr) (v : Value) : Prop where
  keep : ∀ b o, b ≠ x → h.get? b = some o → h'.get? b = some o
  obj : h'.get? x = some { cls := .ref C, dict := some dx, data := .fields #[.ref t1, .none, .none, .none, .bool false, .none] }
  dbig : h.objs.size ≤ dx
  dne : dx ≠ x
  ns : h'.Ns1 dx (fun y => if y = "value" then some v else none)
structure OwnMade (h h' : Heap) (e C d : Addr) (v : Value) : Prop where
  keep : ∀ b o, h.get? b = some o → h'.get? b = some o
  new : h.objs.size ≤ e
  obj : ∃ oe vs, h'.get? e = some oe ∧ oe.cls = .ref C ∧ oe.dict = some d ∧ oe.data = .fields vs ∧ vs[1]? = some .none
  dbig : h.objs.size ≤ d
  dne : d ≠ e
  ns : h'.Ns1 d (fun y => if y = "value" then some v else none)
section
variable {prog : Program} {w : World} {A : Around} {E : Value → Shared → Prop} {R : Result → Shared → Prop} {s : Shared} {K : Frag} {C fI : Addr} {ql : Str}
theorem init (T : Txt K C fI ql) {x t0 : Addr} {v : Value} (X : K.In s.heap) (hlim : s.heap.NoLimit) (hx : s.heap.get? x = some (excO C t0)) (hnx : K.lookup x = none) (hroom : A.depth < recursionLimit)
    (hq : ∀ h' tk dx, InitEnd s.heap h' x C dx t0 v → R (.ok (.ret .none)) { s with heap := h', toks := tk }) :
    codeAny (model prog w) A (.call (.ref fI) ⟨[.ref x, v], []⟩) R s := by
  obtain ⟨oc, od, kV, doc, pm, an, cdv, ct, osl, p1, p2, q1, q2, q3, q4, ho, hcd⟩ := T.fn
  obtain ⟨nm, q, N, bs, bm, sn, sub, ab, col, dd, k0, k1, k2, k3, k5, hC, hbm⟩ := T.cls
  have hcl : clsIn K C = some { name := nm, bases := bs, mro := .ref C :: bm, ns := N, qualname := q, hasDict := true, slotNames := sn, subclasses := sub, abstract := ab, collection := col, hasDel := false } := by unfold clsIn; rw [hC] <;> rfl
  refine Att.call_fn (binds := [("self", .ref x), ("value", v)]) X hlim ho hcd hroom (BindsTo.of_eq (by first | rfl | with_unfolding_all rfl)) (by first | rfl | decide | with_unfolding_all rfl) (fun s₁ IC => ?_) rfl rfl rfl
  obtain ⟨h₁, tk₁, rfl⟩ := IC.toInCall.same
  have k : ∀ b o, s.heap.get? b = some o → h₁.get? b = some o := IC.toInCall.keep
  have hn := IC.toInCall.ns
  have hxL : s.heap.objs.size ≠ x := Nat.ne_of_gt (Heap.lt_size hx)
  have X₁ : K.In h₁ := X.keeps k
  have hx₁ := k _ _ hx
  show wpAny _ _ (execs _ _) _ _ _
  refine wpAny_execs_cons (plainObj_wpAny_Assign_Attribute ?_)
  refine ldC (v := v) hn (by first | rfl | with_unfolding_all rfl | kernel_rfl) (ldC (v := .ref x) hn (by first | rfl | with_unfolding_all rfl | kernel_rfl) ?_)
  refine set_plain X₁ (ox := excO C t0) (od := none) ⟨hx₁, rfl, rfl, trivial⟩ T.sa ?_
  refine exc_osa X₁ hx₁ hcl (show refsVE (.ref C :: bm) = true from hbm) rfl T.noN (fun h₃ tk₃ dx k₃ dn dne hx₃ hn₃ => ?_)
  show wpAny _ _ (execs _ _) _ _ _
  have z : s.heap.objs.size < h₁.objs.size := hn.lt
  exact wpAny_execs_nil (hq h₃ tk₃ dx ⟨fun b o hb e => k₃ b o hb (k b o e), hx₃, Nat.le_of_lt (Nat.lt_of_lt_of_le z dn), dne, hn₃⟩)
theorem made (T : Txt K C fI ql) {v : Value} (X : K.In s.heap) (hlim : s.heap.NoLimit) (hroom : A.depth + 1 < recursionLimit)
    (hq : ∀ h' tk e d, OwnMade s.heap h' e C d v → R (.ok (.ret (.ref e))) { s with heap := h', toks := tk }) :
    codeAny (model prog w) A (.call (.ref C) ⟨[v], []⟩) R s := by
  obtain ⟨nm, q, N, bs, bm, sn, sub, ab, col, dd, k0, k1, k2, k3, k5, hC, hbm⟩ := T.cls
  obtain ⟨hp, g, dr, tk, os⟩ := s
  have k : ∀ b o, hp.get? b = some o → ((hp.push (kdv_tup [v])).push (excO C hp.objs.size)).get? b = some o := fun b o e => Heap.get?_push_of_some _ (Heap.get?_push_of_some _ e)
  have hget : ((hp.push (kdv_tup [v])).push (excO C hp.objs.size)).get? (hp.objs.size + 1) = some (excO C hp.objs.size) := by heap_get
  have hnx : K.lookup (hp.objs.size + 1) = none := by
    cases e : K.lookup (hp.objs.size + 1) with
    | none => rfl
    | some o =>
      have z : hp.get? (hp.objs.size + 1) = some o := X _ _ e
      exact absurd (Nat.lt_of_succ_lt (Heap.lt_size z)) (Nat.lt_irrefl _)
  refine call_own F.excBase_ValueError (fun X => refsVE_contains X bm hbm) (X _ _ hC) (looks_findIn X T.iC) (fun self => bind_fn X self T.tC) (one_size v) ?_
  refine init (s := ⟨(hp.push (kdv_tup [v])).push (excO C hp.objs.size), g, dr, tk, os⟩) T (X.keeps k) (hlim.keeps k) hget hnx ?_ fun h' tk' dx ⟨k', hx, dn, dne, hns⟩ => ?_
  · show A.depth + 1 < recursionLimit
    exact hroom
  · have old : ∀ b o, hp.get? b = some o → h'.get? b = some o := fun b o e => k' b o (Nat.ne_of_lt (Nat.lt_succ_of_lt (Heap.lt_size e))) (k b o e)
    have z : hp.objs.size + 1 + 1 ≤ dx := by
      first
        | (simpa only [Heap.size_push] using dn)
        | exact dn
        | (have q := dn; rw [Heap.size_push, Heap.size_push] at q; exact q)
    exact ⟨rfl, hq h' tk' (hp.objs.size + 1) dx ⟨old, Nat.le_succ _, ⟨_, _, hx, rfl, rfl, rfl, rfl⟩, Nat.le_trans (Nat.le_trans (Nat.le_succ _) (Nat.le_succ _)) z, dne, hns⟩⟩
end
end Cfvalue
namespace Cp
open PySem PySem.Spec PyProof.Rows L2
theorem relO_value {v : V} {v' : Value} (r : RelV v v') (f : Str) : RelO (List.lookup f [(("value" : Str), v)]) (if f = "value" then some v' else none) := by
  by_cases hw : f = "value"
  · subst hw
    rw [if_pos rfl]
    have q : List.lookup ("value" : Str) [(("value" : Str), v)] = some v := by simp [List.lookup]
    rw [q]
    exact r
  · rw [if_neg hw]
    have qw : (f == ("value" : Str)) = false := by simpa using hw
    have q2 : List.lookup f [(("value" : Str), v)] = none := by simp [List.lookup, qw]
    rw [q2]
    trivial
section
variable {X : Cx} {C fI : Addr} {ql x : Str}
def tMk_value (C : Addr) (ta : TA) : L2.St → Hp → XK → Prop := fun σ H Q => ta σ H fun vs H1 => ∃ v, vs = [v] ∧ ∀ d, H1 d = none → Q (.ref C) (some d) (upd H1 d (.xd [(("value" : Str), v)]))
theorem pmk_value {a : Expr} {ta : TA} {p pos : Pos} {k : Nat} (T : Cfvalue.Txt X.K C fI ql) (gC : X.mg x = some (.ref C)) (hr : Room k X.A) (ha : PA X [a] ta) (hg : Gl X x) (hdb : (x == ("__debug__" : Str)) = false := by decide)
    (he : starEach (a :: []) X.env = (false, eval a X.env) :: starEach [] X.env := by rfl) (hpl : (backTo pos (starEach [] X.env)).any (·.1) = false := by rfl) :
    PMk X (.Call (.Name x p) [a] [] pos) (tMk_value C ta) := by
  intro pins s σ H Q I h
  refine wpAny_Call_Name_kw (ld_glob I hg gC ?_ hdb)
  refine PySem.W.callWith_K (h₀ := X.base) I.ok.mod.kin T.kC (thn (ha.run pos pins s σ H _ I h) fun us s1 hh => ?_) he hpl
  obtain ⟨vs, H1, I1, r1, v, ev, q1⟩ := hh
  subst ev
  refine ⟨I1.kIn, ?_⟩
  cases r1 with
  | cons rv rn =>
    rename_i v' us'
    cases rn
    show wpAny _ _ (call (.ref C) [v']) _ _ _
    have hlim := I1.nolimit
    obtain ⟨hp, g, dr, tk, os⟩ := s1
    refine wpAny_call (Cfvalue.made T I1.kIn hlim (by have := hr.dp; omega) fun h' tk' e d M => ?_)
    show MkP X pins σ Q (.ref e) ⟨h', g, dr, tk', os⟩
    obtain ⟨oe, fv, hoe, hc, hd, hdat, h1⟩ := M.obj
    have hns := M.ns
    obtain ⟨G', g1, g2⟩ := restrict h' fun b => decide (b ≠ e)
    have gk : ∀ b, b ≠ e → G'.get? b = h'.get? b := fun b hb => g1 b (decide_eq_true hb)
    have ge : G'.get? e = none := g2 e (by simp)
    have old : ∀ b o, hp.get? b = some o → G'.get? b = some o := fun b o q => (gk b (Nat.ne_of_lt (Nat.lt_of_lt_of_le (Heap.lt_size q) M.new))).trans (M.keep b o q)
    have ob : ObjOk X.prog X.w (upd H1 d (.xd [(("value" : Str), v)])) G' d (.xd [(("value" : Str), v)]) :=
      ⟨_, hns.at (fun o q => (gk d M.dne).trans q), fun f => relO_value rv f⟩
    have J : Inv X pins σ (upd H1 d (.xd [(("value" : Str), v)])) ⟨G', g, dr, tk', os⟩ := I1.laid (t' := tk') old M.dbig ob
    refine ⟨e, oe, fv, ⟨G', g, dr, tk', os⟩, _, .ref C, some d, rfl, J, fun b o q => ?_, ge, hoe, ⟨hc, hd⟩, hdat, h1, ?_, rfl, I1.bare, raises_own T.exC T.tyC, q1 d (I1.hok.fresh M.dbig)⟩
    · by_cases hb : b = e
      · have q' : G'.get? b = some o := q
        rw [hb, ge] at q'; cases q'
      · exact (gk b hb).symm.trans q
    · rw [upd_ne (Ne.symm M.dne)]
      exact I1.hok.fresh M.new
/-- raise X(e) -/
theorem x_raise_value {k : Nat} {Cc : Cn} {a : Expr} {mas : En → Sto → Res (List Vl)} {p pos pos2 : Pos} (B : Bd k X Cc) (T : Cfvalue.Txt X.K (He.ga X.K x) fI ql) (gC : X.mg x = some (.ref (He.ga X.K x))) (hg : Gl X x) (ha : PA X [a] (tAs Cc mas)) (hdb : (x == ("__debug__" : Str)) = false := by decide)
    (he : starEach (a :: []) X.env = (false, eval a X.env) :: starEach [] X.env := by rfl) (hpl : (backTo pos (starEach [] X.env)).any (·.1) = false := by rfl) :
    PS X (.Raise (some (.Call (.Name x p) [a] [] pos)) none pos2) (tS Cc (sRaise1 x "value" mas)) :=
  (ps_raise B.cm B.tk (pmk_value T gC B.rm.room ha hg hdb he hpl)).imp fun D σ H ⟨ρ, st, μ, F, h1, h2, h3⟩ => ⟨ρ, st, μ, F, h1, h2, PostS.bindA h3 fun xs s vs μ1 F1 H1 x1 r1 k1 h4 => by
    match xs, k1, h4 with
    | [], _, h4 => exact False.elim h4
    | z :: _ :: _, _, h4 => cases z <;> exact False.elim h4
    | [.c _], _, h4 => exact False.elim h4
    | [.s _], _, h4 => exact False.elim h4
    | [.o _], _, h4 => exact False.elim h4
    | [.d y], .cons kv .nil, h4 =>
      refine ⟨_, rfl, fun d hd => ?_⟩
      obtain ⟨r2, x2⟩ := r1.newly (o := .xd [(("value" : Str), _)]) hd
      have dd := r1.dead hd
      obtain ⟨r3, x3, sm⟩ := r2.freeze x2 r1.sub hd upd_same dd.1 dd.2
      exact h4 _ _ μ1 _ _ x3 r3 ⟨by rw [← B.hK], ⟨d, _, rfl, upd_same, Dq.same sm kv⟩⟩⟩
end
end Cp
/-! Cz: names written from a list's items. -/
namespace Cp
open PySem PySem.Spec PyProof.Rows L2
section
variable {X : Cx} {C : Cn} {es : List Expr} {pos : Pos}
/-- (a, b, ..) = a list of that length -/
def gTl (n : Nat) (r : Gms) : Gm := fun x ρ st => match x with
  | .d (.list ds) => if ds.length = n then r ds ρ st else .no
  | _ => .no
@[simp] theorem W_gTl {E : Er → Sto → Prop} {ρ : En} {st : Sto} {PR : En → Sto → Prop} (n : Nat) (r : Gms) (ds : List PyData) : WVe E (gTl n r (.d (.list ds)) ρ st) PR = (ds.length = n ∧ WVe E (r ds ρ st) PR) := by
  unfold gTl
  by_cases h : ds.length = n <;> simp [h]
end
end Cp
/-! Cth: a lambda without parameters, handed to a def that calls it within a try. -/
namespace Cp
open PySem PySem.Spec PyProof.Rows L2 LamX
/-! ### the table as a cell -/
/-! ### the lambda is made -/
/-! ### its call, in the def that got it -/
/-! ### a def that takes a thunk -/
/-! ### g(lambda: e) -/
end Cp
/-! Ck: xs.pop(i), dict(pairs), a thunk that takes a dict's cell along. -/
namespace Cp
open PySem L2
/-! ### dict(pairs) -/
end Cp
/-! Co: objects that change: made, their fields, their methods; lists of such. -/
namespace Cp
open PySem L2
/-! ### values of fields -/
def Fv.rv : Fv → Rv
  | .d x => .d x
  | .ob j => .o (.ob j)
def fvOf : Vl → Option Fv
  | .d x => some (.d x)
  | .o (.ob j) => some (.ob j)
  | _ => none
section
variable {K : Kw} {μ : Mu} {F H : Hp} {st : Sto}
theorem fvOf_ok {x : Vl} {v : V} {y : Fv} (h : Vok K F μ x v) (e : fvOf x = some y) : FvOk K F μ.η y v := by
  cases x with
  | d x => cases e; exact h
  | o x =>
    cases x with
    | ob j => cases e; exact h
    | _ => cases e
  | _ => cases e
theorem out_fv {x : Fv} {v : V} (r : SR K μ F H st) (h : FvOk K F μ.η x v) : Out K μ F H st x.rv v μ F H := by
  cases x with
  | d x => exact ⟨Ext.refl, r, h, fun c e => nomatch e⟩
  | ob j => exact ⟨Ext.refl, r, h, fun c e => nomatch e⟩
def insAt (st : Sto) (j : Nat) (cls : Str) : Option (List (Str × Fv)) := match (objsOf st)[j]? with
  | some (.ins c fs) => if c = cls then some fs else none
  | _ => none
def olAt (st : Sto) (j : Nat) : Option (List Fv) := match (objsOf st)[j]? with
  | some (.lst xs) => some xs
  | _ => none
def putO (st : Sto) (j : Nat) (x : Ho) : Sto := st.set 0 (heapC ((objsOf st).set j x))
def newO (st : Sto) (x : Ho) : Sto := st.set 0 (heapC (objsOf st ++ [x]))
theorem insAt_ok {j : Nat} {cls : Str} {fs : List (Str × Fv)} (r : SR K μ F H st) (e : insAt st j cls = some fs) :
    ∃ objs a dx us, st[0]? = some (heapC objs) ∧ objsOf st = objs ∧ μ.η[j]? = some a ∧ F a = none ∧ H a = some (.ins (He.ga K.K cls) dx us) ∧ F dx = some (.own a) ∧ FlOk K F μ.η fs us := by
  unfold insAt at e
  split at e
  · rename_i c fs' hx
    split at e
    · rename_i hc
      subst hc
      cases e
      obtain ⟨objs, a, o, k1, k2, k3, k4, k5, k6, dx, us, rfl, k7, k8⟩ := r.obj hx
      exact ⟨objs, a, dx, us, k1, k2, k4, k5, k6, k7, k8⟩
    · cases e
  · cases e
theorem olAt_ok {j : Nat} {xs : List Fv} (r : SR K μ F H st) (e : olAt st j = some xs) :
    ∃ objs a us, st[0]? = some (heapC objs) ∧ objsOf st = objs ∧ μ.η[j]? = some a ∧ F a = none ∧ H a = some (.lst us) ∧ FvAll K F μ.η xs us := by
  unfold olAt at e
  split at e
  · rename_i xs' hx
    cases e
    obtain ⟨objs, a, o, k1, k2, k3, k4, k5, k6, us, rfl, k7⟩ := r.obj hx
    exact ⟨objs, a, us, k1, k2, k4, k5, k6, k7⟩
  · cases e
def putFv (f : Str) (v : Fv) : List (Str × Fv) → List (Str × Fv)
  | [] => [(f, v)]
  | (g, x) :: r => if g = f then (g, v) :: r else (g, x) :: putFv f v r
theorem FlOk.put {η : List Addr} {f : Str} {y : Fv} {v : V} (h : FvOk K F η y v) : ∀ {fs : List (Str × Fv)} {us : List (Str × V)}, FlOk K F η fs us → FlOk K F η (putFv f y fs) (putF f v us)
  | _, _, .nil => .cons h .nil
  | (g, x) :: fs, (_, u) :: us, .cons h1 r => by
    unfold putFv putF
    by_cases e : g = f
    · rw [if_pos e, if_pos e]; exact .cons h r
    · rw [if_neg e, if_neg e]; exact .cons h1 (FlOk.put h r)
theorem FlOk.length {η : List Addr} : ∀ {fs : List (Str × Fv)} {us : List (Str × V)}, FlOk K F η fs us → fs.length = us.length
  | _, _, .nil => rfl
  | _, _, .cons _ r => by rw [List.length_cons, List.length_cons, r.length]
theorem FlOk.get {η : List Addr} {f : Str} {y : Fv} : ∀ {fs : List (Str × Fv)} {us : List (Str × V)}, FlOk K F η fs us → fs.lookup f = some y → ∃ v, us.lookup f = some v ∧ FvOk K F η y v
  | _, _, .nil, e => by cases e
  | (g, x) :: fs, (_, u) :: us, .cons h r, e => by
    rw [List.lookup_cons] at e ⊢
    cases q : f == g with
    | true => rw [q] at e; cases e; exact ⟨u, rfl, h⟩
    | false => rw [q] at e; exact FlOk.get r e
theorem FlOk.none {η : List Addr} {f : Str} : ∀ {fs : List (Str × Fv)} {us : List (Str × V)}, FlOk K F η fs us → fs.lookup f = Option.none → us.lookup f = Option.none
  | _, _, .nil, _ => rfl
  | (g, x) :: fs, (_, u) :: us, .cons h r, e => by
    rw [List.lookup_cons] at e ⊢
    cases q : f == g with
    | true => rw [q] at e; cases e
    | false => rw [q] at e; exact FlOk.none r e
theorem FvAll.length {η : List Addr} : ∀ {xs : List Fv} {us : List V}, FvAll K F η xs us → xs.length = us.length
  | _, _, .nil => rfl
  | _, _, .cons _ r => by rw [List.length_cons, List.length_cons, r.length]
theorem FvAll.app {η : List Addr} : ∀ {xs ys : List Fv} {us vs : List V}, FvAll K F η xs us → FvAll K F η ys vs → FvAll K F η (xs ++ ys) (us ++ vs)
  | _, _, _, _, .nil, h => h
  | _, _, _, _, .cons h r, h' => .cons h (FvAll.app r h')
theorem FvAll.get {η : List Addr} : ∀ {xs : List Fv} {us : List V} {i : Nat} {x : Fv}, FvAll K F η xs us → xs[i]? = some x → ∃ v, us[i]? = some v ∧ FvOk K F η x v
  | _, _, _, _, .nil, e => by simp at e
  | _, _, 0, _, .cons h _, e => by simp at e; subst e; exact ⟨_, rfl, h⟩
  | _, _, i + 1, _, .cons _ r, e => by
    obtain ⟨v, h1, h2⟩ := FvAll.get (i := i) r (by simpa using e)
    exact ⟨v, by simpa using h1, h2⟩
theorem FvAll.take {η : List Addr} : ∀ {xs : List Fv} {us : List V} (n : Nat), FvAll K F η xs us → FvAll K F η (xs.take n) (us.take n)
  | _, _, 0, _ => .nil
  | _, _, _ + 1, .nil => .nil
  | _, _, n + 1, .cons h r => .cons h (FvAll.take n r)
theorem FvAll.set {η : List Addr} {x : Fv} {v : V} (hx : FvOk K F η x v) : ∀ {xs : List Fv} {us : List V} (i : Nat), FvAll K F η xs us → FvAll K F η (xs.set i x) (us.set i v)
  | _, _, _, .nil => .nil
  | _, _, 0, .cons _ r => .cons hx r
  | _, _, i + 1, .cons h r => .cons h (FvAll.set hx i r)
theorem FvAll.ofD {η : List Addr} : ∀ {ds : List PyData} {us : List V}, DqAll K F us ds → FvAll K F η (ds.map Fv.d) us
  | _, _, .nil => .nil
  | _, _, .cons h r => .cons h (FvAll.ofD r)
end
/-! ### o.f -/
def mFld (cls f : Str) (mo : Ev) : Ev := fun ρ st => (mV mo ρ st).bind fun x s => match x with
  | .o (.ob j) => match (insAt s j cls).bind (·.lookup f) with
    | some y => .ok y.rv s
    | none => .no
  | _ => .no
section
variable {X : Cx} {C : Cn} {k j : Nat} {cls f m : Str} {p pos apos pos' : Pos} {o e value : Expr} {es : List Expr} {mo mv ma mb : Ev} {mas : En → Sto → Res (List Vl)} {sem : Fs}
theorem s_fld (hK : C.K.K = X.K) (c : Cls X.K (He.ga X.K cls)) (n : NoAttr X.K (He.ga X.K cls) f) (ho : PE X o (tM C mo)) (hb : attributeBase o f X.env (eval o X.env) = eval o X.env := by rfl) : PE X (.Attribute o f pos) (tM C (mFld cls f mo)) :=
  (pe_fld (pv_frz ho) hb).imp fun σ H Q ⟨ρ, st, μ, F, h1, h2, h3⟩ => ⟨ρ, st, μ, F, h1, h2, Post.bindV gE_lat h3 fun x s v μ1 F1 H1 x1 r1 k1 h4 => by
    split at h4
    · rename_i j
      obtain ⟨a0, ha0, rfl⟩ := k1
      cases q : insAt s j cls with
      | none => rw [q] at h4; exact False.elim h4
      | some fs =>
        rw [q] at h4
        obtain ⟨objs, a, dx, us, q1, q2, q3, q4, q5, q6, q7⟩ := insAt_ok r1 q
        rw [ha0] at q3; cases q3
        cases q8 : fs.lookup f with
        | none => simp only [Option.bind, q8] at h4; exact False.elim h4
        | some y =>
          simp only [Option.bind, q8] at h4
          obtain ⟨w, w1, w2⟩ := q7.get q8
          have hK2 : (C.at σ).K.K = X.K := hK
          rw [show (C.at σ).K.K = X.K from hK] at q5
          exact ⟨a0, He.ga X.K cls, dx, us, w, rfl, q5, c, n, w1, h4 w μ1 F1 H1 (out_fv r1 w2)⟩
    · exact False.elim h4⟩
/-! ### o.f = v -/
def tAttr (K : PySem.W.Frag) (to : TE) (f : Str) : TG := fun v σ H Q => to σ H fun x H1 => ∃ a C dx fs, x = .ref a ∧ H1 a = some (.ins C dx fs) ∧ Cls K C ∧ NoAttr K C f ∧ fs.length < 1000 ∧ Q σ (upd H1 a (.ins C dx (putF f v fs)))
theorem pg_attr {to : TE} (ho : PE X o to) : PG X (.Attribute o f pos) (tAttr X.K to f) := by
  refine ⟨fun pins s σ H v u Q I rv h => ?_⟩
  refine PySem.W.kas_attr (thn (ho.run pins s σ H _ I h) fun ov s1 ⟨x, H1, I1, rx, a, C, dx, fs, ex, ea, c, n, l, q⟩ => ?_)
  subst ex
  obtain rfl : ov = Value.ref a := rx
  exact setattr_ok I1 ea c n l rv fun s3 I3 => ⟨σ, _, I3, q⟩
def gFld (cls f : Str) (mo : Ev) : Gm := fun x ρ st => match fvOf x with
  | some y => (mV mo ρ st).bind fun o s => match o with
    | .o (.ob j) => match insAt s j cls with
      | some fs => if fs.length < 1000 then .ok ρ (putO s j (.ins cls (putFv f y fs))) else .no
      | none => .no
    | _ => .no
  | none => .no
theorem t_fld (hK : C.K.K = X.K) (c : Cls X.K (He.ga X.K cls)) (n : NoAttr X.K (He.ga X.K cls) f) (ho : PE X o (tM C mo)) : PG X (.Attribute o f pos) (tG C [] (gFld cls f mo)) :=
  (pg_attr (pv_frz ho)).imp fun v σ H Q ⟨ρ, st, μ, F, x, h1, h2, h3, h4⟩ => by
    unfold gFld at h4
    cases q : fvOf x with
    | none => simp only [q] at h4; exact False.elim h4
    | some y =>
      simp only [q] at h4
      have hy := fvOf_ok h3 q
      refine ⟨ρ, st, μ, F, h1, h2, Post.bindV gG_lat h4 fun o s vo μ1 F1 H1 x1 r1 k1 h5 => ?_⟩
      split at h5
      · rename_i j
        obtain ⟨a0, ha0, rfl⟩ := k1
        cases q2 : insAt s j cls with
        | none => simp only [q2] at h5; exact False.elim h5
        | some fs =>
          simp only [q2] at h5
          split at h5
          · rename_i hl
            obtain ⟨objs, a, dx, us, q1, q2', q3, q4, q5, q6, q7⟩ := insAt_ok r1 q2
            rw [ha0] at q3; cases q3
            have hp : HoOk C.K F1 μ1.η a0 (.ins cls (putFv f y fs)) (.ins (He.ga C.K.K cls) dx (putF f v us)) := ⟨dx, _, rfl, q6, q7.put (hy.ext x1)⟩
            obtain ⟨w1, w2⟩ := r1.owrite q1 ha0 hp
            have q5 : H1 a0 = some (.ins (He.ga C.K.K cls) dx us) := q5
            rw [hK] at q5 w1 w2
            refine ⟨a0, He.ga X.K cls, dx, us, rfl, q5, c, n, by rw [← q7.length]; exact hl, ?_⟩
            exact h5 σ μ1 F1 _ w2 (by unfold putO; rw [q2']; exact w1) (h1.ext (x1.trans w2)) ⟨rfl, fun _ _ => rfl⟩
          · exact False.elim h5
      · exact False.elim h5
/-! ### o.f op= n -/
def sFldI (cls f : Str) (neg : Bool) (mo mv : Ev) : Sv := fun ρ st => (mV mo ρ st).toS fun x s => match x with
  | .o (.ob j) => match (insAt s j cls).bind (·.lookup f) with
    | some (.d (.int n)) => (mV mv ρ s).toS fun y s2 => match y, insAt s2 j cls with
      | .d (.int i), some fs => if fs.length < 1000 then .nx ρ (putO s2 j (.ins cls (putFv f (.d (.int (if neg then n - i else n + i))) fs))) else .no
      | _, _ => .no
    | _ => .no
  | _ => .no
end
/-! ### methods -/
/-- a method that is known by its class and its name -/
def KnM (P : Program) (w : World) (K : PySem.W.Frag) (mg : Str → Option Value) (base : Heap) (cls m : Str) (k : Nat) (sem : Fs) : Prop :=
  Cls K (He.ga K cls) ∧ ∃ fd ps, Meth K (He.ga K cls) m (He.ma K (He.ga K cls) m) ∧ Binds K fd ps [] ∧ FnC P w K mg base k (He.ma K (He.ga K cls) m) fd ps sem
/-- a class that is known by its name, with its __init__ -/
def KnC (P : Program) (w : World) (K : PySem.W.Frag) (mg : Str → Option Value) (base : Heap) (cls : Str) (k : Nat) (sem : Fs) : Prop :=
  mg cls = some (.ref (He.ga K cls)) ∧ ∃ fd ps, Mk K (He.ga K cls) (He.ma K (He.ga K cls) "__init__") ∧ Binds K fd ps [] ∧ FnC P w K mg base k (He.ma K (He.ga K cls) "__init__") fd ps sem
def mMeth (cls m : Str) (sem : Fs) (mo : Ev) (mas : En → Sto → Res (List Vl)) : Ev := fun ρ st => (mV mo ρ st).bind fun x s1 => match x with
  | .o (.ob j) => match insAt s1 j cls with
    | some fs => if (fs.lookup m).isNone then (mas ρ s1).bind fun xs s2 => gcR st.length (sem (.o (.ob j) :: xs) s2) else .no
    | none => .no
  | _ => .no
/-- a new instance, then its __init__ -/
def initR (n j : Nat) : Res Rv → Res Rv
  | .ok (.d .none) s => .ok (.o (.ob j)) (s.take n)
  | .er e s => .er e (s.take n)
  | _ => .no
def mMake (cls : Str) (sem : Fs) (mas : En → Sto → Res (List Vl)) : Ev := fun ρ st => (mas ρ st).bind fun xs s => initR st.length (objsOf s).length (sem (.o (.ob (objsOf s).length) :: xs) (newO s (.ins cls [])))
section
variable {X : Cx} {C : Cn} {k j : Nat} {cls f m : Str} {p pos apos pos' : Pos} {o e value : Expr} {es : List Expr} {mo mv ma mb : Ev} {mas : En → Sto → Res (List Vl)} {sem : Fs}
theorem meth_run (B : Bd k X C) {f : Addr} {fd : FuncData} {ps : List Str} (hb : Binds X.K fd ps []) (G : FnC X.prog X.w X.K X.mg X.base j f fd ps sem) (hj : j ≤ k) {pins : List (Addr × Obj)} {s : Shared} {σ : L2.St} {H : Hp} {us : List Value} {vs : List V} {Q : VK} (I : Inv X pins σ H s) (r : Vals vs us)
    (q : spF ⟨X.K, X.w⟩ X.mg sem vs H Q fun cls d H => C.W cls d σ H) : wpAny (model X.prog X.w) X.A (call (.ref f) us) (EP X pins σ Q) X.xe s := by
  obtain ⟨⟨K, w⟩, mg, W, σC⟩ := C
  obtain rfl : K = X.K := B.hK
  obtain rfl : w = X.w := B.hw
  obtain rfl : mg = X.mg := B.hm
  have hl : us.length = ps.length := by rw [← r.length]; exact G.len _ _ _ _ q
  refine wpAny_call (codeAny_mono (G.run X.A X.stack s H ⟨us, []⟩ us vs Q (fun cls d H => W cls d σ H) (B.rm.mono hj) I.env0 (by have hb' := hb s us I.kIn (by simpa using hl); rw [List.append_nil] at hb'; exact hb') r q) fun r' s' hq => ?_)
  cases r' with
  | error e => exact B.ps σ pins H s e s' I hq
  | ok fl =>
    cases fl with
    | ret u => exact I.after hq
    | next => exact False.elim hq
    | brk => exact False.elim hq
    | cont => exact False.elim hq
theorem Post.bindV0 {μ : Mu} {F H : Hp} {β : Type} {G : β → Sto → Mu → Hp → Hp → Prop} {m : Res Vl} {k : Vl → Sto → Res β} {Q : VK} (h : Post C G μ F H (m.bind k))
    (hk : ∀ x s v μ1 F1 H1, Ext μ F H μ1 F1 H1 → SR C.K μ1 F1 H1 s → Vok C.K F1 μ1 x v → Post C G μ F H (k x s) → Q v H1) : PostV C Q μ F H m := by
  cases m with
  | ok x s => exact fun v μ1 F1 H1 e s1 o => hk x s v μ1 F1 H1 e s1 o h
  | er e s => exact h
  | no => exact h
/-- what came first may be an error -/
theorem Post.bindA1 {μ μ1 : Mu} {F H F1 H1 : Hp} {β : Type} {G : β → Sto → Mu → Hp → Hp → Prop} {m : Res (List Vl)} {k : List Vl → Sto → Res β} {Q : List V → Hp → Prop} (x : Ext μ F H μ1 F1 H1) (h : Post C G μ F H (m.bind k))
    (hk : ∀ x s v μ2 F2 H2, Ext μ1 F1 H1 μ2 F2 H2 → SR C.K μ2 F2 H2 s → VokAll C.K F2 μ2 x v → Post C G μ F H (k x s) → Q v H2) : PostA C Q μ1 F1 H1 m := by
  cases m with
  | ok x s => exact fun v μ1 F1 H1 e s1 o => hk x s v μ1 F1 H1 e s1 o h
  | er e s => exact Erw.later x h
  | no => exact h
theorem s_meth {pl : Sem Bool} (B : Bd k X C) (G : KnM X.prog X.w X.K X.mg X.base cls m j sem) (hj : j ≤ k) (ho : PE X o (tM C mo)) (ha : PA X (e :: es) (tAs C mas))
    (hst : starEach (e :: es) X.env = (false, eval e X.env) :: starEach es X.env := by rfl) (hpl : (backTo pos (starEach es X.env)).any (·.1) = false := by rfl)
    (ht : eval (.Call (.Attribute o m apos) (e :: es) [] pos) X.env = (do
      let ov ← eval o X.env
      standAt apos.atName
      let (f, first) ← holding [ov] (getMethod ov m pl)
      callWith pos f first (backTo pos (starEach (e :: es) X.env)) (backToKw pos (keywordEach [] X.env))) := by rfl) :
    PE X (.Call (.Attribute o m apos) (e :: es) [] pos) (tM C (mMeth cls m sem mo mas)) := by
  obtain ⟨hc, fd, ps, hm, hb, G⟩ := G
  obtain ⟨⟨K, w⟩, mg, W, σC⟩ := C
  obtain rfl : K = X.K := B.hK
  obtain rfl : w = X.w := B.hw
  obtain rfl : mg = X.mg := B.hm
  refine ⟨fun pins s σ H Q I ⟨ρ, st, μ, F, h1, h2, h3⟩ => ?_⟩
  refine PySem.W.methodCall_KW (pl := pl) (thn ((pv_frz ho).run pins s σ H (fun x H1 => ∃ a dx us, x = V.ref a ∧ H1 a = some (.ins (He.ga X.K cls) dx us) ∧ us.lookup m = none ∧ tAs ⟨⟨X.K, X.w⟩, X.mg, W, σC⟩ mas σ H1 fun vs H2 => spF ⟨X.K, X.w⟩ X.mg sem (.ref a :: vs) H2 Q fun cls d H => W cls d σ H) I ⟨ρ, st, μ, F, h1, h2, Post.bindV0 h3 fun x s1 v μ1 F1 H1 x1 r1 k1 h4 => ?_⟩) fun u s1 ⟨x, H1, I1, rx, a, dx, us, ex, ea, hl, q⟩ => ?_) ht
  · split at h4
    · rename_i j
      obtain ⟨a0, ha0, rfl⟩ := k1
      cases q : insAt s1 j cls with
      | none => simp only [q] at h4; exact False.elim h4
      | some fs =>
        simp only [q] at h4
        split at h4
        · rename_i hn
          obtain ⟨objs, a, dx, us, q1, q2, q3, q4, q5, q6, q7⟩ := insAt_ok r1 q
          rw [ha0] at q3; cases q3
          refine ⟨a0, dx, us, rfl, q5, q7.none (by simpa using hn), ρ, s1, μ1, F1, h1.ext x1, r1, ?_⟩
          exact Post.bindA1 x1 h4 fun xs s2 vs μ2 F2 H2 x2 r2 k2 h5 => ⟨.o (.ob j) :: xs, s2, μ2, F2, .cons (show ObOk ⟨X.K, X.w⟩ F2 μ2.η (.ob j) (.ref a0) from ObOk.ext (K := ⟨X.K, X.w⟩) (x := .ob j) x2 ⟨a0, ha0, rfl⟩) k2, r2, call_post h2 (x1.trans x2) h5⟩
        · exact False.elim h4
    · exact False.elim h4
  · subst ex
    obtain rfl : u = Value.ref a := rx
    refine getmeth_ok I1 ea hc hm hl ?_
    refine PySem.W.callWith_K (first := [.ref a]) (h₀ := X.base) I.ok.mod.kin hm.kp (thn (ha.run pos pins s1 σ H1 _ I1 q) fun us s2 ⟨vs, H2, I2, r, q2⟩ => ⟨I2.kIn, ?_⟩) hst hpl
    exact meth_run B hb G hj (us := .ref a :: us) (vs := .ref a :: vs) I2 (.cons rfl r) q2
theorem s_meth0 {pl : Sem Bool} (B : Bd k X C) (G : KnM X.prog X.w X.K X.mg X.base cls m j sem) (hj : j ≤ k) (ho : PE X o (tM C mo))
    (ht : eval (.Call (.Attribute o m apos) [] [] pos) X.env = (do
      let ov ← eval o X.env
      standAt apos.atName
      let (f, first) ← holding [ov] (getMethod ov m pl)
      callWith pos f first (backTo pos (starEach [] X.env)) (backToKw pos (keywordEach [] X.env))) := by rfl) :
    PE X (.Call (.Attribute o m apos) [] [] pos) (tM C (mMeth cls m sem mo aNil)) := by
  obtain ⟨hc, fd, ps, hm, hb, G⟩ := G
  obtain ⟨⟨K, w⟩, mg, W, σC⟩ := C
  obtain rfl : K = X.K := B.hK
  obtain rfl : w = X.w := B.hw
  obtain rfl : mg = X.mg := B.hm
  refine ⟨fun pins s σ H Q I ⟨ρ, st, μ, F, h1, h2, h3⟩ => ?_⟩
  refine PySem.W.methodCall_KW (pl := pl) (thn ((pv_frz ho).run pins s σ H (fun x H1 => ∃ a dx us, x = V.ref a ∧ H1 a = some (.ins (He.ga X.K cls) dx us) ∧ us.lookup m = none ∧ spF ⟨X.K, X.w⟩ X.mg sem [.ref a] H1 Q fun cls d H => W cls d σ H) I ⟨ρ, st, μ, F, h1, h2, Post.bindV0 h3 fun x s1 v μ1 F1 H1 x1 r1 k1 h4 => ?_⟩) fun u s1 ⟨x, H1, I1, rx, a, dx, us, ex, ea, hl, q⟩ => ?_) ht
  · split at h4
    · rename_i j
      obtain ⟨a0, ha0, rfl⟩ := k1
      cases q : insAt s1 j cls with
      | none => simp only [q] at h4; exact False.elim h4
      | some fs =>
        simp only [q] at h4
        split at h4
        · rename_i hn
          obtain ⟨objs, a, dx, us, q1, q2, q3, q4, q5, q6, q7⟩ := insAt_ok r1 q
          rw [ha0] at q3; cases q3
          exact ⟨a0, dx, us, rfl, q5, q7.none (by simpa using hn), [.o (.ob j)], s1, μ1, F1, .cons ⟨a0, ha0, rfl⟩ .nil, r1, call_post h2 x1 h4⟩
        · exact False.elim h4
    · exact False.elim h4
  · subst ex
    obtain rfl : u = Value.ref a := rx
    refine getmeth_ok I1 ea hc hm hl ?_
    exact PySem.W.callWith_K0 (first := [.ref a]) I1.kIn hm.kp (meth_run B hb G hj (us := [.ref a]) (vs := [.ref a]) I1 (.cons rfl .nil) q)
/-! ### a new instance -/
theorem make_run (B : Bd k X C) {fd : FuncData} {ps : List Str} {CA f : Addr} (M : Mk X.K CA f) (hb : Binds X.K fd ps []) (G : FnC X.prog X.w X.K X.mg X.base j f fd ps sem) (hj : j + 1 ≤ k) {pins : List (Addr × Obj)} {s : Shared} {σ : L2.St} {H : Hp} {us : List Value} {vs : List V} {Q : VK} (I : Inv X pins σ H s) (r : Vals vs us)
    (h : ∀ x dx, H x = none → H dx = none → dx ≠ x → spF ⟨X.K, X.w⟩ X.mg sem (.ref x :: vs) (upd (upd H dx (.own x)) x (.ins CA dx [])) (fun v H2 => v = .non ∧ Q (.ref x) H2) fun cls d H => C.W cls d σ H) :
    wpAny (model X.prog X.w) X.A (call (.ref CA) us) (EP X pins σ Q) X.xe s := by
  obtain ⟨⟨K, w⟩, mg, W, σC⟩ := C
  obtain rfl : K = X.K := B.hK
  obtain rfl : w = X.w := B.hw
  obtain rfl : mg = X.mg := B.hm
  have hq := h (s.heap.objs.size + 1) s.heap.objs.size (I.hok.fresh (Nat.le_succ _)) (I.hok.fresh (Nat.le_refl _)) (Nat.ne_of_lt (Nat.lt_succ_self _))
  have I2 := Inv.made (C := CA) I
  have r2 : Vals (V.ref (s.heap.objs.size + 1) :: vs) (Value.ref (s.heap.objs.size + 1) :: us) := .cons rfl r
  have hl : (Value.ref (s.heap.objs.size + 1) :: us).length = ps.length := by
    rw [← r2.length]; exact G.len _ _ _ _ hq
  have rm : Rm (j + 1) X.A := B.rm.mono hj
  have rm2 : Rm j (X.A.under (.builtin "type.__call__" ⟨.ref CA :: us, []⟩)) := ⟨rm.room.make CA us [], by
    have e : (Code.builtin "type.__call__" ⟨.ref CA :: us, []⟩).isGuard = false := by first | rfl | decide | simp [Code.isGuard]
    have z : (Code.builtin "type.__call__" ⟨.ref CA :: us, []⟩).guards = [] := by
      unfold Code.guards
      rw [e]; rfl
    have := rm.gd
    simp only [Around.under, z]
    exact this⟩
  refine wpAny_call (make_map (f := f) I.kIn M.makes M.init (beq_iff_eq.mp M.fn) (codeAny_mono (G.run _ X.stack _ _ ⟨Value.ref (s.heap.objs.size + 1) :: us, []⟩ (Value.ref (s.heap.objs.size + 1) :: us) _ _ (fun cls d H => W cls d σ H) rm2
    (I2.env0.make CA us []) (by have hb' := hb _ (Value.ref (s.heap.objs.size + 1) :: us) I2.kIn (by simpa using hl); rw [List.append_nil] at hb'; exact hb') r2 hq) fun r s' hq' => ?_))
  cases r with
  | error e => exact B.ps σ pins _ _ e s' I2 hq'
  | ok fl =>
    cases fl with
    | ret u =>
      obtain ⟨v, H', I3, rv, ev, q3⟩ := I2.after hq'
      subst ev
      exact ⟨rv, ⟨V.ref (s.heap.objs.size + 1), H', I3, rfl, q3⟩⟩
    | next => exact False.elim hq'
    | brk => exact False.elim hq'
    | cont => exact False.elim hq'
theorem make_post {K : Kw} {Q : VK} {μ μ1 : Mu} {F H F1 H1 : Hp} {st s : Sto} {xs : List Vl} {vs : List V} {mg : Str → Option Value} {W : WX} {σ : L2.St} {σC : L2.St} (h2 : SR K μ F H st) (x1 : Ext μ F H μ1 F1 H1) (r1 : SR K μ1 F1 H1 s) (k1 : VokAll K F1 μ1 xs vs)
    (h : PostE (Cn.at ⟨K, mg, W, σC⟩ σ) Q μ F H (initR st.length (objsOf s).length (sem (.o (.ob (objsOf s).length) :: xs) (newO s (.ins cls []))))) :
    ∀ x dx, H1 x = none → H1 dx = none → dx ≠ x → spF K mg sem (.ref x :: vs) (upd (upd H1 dx (.own x)) x (.ins (He.ga K.K cls) dx [])) (fun v H2 => v = .non ∧ Q (.ref x) H2) fun cls d H => W cls d σ H := by
  intro x dx hx hdx hne
  obtain ⟨objs, k0, _⟩ := id r1.obs
  have eo := objsOf_eq k0
  obtain ⟨ra, xa⟩ := r1.newly (o := .own x) hdx
  have da := r1.dead hdx
  obtain ⟨rb, xb, sm⟩ := ra.freeze xa r1.sub hdx upd_same da.1 da.2
  have hx2 : upd H1 dx (.own x) x = none := by rw [upd_ne (Ne.symm hne)]; exact hx
  obtain ⟨rc, xc⟩ := rb.newly (o := .ins (He.ga K.K cls) dx []) hx2
  have dc := rb.dead hx2
  have xbc := xb.trans xc
  have hp : HoOk K (upd F1 dx (.own x)) (μ1.η ++ [x]) x (.ins cls []) (.ins (He.ga K.K cls) dx []) := ⟨dx, [], rfl, upd_same, .nil⟩
  obtain ⟨rd, xd, hi⟩ := rc.alloc xbc k0 hx upd_same dc.1 dc.2 hp
  rw [eo] at h
  refine ⟨.o (.ob objs.length) :: xs, s.set 0 (heapC (objs ++ [.ins cls []])), μ1.obj x, upd F1 dx (.own x), .cons ⟨x, hi, rfl⟩ (VokAll.ext (C := Cn.at ⟨K, mg, W, σC⟩ σ) xd k1), rd, ?_⟩
  unfold newO at h
  rw [eo] at h
  have xx := x1.trans xd
  cases q : sem (.o (.ob objs.length) :: xs) (s.set 0 (heapC (objs ++ [.ins cls []]))) with
  | no => rw [q] at h; exact h
  | er e s2 =>
    rw [q] at h
    intro cls' dd μ' F' H' y r z
    obtain ⟨c1, c2, c3⟩ := r.cut (xx.trans y) st.length h2.len h2.pos
    exact h cls' dd _ F' H' c2 c1 z
  | ok r s2 =>
    rw [q] at h
    intro v μ' F' H' o
    obtain ⟨c1, c2, c3⟩ := o.sr.cut (xx.trans o.ext) st.length h2.len h2.pos
    cases r with
    | d d =>
      cases d with
      | none =>
        cases (show Dq K F' v .none from o.rok)
        refine ⟨rfl, h (.ref x) _ F' H' ⟨c2, c1, ?_, fun _ e => nomatch e⟩⟩
        obtain ⟨r', e'⟩ := o.ext.preη
        exact ⟨x, by show μ'.η[objs.length]? = _; rw [e', List.getElem?_append_left (List.getElem?_eq_some_iff.mp hi).1]; exact hi, rfl⟩
      | _ => exact False.elim h
    | _ => exact False.elim h
theorem s_make (B : Bd k X C) (G : KnC X.prog X.w X.K X.mg X.base cls j sem) (hj : j + 1 ≤ k) (hg : Gl X cls) (ha : PA X (e :: es) (tAs C mas)) (hdb : (cls == ("__debug__" : Str)) = false := by decide)
    (he : starEach (e :: es) X.env = (false, eval e X.env) :: starEach es X.env := by rfl) (hpl : (backTo pos (starEach es X.env)).any (·.1) = false := by rfl) : PE X (.Call (.Name cls p) (e :: es) [] pos) (tM C (mMake cls sem mas)) := by
  obtain ⟨hm, fd, ps, M, hb, G⟩ := G
  obtain ⟨⟨K, w⟩, mg, W, σC⟩ := C
  obtain rfl : K = X.K := B.hK
  obtain rfl : w = X.w := B.hw
  obtain rfl : mg = X.mg := B.hm
  refine ⟨fun pins s σ H Q I ⟨ρ, st, μ, F, h1, h2, h3⟩ => ?_⟩
  refine wpAny_Call_Name_kw (ld_glob I hg hm ?_ hdb)
  refine PySem.W.callWith_K (h₀ := X.base) I.ok.mod.kin M.kp (thn (ha.run pos pins s σ H (fun vs H1 => ∀ x dx, H1 x = none → H1 dx = none → dx ≠ x → spF ⟨X.K, X.w⟩ X.mg sem (.ref x :: vs) (upd (upd H1 dx (.own x)) x (.ins (He.ga X.K cls) dx [])) (fun v H2 => v = .non ∧ Q (.ref x) H2) fun cls d H => W cls d σ H) I ⟨ρ, st, μ, F, h1, h2, Post.bindA0 h3 fun xs s1 vs μ1 F1 H1 x1 r1 k1 h4 => make_post h2 x1 r1 k1 h4⟩) fun us s1 ⟨vs, H1, I1, r, q⟩ => ⟨I1.kIn, ?_⟩) he hpl
  exact make_run B M hb G hj I1 r q
end
/-! ### a new list that is an object -/
def objz (r : Rv) (s : Sto) : Res Vl := match r with
  | .n (.l xs) => .ok (.o (.ob (objsOf s).length)) (newO s (.lst (xs.map Fv.d)))
  | r => .ok (frz r) s
def mVo (m : Ev) : En → Sto → Res Vl := fun ρ st => (m ρ st).bind objz
section
variable {X : Cx} {C : Cn} {k j : Nat} {cls f m : Str} {p pos apos pos' cpos : Pos} {o e i value : Expr} {es : List Expr} {mo mv ma mb mi : Ev} {mas : En → Sto → Res (List Vl)} {sem : Fs}
theorem pv_obj {m : Ev} (h : PE X e (tM C m)) : PE X e (tV C (mVo m)) := h.imp fun σ H Q ⟨ρ, st, μ, F, h1, h2, h3⟩ => ⟨ρ, st, μ, F, h1, h2, by
  show PostE (C.at σ) Q μ F H (m ρ st)
  cases e : m ρ st with
  | ok r st' =>
    simp only [mVo, e] at h3
    intro v μ' F' H' o
    have h3 : PostV (C.at σ) Q μ F H (objz r st') := h3
    unfold objz at h3
    split at h3
    · rename_i xs _
      obtain ⟨ext, sr, ⟨a, ob, rfl, g2, g3, g4, g5⟩, new⟩ := o
      obtain ⟨a', e1, h0⟩ := new _ rfl
      cases e1
      obtain ⟨ys, rfl, g6⟩ := g3
      obtain ⟨objs, k0, _⟩ := id sr.obs
      have eo := objsOf_eq k0
      have hp : HoOk (C.at σ).K F' (μ'.η ++ [a]) a (.lst (xs.map Fv.d)) (.lst ys) := ⟨ys, rfl, FvAll.ofD g6⟩
      obtain ⟨s2, x2, hi⟩ := sr.alloc ext k0 h0 g2 g4 g5 hp
      unfold newO at h3
      rw [eo] at h3
      exact h3 _ _ _ _ x2 s2 ⟨a, hi, rfl⟩
    · obtain ⟨F2, x2, s2, kk⟩ := frz_out h2 o
      exact h3 v μ' F2 H' x2 s2 kk
  | er e2 st' => simp only [mVo, e] at h3; exact h3
  | no => simp only [mVo, e] at h3; exact h3⟩
/-! ### append, pop, items -/
def mAppO (mo ma : Ev) : Ev := fun ρ st => (mV mo ρ st).bind fun x s1 => match x with
  | .o (.ob j) => match olAt s1 j with
    | none => .no
    | some _ => (mV ma ρ s1).bind fun y s2 => match fvOf y, olAt s2 j with
      | some v, some xs => if xs.length < sizeLine then .ok (.d .none) (putO s2 j (.lst (xs ++ [v]))) else .no
      | _, _ => .no
  | _ => .no
theorem y_appO (ho : PE X o (tM C mo)) (he : PE X e (tM C ma)) (hbase : attributeBase o "append" X.env (eval o X.env) = eval o X.env := by rfl)
    (hfew : ((backTo cpos (starEach [e] X.env)).all (fun x => !x.1) && (backToKw cpos (keywordEach [] X.env)).all (fun x => x.1.isSome) && decide ([e].length + ([] : List Keyword).length + (if ([] : List Keyword).isEmpty then 0 else 1) < 30)) = true := by rfl)
    (hline : (apos.endLine == cpos.line) = true := by rfl) (hs : starEach [e] X.env = (false, eval e X.env) :: starEach [] X.env := by rfl) (hpl : NA X [] cpos := by rfl) : PE X (.Call (.Attribute o "append" apos) [e] [] cpos) (tM C (mAppO mo ma)) :=
  (pe_bm PySem.F.plainAttrs_list PySem.F.slot_list_append PySem.F.type_list_append mt_append (pv_frz ho) (pa_cons (pv_frz he) pa_nil hs) hbase hfew hline hs hpl).imp fun σ H Q ⟨ρ, st, μ, F, h1, h2, h3⟩ => ⟨ρ, st, μ, F, h1, h2, Post.bindV gE_lat h3 fun x s v μ1 F1 H1 x1 r1 k1 h4 => by
    split at h4
    · rename_i j
      obtain ⟨a0, ha0, rfl⟩ := k1
      cases q : olAt s j with
      | none => simp only [q] at h4; exact False.elim h4
      | some zs =>
        simp only [q] at h4
        obtain ⟨objs, a, us, q1, q2, q3, q4, q5, q6⟩ := olAt_ok r1 q
        rw [ha0] at q3; cases q3
        refine ⟨.inl ⟨rfl, _, SqL.of q5⟩, ρ, s, μ1, F1, h1.ext x1, r1, Post.bindV gE_lat h4 fun y s2 u μ2 F2 H2 x2 r2 k2 h5 => ?_⟩
        split at h5
        · rename_i v xs e1 e2
          obtain ⟨objs', a', us', p1, p2, p3, p4, p5, p6⟩ := olAt_ok r2 e2
          have ha2 : μ2.η[j]? = some a0 := by
            obtain ⟨r, e⟩ := x2.preη
            rw [e, List.getElem?_append_left (List.getElem?_eq_some_iff.mp ha0).1]; exact ha0
          rw [ha2] at p3; cases p3
          split at h5
          · rename_i hl
            obtain ⟨w1, w2⟩ := r2.owrite (y := .lst (xs ++ [v])) (o := .lst (us' ++ [u])) p1 ha2 ⟨_, rfl, p6.app (.cons (fvOf_ok k2 e1) .nil)⟩
            exact ⟨_, _, _, rfl, rfl, p5, by rw [← p6.length]; exact hl, h5 .non _ _ _ ⟨w2, by unfold putO; rw [p2]; exact w1, .non, fun _ z => nomatch z⟩⟩
          · exact False.elim h5
        · exact False.elim h5
    · exact False.elim h4⟩
def mPopO (mo : Ev) : Ev := fun ρ st => (mV mo ρ st).bind fun x s1 => match x with
  | .o (.ob j) => match olAt s1 j with
    | some xs => match xs[xs.length - 1]? with
      | some v => .ok v.rv (putO s1 j (.lst xs.dropLast))
      | none => .no
    | none => .no
  | _ => .no
theorem FvAll.dropLast {K : Kw} {F : Hp} {η : List Addr} {xs : List Fv} {us : List V} (h : FvAll K F η xs us) : FvAll K F η xs.dropLast us.dropLast := by
  rw [List.dropLast_eq_take, List.dropLast_eq_take, h.length]
  exact h.take _
theorem out_fv2 {K : Kw} {μ μ1 : Mu} {F H F1 H1 : Hp} {s : Sto} {x : Fv} {v : V} (x1 : Ext μ F H μ1 F1 H1) (r : SR K μ1 F1 H1 s) (h : FvOk K F1 μ1.η x v) : Out K μ F H s x.rv v μ1 F1 H1 := by
  cases x with
  | d x => exact ⟨x1, r, h, fun c e => nomatch e⟩
  | ob j => exact ⟨x1, r, h, fun c e => nomatch e⟩
theorem y_popO (ho : PE X o (tM C mo)) (hbase : attributeBase o "pop" X.env (eval o X.env) = eval o X.env := by rfl) (hline : (apos.endLine == cpos.line) = true := by rfl) : PE X (.Call (.Attribute o "pop" apos) [] [] cpos) (tM C (mPopO mo)) :=
  (show PE X _ (tBM0 X.K "list" rPop (tV C (mV mo))) from pe_bm0 PySem.F.plainAttrs_list PySem.F.slot_list_pop PySem.F.type_list_pop mt_pop (pv_frz ho) hbase hline).imp fun σ H Q ⟨ρ, st, μ, F, h1, h2, h3⟩ => ⟨ρ, st, μ, F, h1, h2, Post.bindV gE_lat h3 fun x s v μ1 F1 H1 x1 r1 k1 h4 => by
    split at h4
    · rename_i j
      obtain ⟨a0, ha0, rfl⟩ := k1
      cases q : olAt s j with
      | none => simp only [q] at h4; exact False.elim h4
      | some zs =>
        simp only [q] at h4
        obtain ⟨objs, a, us, q1, q2, q3, q4, q5, q6⟩ := olAt_ok r1 q
        rw [ha0] at q3; cases q3
        cases q7 : zs[zs.length - 1]? with
        | none => simp only [q7] at h4; exact False.elim h4
        | some y =>
          simp only [q7] at h4
          obtain ⟨v', g4, g5⟩ := q6.get q7
          obtain ⟨w1, w2⟩ := r1.owrite (y := .lst zs.dropLast) (o := .lst us.dropLast) q1 ha0 ⟨_, rfl, q6.dropLast⟩
          exact ⟨.inl ⟨rfl, _, SqL.of q5⟩, _, _, _, rfl, rfl, q5, by rw [← q6.length]; exact g4, h4 v' _ _ _ (out_fv2 w2 (by unfold putO; rw [q2]; exact w1) g5)⟩
    · exact False.elim h4⟩
/-- xs[i], xs an object -/
def mIxO (mo mi : Ev) : Ev := fun ρ st => (mV mo ρ st).bind fun x s1 => (mV mi ρ s1).bind fun y s2 => match x, y with
  | .o (.ob j), .d (.int i) => match (olAt s2 j).bind (atI · i) with
    | some v => .ok v.rv s2
    | none => .no
  | _, _ => .no
end
/-! ### a method means its body -/
section
variable {P : Program} {w : World} {K : PySem.W.Frag} {mg : Str → Option Value} {base : Heap} {k : Nat} {x q cls : Str} {N ps : List Str} {sb : Sv} {st : Stmt}
theorem fn_defQ {f : Addr} {fd : FuncData} (F : FunD K x q (defArgs st) (defBody st) (defScope st) [] [] f fd) (S : FnScope N ps (defScope st))
    (body : ∀ (cdv : Value) (f : Addr) (A : Around) (outer : List Env) (s : Shared) (H : Hp) (E : XK), Bd k (cxOf (L2.CX P w) P w K mg base N q (defScope st) f cdv A outer s H E) (Cn.ofE ⟨K, w⟩ mg E) →
      PSs (cxOf (L2.CX P w) P w K mg base N q (defScope st) f cdv A outer s H E) (defBody st) (tS (Cn.ofE ⟨K, w⟩ mg E) sb)) : FnC P w K mg base (k + 1) f fd ps (bodyF N.length ps.length sb) := by
  obtain ⟨oc, od, dV, kV, doc, pm, an, cdv, ct, osl, rfl, lk, hcd, hD, hKw⟩ := F.ex
  rcases hD with ⟨_, rfl⟩ | ⟨e, _⟩
  case inr => exact absurd rfl e
  have hlen : ∀ vs H Q E, spF ⟨K, w⟩ mg (bodyF N.length ps.length sb) vs H Q E → vs.length = ps.length := fun vs H Q E ⟨args, st, μ, F, a, b, c⟩ => by
    unfold bodyF at c
    by_cases hl : args.length = ps.length
    · rw [← a.length, hl]
    · rw [if_neg hl] at c; exact False.elim c
  refine ⟨hlen, fun A outer s H args us vs Q E hr e0 hbd r hsp => ?_⟩
  have hl := hlen _ _ _ _ hsp
  have KX : K.In s.heap := e0.mod.kin.keeps fun b o e => (e0.bs b o e).1
  have lim : s.heap.NoLimit := e0.mod.nolimit.keeps fun b o e => (e0.bs b o e).1
  have hkind : ∀ y ∈ ps.zip us, (defScope st).names.lookup y.1 = some .local ∨ ((defScope st).names.lookup y.1 = some .cell ∧ ((cellsFrom (s.heap.objs.size + 1) (defScope st).names []).lookup y.1).isSome = true) := fun ⟨n, v⟩ hy =>
    (S.par n (List.of_mem_zip hy).1).imp id fun q => ⟨q, PySem.W.cellsFrom_some _ _ _ (.inl q)⟩
  refine codeAny_call_function hr.room.depth (KX _ _ lk) rfl S.co S.gen rfl (PySem.W.codeRec_of KX hcd) (hbd _ _ _ _ ?_)
  refine wpAny_newFunctionEnv_cells S.kind hkind fun env he s1 y => ?_
  subst he
  refine ⟨lim.keeps y.toInCall.keep, codeAny_func ?_⟩
  have hr2 : Rm k (A.deeper (PyProof.Rows.envOfC q (defScope st) s.heap.objs.size f cdv)) := ⟨hr.room.deeper _, hr.gd⟩
  have I : Inv (cxOf (L2.CX P w) P w K mg base N q (defScope st) f cdv A outer s H E) [] (L2.start N vs) H s1 := inv_start S hr.room.hd e0 hl r y
  have bd : Bd k (cxOf (L2.CX P w) P w K mg base N q (defScope st) f cdv A outer s H E) (Cn.ofE ⟨K, w⟩ mg E) := ⟨rfl, S.nd, passes_of rfl, fun σ pins H s e s' I c => passes_call (takes_of rfl rfl rfl rfl) (fun _ _ _ _ h => h) pins σ H s e s' I c, rfl, rfl, rfl, hr2, takes_of rfl rfl rfl rfl⟩
  obtain ⟨as, st0, μ, F0, a, b, c⟩ := hsp
  have hal : as.length = ps.length := by rw [a.length, hl]
  unfold bodyF at c
  rw [if_pos hal] at c
  refine wpAny_mono ((body cdv f A outer s H E bd).run [] s1 (L2.start N vs) H { nx := fun _ H' => Q .non H', rt := Q } I ⟨_, st0, μ, F0, start_ok N a, b, ?_⟩) (fun fl s' hs => ?_) fun e s' hs => hs
  · show PostS _ _ μ F0 H (sb (as.map some ++ List.replicate (N.length - as.length) none) st0)
    cases q : sb (as.map some ++ List.replicate (N.length - as.length) none) st0 with
    | rt r s => simp only [q] at c; exact c
    | nx ρ s => simp only [q] at c; exact fun σ' μ' F' H' x2 r2 _ => c .non μ' F' H' ⟨x2, r2, .non, fun _ e => nomatch e⟩
    | er e s => simp only [q] at c; exact c
    | bk ρ s => simp only [q] at c; exact False.elim c
    | ct ρ s => simp only [q] at c; exact False.elim c
    | no => simp only [q] at c; exact False.elim c
  · have fin : ∀ {σ' : St} {H' : Hp} {v : V} {u : Value}, Inv (cxOf (L2.CX P w) P w K mg base N q (defScope st) f cdv A outer s H E) [] σ' H' s' → RelV v u → Q v H' → CE outer P w H s Q u s' :=
      fun {σ' H' v u} J rv q => ⟨v, H', J.os, J.bare, J.base, J.hok, rv, q⟩
    cases fl with
    | ret u => obtain ⟨v, σ', H', J, rv, q⟩ := hs; exact fin J rv q
    | next => obtain ⟨σ', H', J, q⟩ := hs; exact fin (v := V.non) (u := Value.none) J rfl q
    | brk => obtain ⟨_, _, _, q⟩ := hs; exact False.elim q
    | cont => obtain ⟨_, _, _, q⟩ := hs; exact False.elim q
/-- a method of the text -/
def DfM (K : PySem.W.Frag) (cls m q : Str) (st : Stmt) : Prop := Cls K (He.ga K cls) ∧ ∃ fd, FunD K m q (defArgs st) (defBody st) (defScope st) [] [] (He.ma K (He.ga K cls) m) fd ∧ Meth K (He.ga K cls) m (He.ma K (He.ga K cls) m)
/-- the __init__ of a class -/
def DfI (K : PySem.W.Frag) (mg : Str → Option Value) (cls q : Str) (st : Stmt) : Prop := mg cls = some (.ref (He.ga K cls)) ∧ ∃ fd, FunD K "__init__" q (defArgs st) (defBody st) (defScope st) [] [] (He.ma K (He.ga K cls) "__init__") fd ∧ Mk K (He.ga K cls) (He.ma K (He.ga K cls) "__init__")
theorem binds_of {f : Addr} {fd : FuncData} (F : FunD K x q (defArgs st) (defBody st) (defScope st) [] [] f fd)
    (hb : ∀ (kV doc pm : Value) (an : Option Addr) (cdv ct : Value) (us : List Value), us.length = ps.length → bindArgs (PySem.W.fnOf x q (defArgs st) (defBody st) (defScope st) .none kV doc pm an cdv ct) ⟨us, []⟩ = pure (ps.zip us)) : Binds K fd ps [] := by
  obtain ⟨oc, od, dV, kV, doc, pm, an, cdv, ct, osl, rfl, lk, hcd, hD, hKw⟩ := F.ex
  rcases hD with ⟨_, rfl⟩ | ⟨e, _⟩
  · exact Binds.all fun us hl => hb kV doc pm an cdv ct us hl
  · exact absurd rfl e
theorem kn_defM (D : DfM K cls x q st) (S : FnScope N ps (defScope st))
    (hb : ∀ (kV doc pm : Value) (an : Option Addr) (cdv ct : Value) (us : List Value), us.length = ps.length → bindArgs (PySem.W.fnOf x q (defArgs st) (defBody st) (defScope st) .none kV doc pm an cdv ct) ⟨us, []⟩ = pure (ps.zip us))
    (body : ∀ (cdv : Value) (f : Addr) (A : Around) (outer : List Env) (s : Shared) (H : Hp) (E : XK), Bd k (cxOf (L2.CX P w) P w K mg base N q (defScope st) f cdv A outer s H E) (Cn.ofE ⟨K, w⟩ mg E) →
      PSs (cxOf (L2.CX P w) P w K mg base N q (defScope st) f cdv A outer s H E) (defBody st) (tS (Cn.ofE ⟨K, w⟩ mg E) sb)) : KnM P w K mg base cls x (k + 1) (bodyF N.length ps.length sb) := by
  obtain ⟨hc, fd, F, hm⟩ := D
  exact ⟨hc, fd, ps, hm, binds_of F hb, fn_defQ F S body⟩
theorem kn_defI (D : DfI K mg cls q st) (S : FnScope N ps (defScope st))
    (hb : ∀ (kV doc pm : Value) (an : Option Addr) (cdv ct : Value) (us : List Value), us.length = ps.length → bindArgs (PySem.W.fnOf "__init__" q (defArgs st) (defBody st) (defScope st) .none kV doc pm an cdv ct) ⟨us, []⟩ = pure (ps.zip us))
    (body : ∀ (cdv : Value) (f : Addr) (A : Around) (outer : List Env) (s : Shared) (H : Hp) (E : XK), Bd k (cxOf (L2.CX P w) P w K mg base N q (defScope st) f cdv A outer s H E) (Cn.ofE ⟨K, w⟩ mg E) →
      PSs (cxOf (L2.CX P w) P w K mg base N q (defScope st) f cdv A outer s H E) (defBody st) (tS (Cn.ofE ⟨K, w⟩ mg E) sb)) : KnC P w K mg base cls (k + 1) (bodyF N.length ps.length sb) := by
  obtain ⟨hc, fd, F, hm⟩ := D
  exact ⟨hc, fd, ps, hm, binds_of F hb, fn_defQ F S body⟩
end
/-! ### what these come to -/
section
variable {E : Er → Sto → Prop} {st : Sto} {ρ : En} {m mo ma mi : Ev} {mas : En → Sto → Res (List Vl)} {cls f : Str} {sem : Fs} {PE : Rv → Sto → Prop} {PV : Vl → Sto → Prop} {PR : En → Sto → Prop} {N B C : En → Sto → Prop} {R : Rv → Sto → Prop}
@[simp] theorem rv_d (x : PyData) : (Fv.d x).rv = .d x := rfl
@[simp] theorem rv_ob (j : Nat) : (Fv.ob j).rv = .o (.ob j) := rfl
@[simp] theorem vl_d (x : PyData) : (Fv.d x).vl = .d x := rfl
@[simp] theorem vl_ob (j : Nat) : (Fv.ob j).vl = .o (.ob j) := rfl
@[simp] theorem fvOf_d (x : PyData) : fvOf (.d x) = some (.d x) := rfl
@[simp] theorem fvOf_ob (j : Nat) : fvOf (.o (.ob j)) = some (.ob j) := rfl
def onOb (x : Vl) (P : Nat → Prop) : Prop := match x with
  | .o (.ob j) => P j
  | _ => False
@[simp] theorem onOb_ob (j : Nat) (P : Nat → Prop) : onOb (.o (.ob j)) P = P j := rfl
@[simp] theorem W_mFld : WVe E (mFld cls f mo ρ st) PE = WVe E (mo ρ st) fun r s => onOb (frz r) fun j => WO ((insAt s j cls).bind (·.lookup f)) fun y => PE y.rv s := by
  unfold mFld; rw [WV_bind, W_mV]
  congr 1; funext r s
  generalize frz r = v
  cases v with
  | o x =>
    cases x with
    | ob j => dsimp only [onOb]; cases (insAt s j cls).bind (·.lookup f) <;> rfl
    | _ => rfl
  | _ => rfl
@[simp] theorem W_gFld {x : Vl} : WVe E (gFld cls f mo x ρ st) PR = WO (fvOf x) fun y => WVe E (mo ρ st) fun r s => onOb (frz r) fun j => WO (insAt s j cls) fun fs => fs.length < 1000 ∧ PR ρ (putO s j (.ins cls (putFv f y fs))) := by
  unfold gFld
  cases fvOf x with
  | none => rfl
  | some y =>
    simp only [WO_some]
    rw [WV_bind, W_mV]
    congr 1; funext r s
    generalize frz r = v
    cases v with
    | o x =>
      cases x with
      | ob j =>
        dsimp only [onOb]
        cases insAt s j cls with
        | none => rfl
        | some fs =>
          simp only [WO_some]
          by_cases h : fs.length < 1000
          · rw [if_pos h]; simp [h]
          · rw [if_neg h]; simp [h]
      | _ => rfl
    | _ => rfl
@[simp] theorem W_mMeth {m : Str} : WVe E (mMeth cls m sem mo mas ρ st) PE = WVe E (mo ρ st) fun r s1 => onOb (frz r) fun j => WO (insAt s1 j cls) fun fs => fs.lookup m = none ∧ WVe E (mas ρ s1) fun xs s2 => WVe (fun e s3 => E e (s3.take st.length)) (sem (.o (.ob j) :: xs) s2) fun r s' => back st.length r s' PE := by
  unfold mMeth; rw [WV_bind, W_mV]
  congr 1; funext r s
  generalize frz r = v
  cases v with
  | o x =>
    cases x with
    | ob j =>
      dsimp only [onOb]
      cases insAt s j cls with
      | none => rfl
      | some fs =>
        simp only [WO_some]
        cases h : fs.lookup m with
        | some _ => simp
        | none =>
          simp only [Option.isNone_none, if_true, true_and]
          rw [WV_bind]
          congr 1; funext xs s2
          have := W_mCall (E := E) (st := st) (ρ := ρ) (mas := fun _ _ => .ok (.o (.ob j) :: xs) s2) (PE := PE) sem
          exact this
    | _ => rfl
  | _ => rfl
@[simp] theorem W_mMake : WVe E (mMake cls sem mas ρ st) PE = WVe E (mas ρ st) fun xs s => WVe (fun e s3 => E e (s3.take st.length)) (sem (.o (.ob (objsOf s).length) :: xs) (newO s (.ins cls []))) fun r s' => r = .d .none ∧ PE (.o (.ob (objsOf s).length)) (s'.take st.length) := by
  unfold mMake; rw [WV_bind]
  congr 1; funext xs s
  cases sem (.o (.ob (objsOf s).length) :: xs) (newO s (.ins cls [])) with
  | no => rfl
  | er e s => rfl
  | ok r s =>
    cases r with
    | d x => cases x <;> simp [initR, WVe]
    | _ => simp [initR, WVe]
def objd (r : Rv) (s : Sto) (P : Vl → Sto → Prop) : Prop := match r with
  | .n (.l xs) => P (.o (.ob (objsOf s).length)) (newO s (.lst (xs.map Fv.d)))
  | r => P (frz r) s
@[simp] theorem objd_l (xs : List PyData) (s : Sto) (P : Vl → Sto → Prop) : objd (.n (.l xs)) s P = P (.o (.ob (objsOf s).length)) (newO s (.lst (xs.map Fv.d))) := rfl
@[simp] theorem objd_d (x : PyData) (s : Sto) (P : Vl → Sto → Prop) : objd (.d x) s P = P (.d x) s := rfl
@[simp] theorem objd_o (x : Ob) (s : Sto) (P : Vl → Sto → Prop) : objd (.o x) s P = P (.o x) s := rfl
@[simp] theorem W_mVo : WVe E (mVo m ρ st) PV = WVe E (m ρ st) fun r s => objd r s PV := by
  unfold mVo; rw [WV_bind]
  congr 1; funext r s
  unfold objz objd
  split <;> rfl
@[simp] theorem W_mAppO : WVe E (mAppO mo ma ρ st) PE = WVe E (mo ρ st) fun r s1 => onOb (frz r) fun j => WO (olAt s1 j) fun _ => WVe E (ma ρ s1) fun r2 s2 => WO (fvOf (frz r2)) fun v => WO (olAt s2 j) fun xs => xs.length < sizeLine ∧ PE (.d .none) (putO s2 j (.lst (xs ++ [v]))) := by
  unfold mAppO; rw [WV_bind, W_mV]
  congr 1; funext r s
  generalize frz r = v
  cases v with
  | o x =>
    cases x with
    | ob j =>
      dsimp only [onOb]
      cases olAt s j with
      | none => rfl
      | some zs =>
        simp only [WO_some]
        rw [WV_bind, W_mV]
        congr 1; funext r2 s2
        cases fvOf (frz r2) with
        | none => rfl
        | some v =>
          simp only [WO_some]
          cases olAt s2 j with
          | none => rfl
          | some xs =>
            simp only [WO_some]
            by_cases h : xs.length < sizeLine
            · rw [if_pos h]; simp [h]
            · rw [if_neg h]; simp [h]
    | _ => rfl
  | _ => rfl
@[simp] theorem W_mPopO : WVe E (mPopO mo ρ st) PE = WVe E (mo ρ st) fun r s => onOb (frz r) fun j => WO (olAt s j) fun xs => WO xs[xs.length - 1]? fun v => PE v.rv (putO s j (.lst xs.dropLast)) := by
  unfold mPopO; rw [WV_bind, W_mV]
  congr 1; funext r s
  generalize frz r = v
  cases v with
  | o x =>
    cases x with
    | ob j =>
      dsimp only [onOb]
      cases olAt s j with
      | none => rfl
      | some xs => simp only [WO_some]; cases xs[xs.length - 1]? <;> rfl
    | _ => rfl
  | _ => rfl
@[simp] theorem W_mIxO : WVe E (mIxO mo mi ρ st) PE = WVe E (mo ρ st) fun r s1 => WVe E (mi ρ s1) fun r2 s2 => onOb (frz r) fun j => match frz r2 with
    | .d (.int i) => WO ((olAt s2 j).bind (atI · i)) fun v => PE v.rv s2
    | _ => False := by
  unfold mIxO; rw [WV_bind, W_mV]
  congr 1; funext r s; rw [WV_bind, W_mV]
  congr 1; funext r2 s2
  generalize frz r = v
  generalize frz r2 = u
  cases v with
  | o x =>
    cases x with
    | ob j =>
      cases u with
      | d y =>
        cases y with
        | int i => dsimp only [onOb]; cases (olAt s2 j).bind (atI · i) <;> rfl
        | _ => rfl
      | _ => rfl
    | _ => rfl
  | _ => rfl
@[simp] theorem W_sFldI {neg : Bool} {mv : Ev} : WSe E (sFldI cls f neg mo mv ρ st) N B C R = WVe E (mo ρ st) fun r s => onOb (frz r) fun j => match (insAt s j cls).bind (·.lookup f) with
    | some (.d (.int n)) => WVe E (mv ρ s) fun r2 s2 => match frz r2 with
      | .d (.int i) => WO (insAt s2 j cls) fun fs => fs.length < 1000 ∧ N ρ (putO s2 j (.ins cls (putFv f (.d (.int (if neg then n - i else n + i))) fs)))
      | _ => False
    | _ => False := by
  unfold sFldI; rw [WS_toS, W_mV]
  congr 1; funext r s
  generalize frz r = v
  cases v with
  | o x =>
    cases x with
    | ob j =>
      dsimp only [onOb]
      split
      · rename_i n e
        rw [WS_toS, W_mV]
        congr 1; funext r2 s2
        generalize frz r2 = u
        cases u with
        | d y =>
          cases y with
          | int i =>
            dsimp only
            cases insAt s2 j cls with
            | none => rfl
            | some fs =>
              simp only [WO_some]
              by_cases h : fs.length < 1000
              · rw [if_pos h]; simp [h]
              · rw [if_neg h]; simp [h]
          | _ => rfl
        | _ => rfl
      · rfl
    | _ => rfl
  | _ => rfl
end
/-! ### the heap cell under changes -/
section
variable {st t : Sto} {j j' i : Nat} {cls : Str} {fs fs' : List (Str × Fv)} {xs ys : List Fv} {x : Ho} {c : Cl} {d : PyData}
theorem objsOf_pos (h : (objsOf st)[j]? = some x) : 0 < st.length := by
  cases st with
  | nil => unfold objsOf at h; simp at h
  | cons a r => simp
theorem insAt_get (h : insAt st j cls = some fs) : (objsOf st)[j]? = some (.ins cls fs) := by
  unfold insAt at h
  split at h
  · rename_i c g e
    split at h
    · rename_i hc; subst hc; cases h; exact e
    · cases h
  · cases h
theorem olAt_get (h : olAt st j = some xs) : (objsOf st)[j]? = some (.lst xs) := by
  unfold olAt at h
  split at h
  · rename_i g e; cases h; exact e
  · cases h
theorem insAt_of (h : (objsOf st)[j]? = some (.ins cls fs)) : insAt st j cls = some fs := by
  unfold insAt; rw [h]; exact if_pos rfl
theorem olAt_of (h : (objsOf st)[j]? = some (.lst xs)) : olAt st j = some xs := by
  unfold olAt; rw [h]
@[simp] theorem objsOf_heap (objs : List Ho) (s : Sto) : objsOf (heapC objs :: s) = objs := objsOf_eq rfl
theorem objsOf_set0 (h : 0 < st.length) (objs : List Ho) : objsOf (st.set 0 (heapC objs)) = objs := objsOf_eq (by rw [List.getElem?_set_self h])
theorem objsOf_app (h : 0 < st.length) : objsOf (st ++ t) = objsOf st := by
  unfold objsOf; rw [List.getElem?_append_left h]
theorem objsOf_set (h : i ≠ 0) : objsOf (st.set i c) = objsOf st := by
  unfold objsOf; rw [List.getElem?_set_ne h]
theorem objsOf_take {n : Nat} (h : 0 < n) : objsOf (st.take n) = objsOf st := by
  unfold objsOf; rw [List.getElem?_take_of_lt h]
theorem objsOf_put (h : 0 < st.length) : objsOf (putO st j x) = (objsOf st).set j x := objsOf_set0 h _
theorem objsOf_new (h : 0 < st.length) : objsOf (newO st x) = objsOf st ++ [x] := objsOf_set0 h _
@[simp] theorem length_putO : (putO st j x).length = st.length := by unfold putO; simp
@[simp] theorem length_newO : (newO st x).length = st.length := by unfold newO; simp
@[simp] theorem tkPut : (putO st j x ++ t).take st.length = putO st j x := List.take_left' (by simp)
@[simp] theorem tkPut0 : (putO st j x).take st.length = putO st j x := List.take_of_length_le (by simp)
@[simp] theorem tkNew : (newO st x ++ t).take st.length = newO st x := List.take_left' (by simp)
@[simp] theorem tkNew0 : (newO st x).take st.length = newO st x := List.take_of_length_le (by simp)
theorem insAt_put (h : insAt st j cls = some fs) : insAt (putO st j (.ins cls fs')) j cls = some fs' := by
  have g := insAt_get h
  refine insAt_of ?_
  rw [objsOf_put (objsOf_pos g), List.getElem?_set_self (List.getElem?_eq_some_iff.mp g).1]
theorem olAt_put (h : olAt st j = some xs) : olAt (putO st j (.lst ys)) j = some ys := by
  have g := olAt_get h
  refine olAt_of ?_
  rw [objsOf_put (objsOf_pos g), List.getElem?_set_self (List.getElem?_eq_some_iff.mp g).1]
theorem insAt_put_ne (hp : 0 < st.length) (h : j ≠ j') : insAt (putO st j x) j' cls = insAt st j' cls := by
  unfold insAt; rw [objsOf_put hp, List.getElem?_set_ne h]
theorem olAt_put_ne (hp : 0 < st.length) (h : j ≠ j') : olAt (putO st j x) j' = olAt st j' := by
  unfold olAt; rw [objsOf_put hp, List.getElem?_set_ne h]
theorem ob_ne (h : insAt st j cls = some fs) (h' : olAt st j' = some xs) : j ≠ j' := fun e => by
  subst e
  have a := insAt_get h
  rw [olAt_get h'] at a; cases a
theorem fvsD_map : ∀ ds : List PyData, fvsD (ds.map Fv.d) = some ds
  | [] => rfl
  | d :: ds => by
    show (fvsD (ds.map Fv.d)).map (d :: ·) = _
    rw [fvsD_map ds]; rfl
theorem view_ol {ds : List PyData} (h : olAt st j = some (ds.map Fv.d)) : view st (.o (.ob j)) = some (.list ds) := by
  show viewO st j = _
  unfold viewO
  rw [olAt_get h]
  show (fvsD (ds.map Fv.d)).map PyData.list = _
  rw [fvsD_map]; rfl
end
end Cp
/-! Ces: enumerate of a text; the length of a list of objects. -/
namespace Cp
open PySem PySem.Spec PyProof.Rows L2
section
variable {X : Cx} {C : Cn} {p pos tpos : Pos} {e : Expr} {μ : Mu} {F H : Hp} {st : Sto} {mas : En → Sto → Res (List Vl)} {elts : List Expr} {kk : Nat}
def srcEnS (xs : List Vl) : Option Src := match xs with
  | [.d (.str z)] => some (enumF 0 (signs z), none)
  | _ => none
def iEnS (ma : En → Sto → Res (List Vl)) : En → Sto → Res Src := fun ρ st => (ma ρ st).bind fun xs s => okO (srcEnS xs) s
@[simp] theorem W_iEnS {E : Er → Sto → Prop} {ρ : En} {PI : Src → Sto → Prop} : WVe E (iEnS mas ρ st) PI = WVe E (mas ρ st) fun xs s => WO (srcEnS xs) fun dg => PI dg s := by
  unfold iEnS
  rw [WV_bind]
  congr 1; funext xs s
  cases srcEnS xs <;> rfl
/-! ### len of a list of objects -/
def gLenO : Sto → List Vl → Option Rv
  | s, [.o (.ob j)] => (olAt s j).map fun xs => .d (.int xs.length)
  | _, _ => none
theorem gLenO_ok (hK : C.K = X.K) : CallOk C (fun xs H Q => ∃ x n, xs = [x] ∧ LenV X.K x H n ∧ Q (.int n) H) gLenO := by
  intro xs res vs μ F H st Q s k e p
  unfold gLenO at e
  split at e
  · rename_i j
    obtain ⟨v, rfl, hv⟩ := k.one
    obtain ⟨a, h1, rfl⟩ := hv
    cases q : olAt st j with
    | none => rw [q] at e; cases e
    | some ys =>
      rw [q] at e
      cases e
      obtain ⟨objs, a', us, _, _, h2, _, h3, h4⟩ := olAt_ok s q
      rw [h1] at h2
      cases h2
      exact ⟨_, _, rfl, .inl ⟨us, SqL.of h3, h4.length⟩, fin_d s p (.int _)⟩
  · cases e
theorem k_lenO {k : Nat} {a : Expr} (B : Bd k X C) (hg : Gl X "len") (hm : X.mg "len" = none) (ha : PA X [a] (tAs C mas)) (he : starEach [a] X.env = (false, eval a X.env) :: starEach [] X.env := by rfl) (hpl : NA X [] pos := by rfl) : PE X (.Call (.Name "len" p) [a] [] pos) (tM C (mCal gLenO mas)) :=
  s_callB call_len (gLenO_ok B.hK) hg hm boot_len ha (by decide) (by decide) he hpl
end
end Cp
/-! Cfn: a def of the text as a value, and the call of a local name that holds one. -/
namespace Cp
open PySem PySem.Spec PyProof.Rows L2
section
variable {X : Cx} {C : Cn} {k j i : Nat} {a x : Str} {p pos : Pos} {e : Expr} {es : List Expr} {mas : En → Sto → Res (List Vl)}
def mFnV (x : Str) : Ev := fun _ st => .ok (.o (.fn x)) st
variable {E : Er → Sto → Prop} {ρ : En} {st : Sto} {PE' : Rv → Sto → Prop}
@[simp] theorem W_mFnV : WVe E (mFnV x ρ st) PE' = PE' (.o (.fn x)) st := rfl
end
end Cp
/-! Cwd: a tuple of texts of the module as a value, and its slices: its index, its slices, in, ==; a list of objects beside []. -/
namespace Cp
open PySem PySem.Spec PyProof.Rows L2
/-! ### comparisons by values -/
section
variable {X : Cx} {C : Cn} {k : Nat} {a b : Expr} {ma mb : Ev} {pos : Pos} {μ : Mu} {F H : Hp} {st : Sto} {Q : VK}
def mCmpW (g : Sto → Vl → Vl → Option Bool) (ma mb : Ev) : En → Sto → Res Bool := fun ρ st => (mV ma ρ st).bind fun x s1 => (mV mb ρ s1).bind fun y s2 => okB (g s2 x y) s2
def CmpWOk (C : Cn) (r : R2) (g : Sto → Vl → Vl → Option Bool) : Prop :=
  ∀ (x y : Vl) (k : Bool) (v u : V) (μ : Mu) (F H : Hp) (st : Sto) (Q : VK), SR C.K μ F H st → Vok C.K F μ x v → Vok C.K F μ y u → g st x y = some k → Q (.bl k) H → r v u H Q
theorem cmpW_core {β : Type} {G : β → Sto → Mu → Hp → Hp → Prop} (gl : Lat G) {r : R2} {g : Sto → Vl → Vl → Option Bool} (ok : CmpWOk C r g) {σ : L2.St} {ρ : En} {R : VK} (h1 : Eok C.K F μ ρ σ) {kk : Bool → Sto → Res β} (hb : PE X b (tM C mb))
    (h3 : Post (C.at σ) G μ F H ((mCmpW g ma mb ρ st).bind kk)) (fin : ∀ k s μ1 F1 H1, Ext μ F H μ1 F1 H1 → SR C.K μ1 F1 H1 s → Post (C.at σ) G μ1 F1 H1 (kk k s) → R (.bl k) H1) :
    PostV (C.at σ) (fun x H1 => tV C (mV mb) σ H1 fun y H2 => r x y H2 R) μ F H (mV ma ρ st) := by
  have h3' : Post (C.at σ) G μ F H ((mV ma ρ st).bind fun x s1 => ((mV mb ρ s1).bind fun y s2 => okB (g s2 x y) s2).bind kk) := by
    revert h3
    unfold mCmpW
    cases mV ma ρ st <;> exact id
  refine Post.bindV gl h3' fun x s v μ1 F1 H1 x1 r1 k1 h4 => ⟨ρ, s, μ1, F1, h1.ext x1, r1, ?_⟩
  have h4' : Post (C.at σ) G μ1 F1 H1 ((mV mb ρ s).bind fun y s2 => (okB (g s2 x y) s2).bind kk) := by
    revert h4
    cases mV mb ρ s <;> exact id
  refine Post.bindV gl h4' fun y s2 u μ2 F2 H2 x2 r2 k2 h5 => ?_
  cases q : g s2 x y with
  | none => simp only [q, okB] at h5; exact False.elim h5
  | some k =>
    simp only [q, okB] at h5
    exact ok x y k v u μ2 F2 H2 s2 R r2 (k1.ext x2) k2 q (fin k s2 μ2 F2 H2 (x1.trans x2) r2 h5)
theorem t_cmpW {op : CmpOp} {r : R2} {g : Sto → Vl → Vl → Option Bool} (ho : OpR X (compareOp op) r) (ok : CmpWOk C r g) (ha : PE X a (tM C ma)) (hb : PE X b (tM C mb)) (hm : behindInMarks op b = false) : PT X (.Compare a [op] [b] pos) (tT C (mCmpW g ma mb)) := by
  have h := pt_cmpR (pos := pos) ho (pv_frz ha) (pv_frz hb) hm
  refine ⟨fun pins s σ H Q I ⟨ρ, st, μ, F, h1, h2, h3⟩ => h.run pins s σ H Q I ⟨ρ, st, μ, F, h1, h2, ?_⟩⟩
  have h3' : PostB (C.at σ) Q μ F H ((mCmpW g ma mb ρ st).bind fun k s => .ok k s) := by
    revert h3
    cases mCmpW g ma mb ρ st <;> exact id
  exact cmpW_core gB_lat ok h1 hb h3' fun k s μ1 F1 H1 x1 r1 h => ⟨k, rfl, h μ1 F1 H1 Ext.refl r1⟩
variable {E : Er → Sto → Prop} {ρ : En} {PB : Bool → Sto → Prop}
@[simp] theorem W_mCmpW (g : Sto → Vl → Vl → Option Bool) : WVe E (mCmpW g ma mb ρ st) PB = WVe E (ma ρ st) fun r1 s1 => WVe E (mb ρ s1) fun r2 s2 => WO (g s2 (frz r1) (frz r2)) fun k => PB k s2 := by
  unfold mCmpW; rw [WV_bind, W_mV]
  congr 1; funext r1 s1; rw [WV_bind, W_mV]
  congr 1; funext r2 s2; rw [WV_okB]
end
/-! ### the tuple -/
def wdV (x : Str) (zs : List Str) : Vl → Option (List Str)
  | .o (.fn y) => if y = x then some zs else none
  | .o (.tp ds) => strsD ds
  | _ => none
/-! ### its index -/
section
variable {X : Cx} {C : Cn} {k : Nat} {x : Str} {zs : List Str} {o e : Expr} {mo ma : Ev} {apos cpos pos p2 : Pos}
def mIdxW (x : Str) (zs : List Str) (mo ma : Ev) : Ev := fun ρ st => (mV mo ρ st).bind fun y s => match wdV x zs y with
  | some ws => (mV ma ρ s).bind fun u s2 => (match u with
    | .d (.str z) => if z ∈ ws then .ok (.d (.int (ws.idxOf z : Nat))) s2 else .no
    | _ => .no)
  | none => .no
@[simp] theorem W_mIdxW {E : Er → Sto → Prop} {ρ : En} {st : Sto} {PE' : Rv → Sto → Prop} : WVe E (mIdxW x zs mo ma ρ st) PE' = WVe E (mo ρ st) fun r s => WO (wdV x zs (frz r)) fun ws => WVe E (ma ρ s) fun r2 s2 => (match frz r2 with
    | .d (.str z) => z ∈ ws ∧ PE' (.d (.int (ws.idxOf z : Nat))) s2
    | _ => False) := by
  unfold mIdxW; rw [WV_bind, W_mV]
  congr 1; funext r s
  cases wdV x zs (frz r) with
  | none => rfl
  | some ws =>
    dsimp only [WO]
    rw [WV_bind, W_mV]
    congr 1; funext r2 s2
    generalize frz r2 = u
    cases u with
    | d u =>
      cases u with
      | str z => by_cases hz : z ∈ ws <;> simp [hz, WVe]
      | _ => rfl
    | _ => rfl
/-! ### e in it -/
/-! ### it == NAME -/
/-! ### its slices -/
def fSlW (ws : List Str) (lo hi : Option Int) : Option Rv := match lo, hi with
  | some i, none => if 0 < i ∧ i ≤ ws.length then some (.o (.tp ((ws.drop i.toNat).map PyData.str))) else none
  | _, _ => none
def mSlW (x : Str) (zs : List Str) (mo : Ev) (ml mh : En → Sto → Res (Option Int)) : Ev := fun ρ st => (mV mo ρ st).bind fun y s => (ml ρ s).bind fun l s2 => (mh ρ s2).bind fun h s3 => match wdV x zs y with
  | some ws => (match fSlW ws l h with
    | some r => .ok r s3
    | none => .no)
  | none => .no
@[simp] theorem W_mSlW {E : Er → Sto → Prop} {ρ : En} {st : Sto} {PE' : Rv → Sto → Prop} {ml mh : En → Sto → Res (Option Int)} : WVe E (mSlW x zs mo ml mh ρ st) PE' = WVe E (mo ρ st) fun r s1 => WVe E (ml ρ s1) fun l s2 => WVe E (mh ρ s2) fun h s3 => WO (wdV x zs (frz r)) fun ws => WO (fSlW ws l h) fun r => PE' r s3 := by
  unfold mSlW; rw [WV_bind, W_mV]
  congr 1; funext r s1; rw [WV_bind]
  congr 1; funext l s2; rw [WV_bind]
  congr 1; funext h s3
  cases wdV x zs (frz r) with
  | none => rfl
  | some ws => simp only [WO_some]; cases fSlW ws l h <;> rfl
/-! ### a list of objects beside [] -/
def rEqLE (K : PySem.W.Frag) : R2 := fun x y H Q => ∃ p q xs, x = .ref p ∧ y = .ref q ∧ SqL K H p xs ∧ SqL K H q [] ∧ Q (.bl xs.isEmpty) H
theorem op_eqLE (hu : X.A.units < cLine) : OpR X (compareOp .Eq) (rEqLE X.K) := by
  intro pins s σ H x y v u Q I rx ry h
  obtain ⟨p, q, xs, rfl, rfl, h1, h2, hq⟩ := h
  cases rx
  cases ry
  obtain ⟨its, rv, pl, _⟩ := I.list h1
  obtain ⟨its2, rv2, pl2, _⟩ := I.list h2
  cases rv2
  cases rv with
  | nil => exact SeqAt.RcAt.lists (e := fun _ => true) pl.isList pl2.isList rfl hu (fun j h1 _ => absurd h1 (by simp)) _ _ _ _ ⟨.bl true, H, I, rfl, hq⟩
  | cons _ _ => exact SeqAt.RcAt.lists_lengths pl.isList pl2.isList (by simp) hu _ _ _ _ ⟨.bl false, H, I, rfl, hq⟩
def gEqLE : Sto → Vl → Vl → Option Bool := fun st a b => match a, b with
  | .o (.ob j), .d (.list []) => (olAt st j).map (·.isEmpty)
  | _, _ => none
theorem gEqLE_ok {K : PySem.W.Frag} : CmpWOk C (rEqLE K) gEqLE := by
  intro a b kk v u μ F H st Q s va vb e q
  unfold gEqLE at e
  split at e
  · rename_i j
    cases q1 : olAt st j with
    | none => rw [q1] at e; cases e
    | some xs =>
      rw [q1] at e
      cases e
      obtain ⟨objs, p, us, _, _, h1, _, h2, h3⟩ := olAt_ok s q1
      obtain ⟨p', h4, rfl⟩ := va
      rw [h1] at h4
      cases h4
      have vb' : Dq C.K F u (.list []) := vb
      cases vb' with
      | @lst p2 us2 _ k1 k2 =>
        cases k2
        have e1 : xs.isEmpty = us.isEmpty := by cases h3 <;> rfl
        dsimp only at q
        rw [e1] at q
        exact ⟨p, p2, us, rfl, rfl, SqL.of h2, SqL.of (s.sub _ _ k1), q⟩
  · cases e
end
end Cp
/-! Cov: loops over things that are no data (a display of objects; pairs of an object and data). -/
namespace Cp
open PySem L2
section
variable {α : Type} {X : Cx} {C : Cn} {μ μ1 : Mu} {F H F1 H1 : Hp} {st : Sto} {tg iter e : Expr} {pos : Pos} {body : List Stmt} {sb : Sv} {rel : Kw → Hp → Mu → α → V → Prop}
/-- the thing J walks the items xs, each of which rel tells -/
structure WkA (rel : Kw → Hp → Mu → α → V → Prop) (KK : Kw) (J : It) (xs : List α) (μ : Mu) (F : Hp) : Prop where
  go : ∀ (i : Nat) (μ1 : Mu) (F1 H1 : Hp) (st1 : Sto) (d : α), Sx μ F μ1 F1 → SR KK μ1 F1 H1 st1 → xs[i]? = some d →
    J.go i H1 ∧ ∀ x H2, J.yld i H1 x H2 → ∃ F2, Ext μ1 F1 H1 μ1 F2 H2 ∧ SR KK μ1 F2 H2 st1 ∧ rel KK F2 μ1 d x
  stop : ∀ (μ1 : Mu) (F1 H1 : Hp) (st1 : Sto), Sx μ F μ1 F1 → SR KK μ1 F1 H1 st1 → J.stop xs.length H1
abbrev gWA (rel : Kw → Hp → Mu → α → V → Prop) (C : Cn) (R : It → Hp → Prop) : List α → Sto → Mu → Hp → Hp → Prop := fun xs st μ F H => ∀ J μ' F' H', Ext μ F H μ' F' H' → SR C.K μ' F' H' st → WkA rel C.K J xs μ' F' → R J H'
theorem gWA_lat {R : It → Hp → Prop} : Lat (gWA rel C R) := ⟨fun x h J μ' F' H' y s w => h J μ' F' H' (x.trans y) s w⟩
def tIA (rel : Kw → Hp → Mu → α → V → Prop) (C : Cn) (mi : En → Sto → Res (List α)) : TI := fun σ H R => At C σ H fun ρ st μ F => Post (C.at σ) (gWA rel (C.at σ) R) μ F H (mi ρ st)
abbrev GmA (α : Type) := α → En → Sto → Res En
def tGA (rel : Kw → Hp → Mu → α → V → Prop) (C : Cn) (ws : List Nat) (g : GmA α) : TG := fun v σ H P => ∃ ρ st μ F x, Eok C.K F μ ρ σ ∧ SR C.K μ F H st ∧ rel C.K F μ x v ∧ Post (C.at σ) (gG C ws σ P) μ F H (g x ρ st)
/-! ### for -/
def forGoA (g : GmA α) (b : Sv) : List α → En → Sto → RS
  | [], ρ, st => .nx ρ st
  | d :: r, ρ, st => (g d ρ st).toS fun ρ1 s1 => match b ρ1 s1 with
      | .nx ρ2 s2 => forGoA g b r ρ2 s2
      | .ct ρ2 s2 => forGoA g b r ρ2 s2
      | .bk ρ2 s2 => .nx ρ2 s2
      | .rt v s2 => .rt v s2
      | .er x s2 => .er x s2
      | .no => .no
def sForA (mi : En → Sto → Res (List α)) (g : GmA α) (b : Sv) : Sv := fun ρ st => (mi ρ st).toS fun xs s => forGoA g b xs ρ s
theorem PostS.bindIA {D : Ends} {m : Res (List α)} {k : List α → Sto → RS} {R : It → Hp → Prop} (h : PostS C D μ F H (m.toS k))
    (hk : ∀ x s J μ1 F1 H1, Ext μ F H μ1 F1 H1 → SR C.K μ1 F1 H1 s → WkA rel C.K J x μ1 F1 → PostS C D μ1 F1 H1 (k x s) → R J H1) : Post C (gWA rel C R) μ F H m := by
  cases m with
  | ok x s => exact fun J μ1 F1 H1 e s1 w => hk x s J μ1 F1 H1 e s1 w (PostS.later e h)
  | er e s => exact h
  | no => exact h
theorem x_forA {mi : En → Sto → Res (List α)} {ws : List Nat} {g : GmA α} (hp : PassesOwn (model X.prog X.w) X.A X.env X.xe) (hc : X.calm = true) (hi : PI X tg iter (tIA rel C mi)) (hg : PG X tg (tGA rel C ws g)) (hb : PSs X body (tS C sb))
    (hs : ∀ x, foldedSetIterable iter X.env x = pure x := by intro _; rfl) (fl : C.Flat := by exact fun _ _ _ _ _ h => h) : PS X (.For tg iter body [] pos) (tS C (sForA mi g sb)) := (ps_for hp hc hi hg hb hs).imp fun D σ0 H ⟨ρ, st, μ, F, h1, h2, h3⟩ => by
  refine ⟨ρ, st, μ, F, h1, h2, PostS.bindIA h3 fun ds s J μ' F' Hs x0 r0 wk h4 => ?_⟩
  refine ⟨fun i m σ H => m = ds.length - i ∧ i ≤ ds.length ∧ ∃ ρ1 st1 μ1 F1, Ext μ' F' Hs μ1 F1 H ∧ SR C.K μ1 F1 H st1 ∧ Eok C.K F1 μ1 ρ1 σ ∧ PostS (C.at σ0) D μ1 F1 H (forGoA g sb (ds.drop i) ρ1 st1),
    ⟨ds.length, rfl, Nat.zero_le _, ρ, s, μ', F', Ext.refl, r0, h1.ext x0, h4⟩, ?_⟩
  rintro i m σ H ⟨rfl, hi, ρ1, st1, μ1, F1, x1, r1, k1, h5⟩
  by_cases hl : i < ds.length
  · obtain ⟨d, e1, e2⟩ := drop_cons hl
    rw [e2] at h5
    unfold forGoA at h5
    obtain ⟨go, step⟩ := wk.go i μ1 F1 H st1 d x1.sx r1 e1
    refine .inr ⟨go, fun σ' H' => ∃ ρ2 st2 μ2 F2, Ext μ' F' Hs μ2 F2 H' ∧ SR C.K μ2 F2 H' st2 ∧ Eok C.K F2 μ2 ρ2 σ' ∧ PostS (C.at σ0) D μ2 F2 H' (forGoA g sb (ds.drop (i + 1)) ρ2 st2),
      fun σ' H' hn => ⟨ds.length - (i + 1), by omega, rfl, hl, hn⟩, fun x H2 y => ?_⟩
    obtain ⟨F2, x2, r2, kd⟩ := step x H2 y
    refine ⟨ρ1, st1, μ1, F2, d, k1.ext x2, r2, kd, PostS.bindG (C := C.at σ) (PostS.flat fl (PostS.later x2 h5)) fun ρ2 s2 σ2 μ3 F3 H3 x3 r3 k3 ag h6 => ⟨ρ2, s2, μ3, F3, k3, r3, ?_⟩⟩
    have h6 := PostS.flat (σ' := σ2) fl h6
    show PostS (C.at σ2) _ μ3 F3 H3 (sb ρ2 s2)
    cases q : sb ρ2 s2 with
    | nx ρ4 s4 => simp only [q] at h6; exact fun σ4 μ4 F4 H4 x4 r4 k4 => ⟨ρ4, s4, μ4, F4, ((x1.trans x2).trans x3).trans x4, r4, k4, PostS.flat fl (PostS.later x4 h6)⟩
    | ct ρ4 s4 => simp only [q] at h6; exact fun σ4 μ4 F4 H4 x4 r4 k4 => ⟨ρ4, s4, μ4, F4, ((x1.trans x2).trans x3).trans x4, r4, k4, PostS.flat fl (PostS.later x4 h6)⟩
    | bk ρ4 s4 => simp only [q] at h6; exact h6
    | rt v s4 => simp only [q] at h6; exact h6
    | er v s4 => simp only [q] at h6; exact h6
    | no => simp only [q] at h6; exact h6
  · have e : i = ds.length := by omega
    subst e
    rw [List.drop_length] at h5
    unfold forGoA at h5
    exact .inl ⟨wk.stop μ1 F1 H st1 x1.sx r1, h5 σ μ1 F1 H Ext.refl r1 k1⟩
/-! ### comprehensions -/
def lcGoA (g : GmA α) (te : Ev) (ρ : En) : List α → Sto → List PyData → Res (List PyData)
  | [], st, acc => .ok acc st
  | d :: r, st, acc => match g d ρ st with
      | .ok ρ1 s1 => match mV te ρ1 s1 with
          | .ok (.d y) s3 => if acc.length < sizeLine then lcGoA g te ρ r s3 (acc ++ [y]) else .no
          | _ => .no
      | _ => .no
def mLcA (mi : En → Sto → Res (List α)) (g : GmA α) (te : Ev) (vs : List Nat) : Ev := fun ρ st => (mi ρ st).bind fun ds s => (lcGoA g te (wipeE ρ vs) ds s []).bind fun ys s' => .ok (.n (.l ys)) s'
theorem Post.bindIA {β : Type} {G : β → Sto → Mu → Hp → Hp → Prop} (gl : Lat G) {m : Res (List α)} {k : List α → Sto → Res β} {R : It → Hp → Prop} (h : Post C G μ F H (m.bind k))
    (hk : ∀ x s J μ1 F1 H1, Ext μ F H μ1 F1 H1 → SR C.K μ1 F1 H1 s → WkA rel C.K J x μ1 F1 → Post C G μ1 F1 H1 (k x s) → R J H1) : Post C (gWA rel C R) μ F H m := by
  cases m with
  | ok x s => exact fun J μ1 F1 H1 e s1 w => hk x s J μ1 F1 H1 e s1 w (Post.later gl e h)
  | er e s => exact h
  | no => exact h
theorem s_lcTA {scope : Scope} {own : List (Str × Nat)} {mi : En → Sto → Res (List α)} {ws : List Nat} {g : GmA α} {te : Ev} (hws : ∀ i, i ∈ ws → i ∈ own.map (·.2)) (σ : St) (H : Hp) (Q : VK) (h : tM C (mLcA mi g te (own.map (·.2))) σ H Q) :
    tLc (tIA rel C mi) (tGA rel C.quiet ws g) (tT C.quiet ttY) (tV C.quiet (mV te)) (own.map (·.2)) σ H Q := by
  obtain ⟨ρ, st, μ, F, h1, h2, h3⟩ := h
  refine ⟨ρ, st, μ, F, h1, h2, Post.bindIA gE_lat h3 fun ds s J μ' F' H' x0 r0 wk h4 L hL => ?_⟩
  obtain ⟨rn, xn⟩ := r0.newly (o := .lst []) hL
  have dd := r0.dead hL
  refine ⟨fun i m H => m = ds.length - i ∧ i ≤ ds.length ∧ ∃ acc st1 μ1 F1, LcI C μ' F' H' L (wipeE ρ (own.map (·.2))) (wipe σ (own.map (·.2))) acc H st1 μ1 F1 ∧
      PostE (C.at σ) Q μ' F' H' ((lcGoA g te (wipeE ρ (own.map (·.2))) (ds.drop i) st1 acc).bind fun ys s' => .ok (.n (.l ys)) s'),
    ⟨ds.length, rfl, Nat.zero_le _, [], s, μ', F', ⟨xn, rn, (eok_wipe (h1.ext x0) _), ⟨[], upd_same, .nil⟩, dd.1, dd.2⟩, h4⟩, ?_⟩
  rintro i m H ⟨rfl, hi, acc, st1, μ1, F1, I, h5⟩
  by_cases hl : i < ds.length
  · obtain ⟨d, e1, e2⟩ := drop_cons hl
    rw [e2] at h5
    unfold lcGoA at h5
    obtain ⟨go, step⟩ := wk.go i μ1 F1 H st1 d I.x.sx I.r e1
    refine .inr ⟨go, fun H2 => ∃ acc st1 μ1 F1, LcI C μ' F' H' L (wipeE ρ (own.map (·.2))) (wipe σ (own.map (·.2))) acc H2 st1 μ1 F1 ∧
      PostE (C.at σ) Q μ' F' H' ((lcGoA g te (wipeE ρ (own.map (·.2))) (ds.drop (i + 1)) st1 acc).bind fun ys s' => .ok (.n (.l ys)) s'), fun H2 hn => ⟨ds.length - (i + 1), by omega, rfl, hl, hn⟩, fun x H2 y => ?_⟩
    obtain ⟨F2, x2, r2, kd⟩ := step x H2 y
    have I2 := I.later x2 r2
    refine ⟨_, st1, μ1, F2, d, I2.k, r2, kd, ?_⟩
    show Post (C.quiet.at _) _ μ1 F2 H2 (g d (wipeE ρ (own.map (·.2))) st1)
    cases q : g d (wipeE ρ (own.map (·.2))) st1 with
    | no => simp only [q] at h5; exact False.elim h5
    | er _ _ => simp only [q] at h5; exact False.elim h5
    | ok ρ2 s2 =>
      simp only [q] at h5
      intro σ3 μ3 F3 H3 x3 r3 k3 ag
      have I3 := I2.later x3 r3
      refine ⟨wipe_agr ag hws, ρ2, s2, μ3, F3, k3, r3, ?_⟩
      show Post (C.quiet.at _) _ μ3 F3 H3 (ttY ρ2 s2)
      intro μ4 F4 H4 x4 r4
      have I4 := I3.later x4 r4
      simp only [if_true]
      refine ⟨ρ2, s2, μ4, F4, k3.ext x4, r4, ?_⟩
      show Post (C.quiet.at _) _ μ4 F4 H4 (mV te ρ2 s2)
      cases q3 : mV te ρ2 s2 with
      | no => simp only [q3] at h5; exact False.elim h5
      | er _ _ => simp only [q3] at h5; exact False.elim h5
      | ok z s4 =>
        intro v μ5 F5 H5 x5 r5 k5
        have I5 := I4.later x5 r5
        cases z with
        | c _ => simp only [q3] at h5; exact False.elim h5
        | s _ => simp only [q3] at h5; exact False.elim h5
        | o _ => simp only [q3] at h5; exact False.elim h5
        | d y =>
          simp only [q3] at h5
          by_cases hz : acc.length < sizeLine
          · rw [if_pos hz] at h5
            obtain ⟨xs, g1, g2, g3⟩ := I5.put hL k5
            exact ⟨xs, g1, by rw [g2]; exact hz, acc ++ [y], s4, μ5, F5, g3, h5⟩
          · rw [if_neg hz] at h5; exact False.elim h5
  · have e : i = ds.length := by omega
    subst e
    rw [List.drop_length] at h5
    unfold lcGoA at h5
    obtain ⟨xs, g1, g2⟩ := I.l
    exact .inl ⟨wk.stop μ1 F1 H st1 I.x.sx I.r, h5 _ μ1 F1 H ⟨I.x, I.r, ⟨L, _, rfl, g1, ⟨xs, rfl, g2⟩, I.f, I.m⟩, fun c _ => ⟨L, rfl, hL⟩⟩⟩
theorem s_lcA {scope : Scope} {own : List (Str × Nat)} {mi : En → Sto → Res (List α)} {ws : List Nat} {g : GmA α} {te : Ev} (hc : X.calm = true) (hN : X.N.Nodup) (hi : PI X tg iter (tIA rel C mi)) (ok : BlkOk X.N X.env.scope scope own)
    (hg : Blk X scope fun Y => PG Y tg (tGA rel C.quiet ws g)) (he : Blk X scope fun Y => PE Y e (tM C.quiet te)) (hws : ∀ i, i ∈ ws → i ∈ own.map (·.2)) (hs : ∀ x, foldedSetIterable iter X.env x = pure x := by intro _; rfl) :
    PE X (.ListComp e [⟨tg, iter, [], 0⟩] scope pos) (tM C (mLcA mi g te (own.map (·.2)))) :=
  (pe_lc hc hN hi ok (fun s H A cl fp => hg s H A cl fp) (fun s H A cl fp => pts_yes) (fun s H A cl fp => pv_frz (he s H A cl fp)) hs).imp fun σ H Q h => s_lcTA (scope := scope) hws σ H Q h
end
end Cp
/-! Zm: zip of a tuple and a list, in the hand layer, by KE.GoesZip's rules for iterators of any kind. -/
namespace ZM
open PySem PySem.Spec PyProof.Rows L2
/-- the tuple at a and the list at b as they stand at each turn, the items in new pairs -/
def ItM (K : PySem.W.Frag) (a b : Addr) : It :=
  ⟨fun i H => ∃ (xs ys : List V) (x y : V), SqT K H a xs ∧ SqL K H b ys ∧ xs[i]? = some x ∧ ys[i]? = some y,
    fun i H v H' => ∃ T x y, v = .ref T ∧ H T = none ∧ H' = upd H T (.tup [x, y]) ∧ (∀ xs, SqT K H a xs → xs[i]? = some x) ∧ ∀ ys, SqL K H b ys → ys[i]? = some y,
    fun i H => ∃ xs ys : List V, SqT K H a xs ∧ SqL K H b ys ∧ i ≤ xs.length ∧ i ≤ ys.length ∧ (i = xs.length ∨ i = ys.length)⟩
theorem turn_zm {P : Program} {w : World} {K : PySem.W.Frag} {elts : List Expr} {kk : Nat} {tpos : Pos} {a b z TI TO i1 i2 : Addr} (D : ZipSep2 z TI TO i1 i2 [i1, a] [i2, b]) (n1 : a ≠ i1) (n2 : b ≠ i2) :
    Turn P w K (.Tuple elts kk tpos) (ItM K a b) [z, TI, TO, i1, i2] z (fun i h => IsZip h z TI TO .none ∧ IsPair h TI (.ref i1) (.ref i2) ∧ (∃ x y, IsPair h TO x y) ∧ h.IsTupleIter i1 a i ∧ h.IsListIter i2 b i) where
  mem := by simp
  obj := fun i h st c hc => by
    obtain ⟨hz, hTI, ⟨x, y, hTO⟩, ⟨o1, e1, _, d1⟩, ⟨o2, e2, _, d2⟩⟩ := st
    have e' : c = z ∨ c = TI ∨ c = TO ∨ c = i1 ∨ c = i2 := by simpa using hc
    rcases e' with q | q | q | q | q
    · rw [q]; exact ⟨_, hz, fun v q => nomatch q⟩
    · rw [q]; exact ⟨_, hTI, fun v q => nomatch q⟩
    · rw [q]; exact ⟨_, hTO, fun v q => nomatch q⟩
    · rw [q]; exact ⟨o1, e1, fun v q => by rw [d1] at q; cases q⟩
    · rw [q]; exact ⟨o2, e2, fun v q => by rw [d2] at q; cases q⟩
  keep := fun i h h' st k => by
    obtain ⟨hz, hTI, ⟨x, y, hTO⟩, h1, h2⟩ := st
    exact ⟨k z (by simp) _ hz, k TI (by simp) _ hTI, ⟨x, y, k TO (by simp) _ hTO⟩, h1.at fun o e => k i1 (by simp) o e, h2.at fun o e => k i2 (by simp) o e⟩
  item := by
    intro X hP hw hK hc i pins s σ H E I hf st hg
    subst hP hw hK
    obtain ⟨hz, hTI, ⟨x0, y0, hTO⟩, h1, h2⟩ := st
    obtain ⟨xs, ys, x, y, hqx, hqy, hx, hy⟩ := hg
    obtain ⟨its, rv, p, _⟩ := I.tuple hqx
    obtain ⟨its2, rv2, p2, _⟩ := I.list hqy
    obtain ⟨u, hu, ru⟩ := rv.get hx
    obtain ⟨u2, hu2, ru2⟩ := rv2.get hy
    have hzl : z < s.heap.objs.size := Heap.lt_size hz
    have hd : X.A.in1.handled = none := I.ok.hd hc
    refine wpAny_pyNext_zipD2_item D (Draws.tuple (items := its.toArray) hd i1 a n1) (Draws.list (items := its2.toArray) hd i2 b n2) hz hTI hTO ⟨h1, p⟩ ⟨h2, p2.isList⟩
      (by have := (List.getElem?_eq_some_iff.mp hu).1; simpa using this) (by have := (List.getElem?_eq_some_iff.mp hu2).1; simpa using this) fun x1 x2 h' tk y1 y2 z' TO' s1 s2 hT hsz hk => ?_
    obtain rfl : u = x1 := by
      have e : its[i]? = some x1 := by simpa using y1
      rw [hu] at e; exact Option.some.inj e
    obtain rfl : u2 = x2 := by
      have e : its2[i]? = some x2 := by simpa using y2
      rw [hu2] at e; exact Option.some.inj e
    refine ⟨_, rfl, wpAny_letOwnedTupleGo_zip (s := { s with heap := h', toks := tk }) z' fun h'' z'' sb => ?_⟩
    have hT2 : h''.get? s.heap.objs.size = some { cls := .type "tuple", data := .seq #[u, u2] } := (sb.2 _ (Nat.ne_of_gt hzl)).trans hT
    have new : ObjOk X.prog X.w (upd H s.heap.objs.size (.tup [x, y])) h'' s.heap.objs.size (.tup [x, y]) :=
      ⟨by show 2 ≤ sizeLine; decide, [u, u2], .cons ru (.cons ru2 .nil), ⟨_, hT2, rfl, _, rfl⟩⟩
    have I1 : Inv X pins σ (upd H s.heap.objs.size (.tup [x, y])) { s with heap := h'', toks := tk } :=
      I.turnedNew (t' := tk) (ch := [z, TI, TO, i1, i2]) (fun c o hb q => (sb.2 c (fun q' => hb (by simp [q']))).trans (hk c o (fun q' => hb (by simp [q'])) (fun q' => hb (by simp [q'])) (fun q' => hb (by simp [q'])) (fun q' => hb (by simp [q'])) q)) hf (Nat.le_refl _) new
    refine ⟨.ref s.heap.objs.size, _, I1, rfl, ⟨_, x, y, rfl, I.hok.fresh (Nat.le_refl _), rfl, fun l hl => by rw [I.tuple_inj hl hqx]; exact hx, fun l hl => by rw [I.list_inj hl hqy]; exact hy⟩, ⟨z'', ?_, ⟨u, u2, ?_⟩, ?_, ?_⟩, fun c hcm => ?_⟩
    · exact (sb.2 _ D.TIz).trans (hk _ _ D.TIz D.TITO D.TIi1 D.TIi2 hTI)
    · exact (sb.2 _ D.TOz).trans TO'
    · exact s1.1.at fun o q => (sb.2 _ D.zi1.symm).trans q
    · exact s2.1.at fun o q => (sb.2 _ D.zi2.symm).trans q
    · have hlt : c < s.heap.objs.size := by
        have e' : c = z ∨ c = TI ∨ c = TO ∨ c = i1 ∨ c = i2 := by simpa using hcm
        rcases e' with q | q | q | q | q
        · rw [q]; exact hzl
        · rw [q]; exact Heap.lt_size hTI
        · rw [q]; exact Heap.lt_size hTO
        · rw [q]; obtain ⟨_, e1, _⟩ := h1; exact Heap.lt_size e1
        · rw [q]; obtain ⟨_, e2, _⟩ := h2; exact Heap.lt_size e2
      rw [upd_ne (Nat.ne_of_lt hlt)]
      exact (hf c hcm).1
  done := by
    intro X hP hw hK hc i pins s σ H E I hf st hg
    subst hP hw hK
    obtain ⟨hz, hTI, ⟨x0, y0, hTO⟩, h1, h2⟩ := st
    obtain ⟨xs, ys, hqx, hqy, g1, g2, hend⟩ := hg
    obtain ⟨its, rv, p, _⟩ := I.tuple hqx
    obtain ⟨its2, rv2, p2, _⟩ := I.list hqy
    have l1 := rv.length
    have l2 := rv2.length
    have hd : X.A.in1.handled = none := I.ok.hd hc
    exact wpAny_pyNext_zipD2_end D (Draws.tuple (items := its.toArray) hd i1 a n1) (Draws.list (items := its2.toArray) hd i2 b n2) hz hTI hTO ⟨h1, p⟩ ⟨h2, p2.isList⟩ (by simp; omega) (by simp; omega) (by simp; omega)
      fun h' tk hk => ⟨rfl, I.turnedL (t' := tk) (ch := [z, TI, TO, i1, i2]) (fun c o hb q =>
      hk c o (fun q' => hb (by simp [q'])) (fun q' => hb (by simp [q'])) (fun q' => hb (by simp [q'])) (fun q' => hb (by simp [q'])) q) hf⟩
  self := fun A i s Q E st h => wpAny_pyIter_zip st.1 h
def iZipM (K : PySem.W.Frag) (ta : TA) : TI := fun σ H R => ta σ H fun vs H1 => ∃ a b xs ys, vs = [.ref a, .ref b] ∧ SqT K H1 a xs ∧ SqL K H1 b ys ∧ R (ItM K a b) H1
theorem pi_zm {X : Cx} {e e2 : Expr} {ta : TA} {p pos tpos : Pos} {elts : List Expr} {kk : Nat} (hg : Gl X "zip") (hm : X.mg "zip" = none) (ha : PA X [e, e2] ta)
    (hs : starEach [e, e2] X.env = (false, eval e X.env) :: starEach [e2] X.env := by rfl) (hpl : (backTo pos (starEach [e2] X.env)).any (·.1) = false := by rfl) :
    PI X (.Tuple elts kk tpos) (.Call (.Name "zip" p) [e, e2] [] pos) (iZipM X.K ta) := by
  refine ⟨fun pins s σ H R I h => ?_⟩
  refine Call_ (ld_blt I hg hm PyProof.Rows.boot_zip (PyProof.Rows.callWith_type1 (thn (ha.run pos pins s σ H _ I h) fun us s1 ⟨vs, H1, I1, r1, q1⟩ => ?_) hs hpl))
  obtain ⟨a, b, xs, ys, ex, hqx, hqy, q⟩ := q1
  subst ex
  cases r1 with
  | cons r rr =>
    cases rr with
    | cons r' rr =>
      cases rr
      cases r
      cases r'
      obtain ⟨its, rv, p1, _⟩ := I1.tuple hqx
      obtain ⟨its2, rv2, p2, _⟩ := I1.list hqy
      obtain ⟨o1, ho1, _⟩ := id p1
      have la : a < s1.heap.objs.size := Heap.lt_size ho1
      have lb : b < s1.heap.objs.size := p2.lt
      have D0 := PySem.W.ktu_apart s1.heap.objs.size a b la lb
      have no2 : ∀ {c x y : Addr}, c ≠ x → c ≠ y → c ∉ [x, y] := fun h1 h2 h => by
        rcases List.mem_cons.mp h with h | h
        · exact h1 h
        · exact h2 (List.mem_singleton.mp h)
      have D : ZipSep2 (s1.heap.objs.size + 4) (s1.heap.objs.size + 2) (s1.heap.objs.size + 3) s1.heap.objs.size (s1.heap.objs.size + 1) [s1.heap.objs.size, a] [s1.heap.objs.size + 1, b] :=
        ⟨D0.TIz, D0.TOz, D0.TITO, D0.TIi1, List.mem_cons_self, no2 D0.i1z.symm D0.l1z.symm, no2 D0.TOi1 D0.l1TO.symm, D0.TIi2, List.mem_cons_self, no2 D0.i2z.symm D0.l2z.symm, no2 D0.TOi2 D0.l2TO.symm, no2 D0.i12 D0.l2i1.symm, no2 D0.i12.symm D0.l1i2.symm⟩
      refine zip_begins2 (begins_tuple a its.toArray) (begins_list b its2.toArray) p1 p2.isList fun h' hz hTI hTO h1 h2 hsz hk => wpAny_pyIter_zip hz ?_
      have I2 : Inv X pins σ H1 { s1 with heap := h' } := I1.kept (t' := s1.toks) hk
      refine ⟨s1.heap.objs.size + 4, [s1.heap.objs.size + 4, s1.heap.objs.size + 2, s1.heap.objs.size + 3, s1.heap.objs.size, s1.heap.objs.size + 1], _, _, H1, rfl, I2, turn_zm D D0.l1i1 D0.l2i2, ⟨hz, hTI, ⟨_, _, hTO⟩, ⟨_, h1, rfl, rfl⟩, ⟨_, h2, rfl, rfl⟩⟩, fun c hcm => ?_, q⟩
      have e' : c = s1.heap.objs.size + 4 ∨ c = s1.heap.objs.size + 2 ∨ c = s1.heap.objs.size + 3 ∨ c = s1.heap.objs.size ∨ c = s1.heap.objs.size + 1 := by simpa using hcm
      have hle : s1.heap.objs.size ≤ c := by
        rcases e' with z | z | z | z | z
        · rw [z]; exact Nat.le_add_right _ _
        · rw [z]; exact Nat.le_add_right _ _
        · rw [z]; exact Nat.le_add_right _ _
        · rw [z]; exact Nat.le_refl _
        · rw [z]; exact Nat.le_add_right _ _
      exact I1.fpOk hle (I1.hok.fresh hle)
end ZM
/-! Cov2: a display of objects as an iterable; zip of such a display and a list; targets; what the loops mean. -/
namespace Cp
open PySem L2
section
variable {X : Cx} {C : Cn} {μ μ1 : Mu} {F H F1 H1 : Hp} {st : Sto} {tg iter e a b : Expr} {es : List Expr} {pos p : Pos} {k : Nat} {mas : En → Sto → Res (List Vl)} {mb : Ev}
theorem VokAll.get {K : Kw} : ∀ {xs : List Vl} {vs : List V} {i : Nat} {x : Vl}, VokAll K F μ xs vs → xs[i]? = some x → ∃ v, vs[i]? = some v ∧ Vok K F μ x v
  | _, _, 0, _, .cons h _, e => by cases e; exact ⟨_, rfl, h⟩
  | _, _, i + 1, _, .cons _ r, e => by
    obtain ⟨v, h1, h2⟩ := VokAll.get r (by simpa using e)
    exact ⟨v, by simpa using h1, h2⟩
theorem Sx.vok {K : Kw} (a : Sx μ F μ1 F1) {x : Vl} {v : V} (h : Vok K F μ x v) (hx : match x with
    | .d _ => True
    | .o (.ob _) => True
    | _ => False) : Vok K F1 μ1 x v := by
  cases x with
  | d x => exact Dq.same a.same h
  | c i => exact False.elim hx
  | s ns => exact False.elim hx
  | o x =>
    cases x with
    | ob j =>
      obtain ⟨p, h1, h2⟩ := h
      obtain ⟨r, e⟩ := a.preη
      exact ⟨p, by rw [e, List.getElem?_append_left (List.getElem?_eq_some_iff.mp h1).1]; exact h1, h2⟩
    | _ => exact False.elim hx
/-- data or an object -/
def vob : Vl → Bool
  | .d _ => true
  | .o (.ob _) => true
  | _ => false
theorem Sx.vob {K : Kw} (a : Sx μ F μ1 F1) {x : Vl} {v : V} (h : Vok K F μ x v) (hx : vob x = true) : Vok K F1 μ1 x v := a.vok h (by
  cases x with
  | d x => trivial
  | o x => cases x <;> first | trivial | cases hx
  | _ => cases hx)
def iTv (mas : En → Sto → Res (List Vl)) : En → Sto → Res (List Vl) := fun ρ st => (mas ρ st).bind fun xs s => if xs.length ≤ sizeLine ∧ xs.all vob = true then .ok xs s else .no
theorem i_tupV (h : PA X es (tAs C mas)) : PI X tg (.Tuple es k pos) (tIA Vok C (iTv mas)) :=
  (pi_seq (pe_tup h)).imp fun σ H R ⟨ρ, st, μ, F, h1, h2, h3⟩ => ⟨ρ, st, μ, F, h1, h2, Post.bindA gWA_lat h3 fun xs s vs μ1 F1 H1 x1 r1 k1 h4 => by
    split at h4
    · rename_i hl
      refine ⟨by rw [← k1.length]; exact hl.1, fun q hq => .inr (.inl ?_)⟩
      obtain ⟨r2, x2⟩ := r1.newly (o := .tup vs) hq
      have dd := r1.dead hq
      obtain ⟨r3, x3, sm⟩ := r2.freeze x2 r1.sub hq upd_same dd.1 dd.2
      have g1 : Rd (upd F1 q (.tup vs)) q (.tup vs) := .inl upd_same
      refine ⟨q, vs, rfl, SqT.rd r3.sub g1, h4 _ _ _ _ x3 r3 ⟨fun i μ2 F2 H2 st2 d x4 r4 e => ?_, fun μ2 F2 H2 st2 x4 r4 => ?_⟩⟩
      · have c1 : SqT X.K H2 q vs := SqT.rd r4.sub (same_rd x4.same g1)
        obtain ⟨v, e1, e2⟩ := (k1.ext x3 (C := C.at σ)).get e
        refine ⟨⟨vs, v, c1, e1⟩, fun x H3 ⟨y1, y2⟩ => ?_⟩
        subst y1
        have := y2 vs c1
        rw [e1] at this
        cases this
        refine ⟨F2, Ext.refl, r4, x4.vob e2 ?_⟩
        exact List.all_eq_true.mp hl.2 _ (List.mem_of_getElem? e)
      · exact ⟨vs, SqT.rd r4.sub (same_rd x4.same g1), by rw [k1.length]; exact Nat.le_refl _⟩
    · exact False.elim h4⟩
/-- a pair that was just made -/
def pairOk (K : Kw) (F : Hp) (μ : Mu) (d : Vl × PyData) (v : V) : Prop := ∃ T v1 v2, v = .ref T ∧ Rd F T (.tup [v1, v2]) ∧ Vok K F μ d.1 v1 ∧ Dq K F v2 d.2
def iZv (mas : En → Sto → Res (List Vl)) (mb : Ev) : En → Sto → Res (List (Vl × PyData)) := fun ρ st => (mas ρ st).bind fun xs s => if xs.length ≤ sizeLine ∧ xs.all vob = true then (mV mb ρ s).bind fun y s2 => match y with
  | .d (.list ys) => .ok (xs.zip ys) s2
  | _ => .no
  else .no
theorem i_zipV {tpos p2 : Pos} {elts : List Expr} {kk : Nat} (hg : Gl X "zip") (hm : X.mg "zip" = none) (ha : PA X es (tAs C mas)) (hb : PE X b (tM C mb)) (hs : starEach [.Tuple es k p2, b] X.env = (false, eval (.Tuple es k p2) X.env) :: starEach [b] X.env := by rfl)
    (hs2 : starEach [b] X.env = (false, eval b X.env) :: starEach [] X.env := by rfl) (hpl : (backTo pos (starEach [b] X.env)).any (·.1) = false := by rfl) :
    PI X (.Tuple elts kk tpos) (.Call (.Name "zip" p) [.Tuple es k p2, b] [] pos) (tIA pairOk C (iZv mas mb)) :=
  (ZM.pi_zm hg hm (pa_cons (pe_tup ha) (pa_cons (pv_frz hb) pa_nil hs2) hs) hs hpl).imp fun σ H R ⟨ρ, st, μ, F, h1, h2, h3⟩ => ⟨ρ, st, μ, F, h1, h2, Post.bindA gWA_lat h3 fun xs s vs μ1 F1 H1 x1 r1 k1 h4 => by
    split at h4
    · rename_i hl
      refine ⟨by rw [← k1.length]; exact hl.1, fun q hq => ?_⟩
      obtain ⟨r2, x2⟩ := r1.newly (o := .tup vs) hq
      have dd := r1.dead hq
      obtain ⟨r3, x3, sm⟩ := r2.freeze x2 r1.sub hq upd_same dd.1 dd.2
      have g1 : Rd (upd F1 q (.tup vs)) q (.tup vs) := .inl upd_same
      refine ⟨ρ, s, _, _, (h1.ext x1).ext x3, r3, Post.bindV gWA_lat (Post.later gWA_lat x3 h4) fun y s2 u μ2 F2 H2 x4 r4 k4 h5 => ?_⟩
      split at h5
      · rename_i ys
        have k4 : Dq C.K F2 u (.list ys) := k4
        cases k4 with
        | @lst b0 us _ b1 b2 =>
          have g2 : Rd F2 q (.tup vs) := same_rd x4.same g1
          refine ⟨q, b0, vs, us, rfl, SqT.rd r4.sub g2, SqL.of (r4.sub _ _ b1), h5 _ μ2 F2 H2 Ext.refl r4 ⟨fun i μ3 F3 H3 st3 d x5 r5 e => ?_, fun μ3 F3 H3 st3 x5 r5 => ?_⟩⟩
          · obtain ⟨e1, e2⟩ := List.getElem?_zip_eq_some.mp e
            have c1 : SqT X.K H3 q vs := SqT.rd r5.sub (same_rd x5.same g2)
            have c2 : SqL X.K H3 b0 us := SqL.of (r5.sub _ _ (x5.same _ _ b1))
            obtain ⟨v, f1, f2⟩ := ((k1.ext x3 (C := C.at σ)).ext x4 (C := C.at σ)).get e1
            obtain ⟨y2, f3, f4⟩ := (b2.same x5.same).get e2
            refine ⟨⟨_, _, _, _, c1, c2, f1, f3⟩, fun x H4 ⟨T, u1, u2, e3, e4, e5, e6, e7⟩ => ?_⟩
            subst e3 e5
            have := e6 _ c1
            rw [f1] at this; cases this
            have := e7 _ c2
            rw [f3] at this; cases this
            obtain ⟨r6, x6⟩ := r5.newly (o := .tup [v, y2]) e4
            have dd := r5.dead e4
            obtain ⟨r7, x7, sm7⟩ := r6.freeze x6 r5.sub e4 upd_same dd.1 dd.2
            refine ⟨_, x7, r7, T, v, y2, rfl, .inl upd_same, (x5.vob f2 ?_).ext x7, f4.same sm7⟩
            exact List.all_eq_true.mp hl.2 _ (List.mem_of_getElem? e1)
          · refine ⟨vs, us, SqT.rd r5.sub (same_rd x5.same g2), SqL.of (r5.sub _ _ (x5.same _ _ b1)), ?_⟩
            rw [← k1.length, b2.length, List.length_zip]
            omega
      · exact False.elim h5
    · exact False.elim h4⟩
/-- a, b = a pair -/
def gPr (g1 g2 : Gm) : GmA (Vl × PyData) := fun d ρ st => (g1 d.1 ρ st).bind fun ρ' s => g2 (.d d.2) ρ' s
theorem t_pairV {t1 t2 : Expr} {ws ws' : List Nat} {g1 g2 : Gm} (hc : X.calm = true) (h1 : PG X t1 (tG C ws g1)) (h2 : PG X t2 (tG C ws' g2)) (hs : (assignEach [t1, t2] X.env).map (·.2) = assign t1 X.env :: (assignEach [t2] X.env).map (·.2) := by rfl)
    (hs2 : (assignEach [t2] X.env).map (·.2) = assign t2 X.env :: (assignEach [] X.env).map (·.2) := by rfl) (hn : (assignEach [t1, t2] X.env).length = 2 := by rfl) (hst : (assignEach [t1, t2] X.env).findIdx? (·.1) = none := by rfl) (fl : C.Flat := by exact fun _ _ _ _ _ h => h) :
    PG X (.Tuple [t1, t2] k pos) (tGA pairOk C (ws ++ ws') (gPr g1 g2)) :=
  (pg_tup hc (pgs_cons h1 (pgs_cons h2 pgs_nil hs2) hs) hn hst).imp fun v σ H Q ⟨ρ, st, μ, F, d, h1, h2, ⟨T, v1, v2, e1, e2, e3, e4⟩, h4⟩ => by
    subst e1
    refine ⟨T, [v1, v2], rfl, SqT.rd h2.sub e2, rfl, v1, [v2], rfl, ρ, st, μ, F, d.1, h1, h2, e3, ?_⟩
    have h4 : Post (C.at σ) (gG C (ws ++ ws') σ Q) μ F H ((g1 d.1 ρ st).bind fun ρ' s => g2 (.d d.2) ρ' s) := h4
    cases q : g1 d.1 ρ st with
    | no => rw [q] at h4; exact h4
    | er e s => rw [q] at h4; exact h4
    | ok ρ1 s1 =>
      rw [q] at h4
      intro σ1 μ1 F1 H1 x1 r1 k1 a1
      refine ⟨v2, [], rfl, ρ1, s1, μ1, F1, .d d.2, k1, r1, e4.same x1.same, ?_⟩
      have h5 := Post.later gG_lat x1 (show Post (C.at σ) (gG C (ws ++ ws') σ Q) μ F H (g2 (.d d.2) ρ1 s1) from h4)
      cases q2 : g2 (.d d.2) ρ1 s1 with
      | no => rw [q2] at h5; exact h5
      | er e s => rw [q2] at h5; exact Erw.flat fl h5
      | ok ρ2 s2 =>
        rw [q2] at h5
        intro σ2 μ2 F2 H2 x2 r2 k2 a2
        exact ⟨rfl, h5 σ2 μ2 F2 H2 x2 r2 k2 ⟨a2.1.trans a1.1, fun j hj => by
          rw [List.mem_append, not_or] at hj
          rw [a2.2 j hj.2, a1.2 j hj.1]⟩⟩
end
end Cp
/-! Coe: a == b by an own __eq__. -/
namespace Cp
open PySem PySem.Spec PyProof.Rows L2
/-- what an instance of cls may be compared with by its own method -/
def eqR (s : Sto) (cls : Str) : Vl → Bool
  | .o (.ob j) => (insAt s j cls).isSome
  | .d (.tuple _) => true
  | _ => false
def noEr : Res Rv → Res Rv
  | .ok (.d (.bool k)) s => .ok (.d (.bool k)) s
  | _ => .no
def eqOr (cls : Str) (sem : Fs) (n : Nat) (x y : Vl) (s2 : Sto) : Res Rv := match x with
  | .o (.ob j) => match insAt s2 j cls with
    | some _ => if eqR s2 cls y = true then noEr (gcR n (sem [.o (.ob j), y] s2)) else .no
    | none => .no
  | _ => .no
def mEqO (cls : Str) (sem : Fs) (ma mb : Ev) : Ev := fun ρ st => (mV ma ρ st).bind fun x s1 => (mV mb ρ s1).bind fun y s2 => eqOr cls sem st.length x y s2
theorem Post.bindV1 {C : Cn} {μ μ1 : Mu} {F H F1 H1 : Hp} {β : Type} {G : β → Sto → Mu → Hp → Hp → Prop} {m : Res Vl} {k : Vl → Sto → Res β} {Q : VK} (x : Ext μ F H μ1 F1 H1) (h : Post C G μ F H (m.bind k))
    (hk : ∀ x s v μ2 F2 H2, Ext μ1 F1 H1 μ2 F2 H2 → SR C.K μ2 F2 H2 s → Vok C.K F2 μ2 x v → Post C G μ F H (k x s) → Q v H2) : PostV C Q μ1 F1 H1 m := by
  cases m with
  | ok y s => exact fun v μ2 F2 H2 e s1 o => hk y s v μ2 F2 H2 e s1 o h
  | er e s => exact Erw.later x h
  | no => exact h
section
variable {X : Cx} {C : Cn} {k j : Nat} {cls : Str} {pos : Pos} {a b : Expr} {ma mb : Ev} {sem : Fs} {K : Kw} {mg : Str → Option Value}
theorem spF_no {vs : List V} {H : Hp} {Q : VK} {E : XK} (h : spF K mg sem vs H Q fun _ _ _ => False) : spF K mg sem vs H Q E := by
  obtain ⟨args, st, μ, F, h1, h2, h3⟩ := h
  refine ⟨args, st, μ, F, h1, h2, ?_⟩
  cases q : sem args st with
  | ok r s => rw [q] at h3; exact h3
  | er e s => rw [q] at h3; exact fun cls dd μ2 F2 H2 y r2 k => (h3 cls dd μ2 F2 H2 y r2 k).elim
  | no => rw [q] at h3; exact h3
def rEqO (K : Kw) (mg : Str → Option Value) (cls : Str) (sem : Fs) : R2 := fun x y H Q => ∃ a dx us, x = .ref a ∧ H a = some (.ins (He.ga K.K cls) dx us) ∧
  ((∃ b dy ws, y = .ref b ∧ H b = some (.ins (He.ga K.K cls) dy ws)) ∨ ∃ b ws, y = .ref b ∧ SqT K.K H b ws) ∧ spF K mg sem [x, y] H Q fun _ _ _ => False
theorem op_eqO (B : Bd k X C) (G : KnM X.prog X.w X.K X.mg X.base cls "__eq__" j sem) (hj : j ≤ k) (hn : PySem.W.notFirst X.K (He.ga X.K cls) (.type "tuple") = true) : OpR X (compareOp .Eq) (rEqO ⟨X.K, X.w⟩ X.mg cls sem) := by
  obtain ⟨hc, fd, ps, hm, hb, G⟩ := G
  intro pins s σ H x y v u Q I rx ry h
  obtain ⟨a, dx, us, rfl, ea, hy, q⟩ := h
  cases (show v = Value.ref a from rx)
  obtain ⟨mA, O, _, _, _, _⟩ := ins_get I.hok ea
  obtain ⟨od, J, _⟩ := O.look
  obtain ⟨m, hF⟩ := I.fr
  show wpAny (model X.prog X.w) X.A (richCompare .Eq (.ref a) u) _ _ s
  rcases hy with ⟨b, dy, ws, rfl, eb⟩ | ⟨b, ws, rfl, eb⟩
  · cases (show u = Value.ref b from ry)
    obtain ⟨mA', O', _, _, _, _⟩ := ins_get I.hok eb
    obtain ⟨od', J', _⟩ := O'.look
    refine PySem.W.cmp_K (op := .Eq) (tb := .ref (He.ga X.K cls)) (by have := B.rm.hu; omega) hF I.ok.mod.kin J J'.type (by unfold PySem.W.notFirst; simp) hm.at_ hm.fn ?_
    refine wpAny_mono (meth_run B hb G hj (us := [.ref a, .ref b]) (vs := [.ref a, .ref b]) I (.cons rfl (.cons rfl .nil)) (spF_no q)) (fun w s' z => ?_) fun _ _ x => x
    obtain ⟨z', H', I', rz, qz⟩ := z
    exact SlX.cmpback rz ⟨z', H', I', rz, qz⟩
  · cases (show u = Value.ref b from ry)
    obtain ⟨its, r2, pl, _⟩ := I.tuple eb
    obtain ⟨o, ho, hcl, _⟩ := id pl
    have ht : PySem.W.Looks (model X.prog X.w) s.heap (typeOf (.ref b)) (.type "tuple") := hcl ▸ (PySem.W.Looks.ld ho).andThen .now
    refine PySem.W.cmp_K (op := .Eq) (tb := .type "tuple") (by have := B.rm.hu; omega) hF I.ok.mod.kin J ht hn hm.at_ hm.fn ?_
    refine wpAny_mono (meth_run B hb G hj (us := [.ref a, .ref b]) (vs := [.ref a, .ref b]) I (.cons rfl (.cons rfl .nil)) (spF_no q)) (fun w s' z => ?_) fun _ _ x => x
    obtain ⟨z', H', I', rz, qz⟩ := z
    exact SlX.cmpback rz ⟨z', H', I', rz, qz⟩
theorem eqO_core {β : Type} {G : β → Sto → Mu → Hp → Hp → Prop} {μ : Mu} {F H : Hp} {st : Sto} {ρ : En} {σ : L2.St} {R : VK} (gl : Lat G) (hK : C.K = ⟨X.K, X.w⟩) (h1 : Eok C.K F μ ρ σ) (h2 : SR C.K μ F H st) {kk : Rv → Sto → Res β}
    (h3 : Post (C.at σ) G μ F H ((mEqO cls sem ma mb ρ st).bind kk)) (fin : ∀ k s μ1 F1 H1, Ext μ F H μ1 F1 H1 → SR C.K μ1 F1 H1 s → Post (C.at σ) G μ1 F1 H1 (kk (.d (.bool k)) s) → R (.bl k) H1) :
    PostV (C.at σ) (fun x H1 => tV C (mV mb) σ H1 fun y H2 => rEqO ⟨X.K, X.w⟩ X.mg cls sem x y H2 R) μ F H (mV ma ρ st) := by
  have h3' : Post (C.at σ) G μ F H ((mV ma ρ st).bind fun x s1 => ((mV mb ρ s1).bind fun y s2 => eqOr cls sem st.length x y s2).bind kk) := by
    revert h3
    unfold mEqO
    cases mV ma ρ st <;> exact id
  refine Post.bindV0 h3' fun x s v μ1 F1 H1 x1 r1 k1 h4 => ⟨ρ, s, μ1, F1, h1.ext x1, r1, ?_⟩
  have h4' : Post (C.at σ) G μ F H ((mV mb ρ s).bind fun y s2 => (eqOr cls sem st.length x y s2).bind kk) := by
    revert h4
    cases mV mb ρ s <;> exact id
  refine Post.bindV1 x1 h4' fun y s2 u μ2 F2 H2 x2 r2 k2 h5 => ?_
  unfold eqOr at h5
  split at h5
  · rename_i j
    have k1 : Vok C.K F2 μ2 (.o (.ob j)) v := k1.ext x2
    obtain ⟨a0, ha0, rfl⟩ := id k1
    cases q : insAt s2 j cls with
    | none => simp only [q] at h5; exact False.elim h5
    | some fs =>
      simp only [q] at h5
      split at h5
      · rename_i hy
        obtain ⟨objs, a, dx, us, q1, q2, q3, q4, q5, q6, q7⟩ := insAt_ok r2 q
        rw [ha0] at q3; cases q3
        have e : (C.at σ).K.K = X.K := by show C.K.K = _; rw [hK]
        refine ⟨a0, dx, us, rfl, ?_, ?_, ?_⟩
        · show H2 a0 = some (.ins (He.ga X.K cls) dx us)
          rw [← e]; exact q5
        · unfold eqR at hy
          split at hy
          · rename_i j2
            cases q' : insAt s2 j2 cls with
            | none => rw [q'] at hy; cases hy
            | some fs2 =>
              obtain ⟨b0, hb0, rfl⟩ := id k2
              obtain ⟨_, b, dy, ws, _, _, p3, _, p5, _, _⟩ := insAt_ok r2 q'
              rw [hb0] at p3; cases p3
              refine .inl ⟨b0, dy, ws, rfl, ?_⟩
              show H2 b0 = some (.ins (He.ga X.K cls) dy ws)
              rw [← e]; exact p5
          · rename_i ds
            have k2 : Dq C.K F2 u (.tuple ds) := k2
            cases k2 with
            | tup g1 g2 => exact .inr ⟨_, _, rfl, SqT.rd r2.sub g1⟩
          · cases hy
        · rw [← hK]
          refine ⟨[.o (.ob j), y], s2, μ2, F2, .cons k1 (.cons k2 .nil), r2, ?_⟩
          have h6 : PostE (Cn.ofE C.K X.mg fun _ _ _ => False) R μ F H (gcR st.length (sem [.o (.ob j), y] s2)) := by
            revert h5
            cases gcR st.length (sem [.o (.ob j), y] s2) with
            | no => exact id
            | er e s => exact fun z => False.elim z
            | ok r s3 =>
              intro h5
              cases r with
              | d dd =>
                cases dd with
                | bool kb =>
                  intro w μ3 F3 H3 o
                  obtain ⟨y3, r3, ok3, _⟩ := o
                  have ok3 : Dq C.K F3 w (.bool kb) := ok3
                  cases ok3
                  exact fin kb s3 μ3 F3 H3 y3 r3 (Post.later gl y3 h5)
                | _ => exact False.elim h5
              | _ => exact False.elim h5
          exact call_post h2 (x1.trans x2) h6
      · exact False.elim h5
  · exact False.elim h5
theorem s_eqO (B : Bd k X C) (G : KnM X.prog X.w X.K X.mg X.base cls "__eq__" j sem) (hj : j ≤ k) (hn : PySem.W.notFirst X.K (He.ga X.K cls) (.type "tuple") = true) (ha : PE X a (tM C ma)) (hb : PE X b (tM C mb)) (hm : behindInMarks .Eq b = false := by first | exact nomark _ | rfl) :
    PE X (.Compare a [.Eq] [b] pos) (tM C (mEqO cls sem ma mb)) :=
  (pe_cmpR (op_eqO B G hj hn) (pv_frz ha) (pv_frz hb) hm).imp fun σ H Q ⟨ρ, st, μ, F, h1, h2, h3⟩ => ⟨ρ, st, μ, F, h1, h2, by
    have hK : C.K = ⟨X.K, X.w⟩ := by
      obtain ⟨⟨K, w⟩, mg, W, σC⟩ := C
      obtain rfl : K = X.K := B.hK
      obtain rfl : w = X.w := B.hw
      rfl
    have h3' : Post (C.at σ) (gE (C.at σ) Q) μ F H ((mEqO cls sem ma mb ρ st).bind fun r s => .ok r s) := by
      revert h3
      show PostE (C.at σ) Q μ F H (mEqO cls sem ma mb ρ st) → _
      cases mEqO cls sem ma mb ρ st <;> exact id
    exact eqO_core gE_lat hK h1 h2 h3' fun k s μ1 F1 H1 x1 r1 h => fin_d r1 h (.bl k)⟩
/-- the same as a test -/
def bEqO (cls : Str) (sem : Fs) (ma mb : Ev) : En → Sto → Res Bool := fun ρ st => (mEqO cls sem ma mb ρ st).bind fun r s => match r with
  | .d (.bool k) => .ok k s
  | _ => .no
theorem s_eqOT (B : Bd k X C) (G : KnM X.prog X.w X.K X.mg X.base cls "__eq__" j sem) (hj : j ≤ k) (hn : PySem.W.notFirst X.K (He.ga X.K cls) (.type "tuple") = true) (ha : PE X a (tM C ma)) (hb : PE X b (tM C mb)) (hm : behindInMarks .Eq b = false := by first | exact nomark _ | rfl) :
    PT X (.Compare a [.Eq] [b] pos) (tT C (bEqO cls sem ma mb)) := by
  have h := pt_cmpR (pos := pos) (op_eqO B G hj hn) (pv_frz ha) (pv_frz hb) hm
  have hK : C.K = ⟨X.K, X.w⟩ := by
    obtain ⟨⟨K, w⟩, mg, W, σC⟩ := C
    obtain rfl : K = X.K := B.hK
    obtain rfl : w = X.w := B.hw
    rfl
  exact ⟨fun pins s σ H Q I ⟨ρ, st, μ, F, h1, h2, h3⟩ => h.run pins s σ H Q I ⟨ρ, st, μ, F, h1, h2, eqO_core gB_lat hK h1 h2 h3 fun k s μ1 F1 H1 x1 r1 h => ⟨k, rfl, h μ1 F1 H1 Ext.refl r1⟩⟩⟩
end
end Cp
/-! Cow: isinstance(x, C) of an object or a tuple; what the rules of Coe, Cov, Cov2 mean (W_). -/
namespace Cp
open PySem PySem.Spec PyProof.Rows L2
/-- what isinstance asks of the class by its name -/
structure IsiC (K : PySem.W.Frag) (C : Addr) : Prop where
  cl : Cls K C
  ca : PySem.W.findIn K (.ref C) "__class__" = some (some (.builtin "object.__class__"))
  cn : PySem.W.specialIn K (.builtin "object.__class__") "__get__" = some (some (.builtin "getset_descriptor.__get__"))
  ct : PySem.W.takesIn K (.builtin "object.__class__") = some true
  cm : PySem.W.mroIn K C (.type "object") = some true
def isiCB (x : Str) : Fb := fun K => He.eqO (PySem.W.findIn K (.ref (He.ga K x)) "__class__") (some (some (.builtin "object.__class__"))) && (He.eqO (PySem.W.specialIn K (.builtin "object.__class__") "__get__") (some (some (.builtin "getset_descriptor.__get__"))) &&
  (decide (PySem.W.takesIn K (.builtin "object.__class__") = some true) && decide (PySem.W.mroIn K (He.ga K x) (.type "object") = some true)))
theorem isiCB_ok {K : PySem.W.Frag} {x : Str} (c : Cls K (He.ga K x)) (h : isiCB x K = true) : IsiC K (He.ga K x) := by
  obtain ⟨h1, h⟩ := He.ba h
  obtain ⟨h2, h⟩ := He.ba h
  obtain ⟨h3, h4⟩ := He.ba h
  exact ⟨c, He.eqO_ok h1, He.eqO_ok h2, of_decide_eq_true h3, of_decide_eq_true h4⟩
def mIsK (cls : Str) (ma : Ev) : Ev := fun ρ st => (mV ma ρ st).bind fun x s => match x with
  | .o (.ob j) => if (insAt s j cls).isSome = true then .ok (.d (.bool true)) s else .no
  | .d (.tuple _) => .ok (.d (.bool false)) s
  | _ => .no
section
variable {X : Cx} {C : Cn} {a : Expr} {ma : Ev} {p p2 pos : Pos} {y : Str}
theorem s_isK (B0 : C.K = X.K) (hg : Gl X "isinstance") (hm : X.mg "isinstance" = none) (ha : PE X a (tM C ma)) (gy : Gl X y) (my : X.mg y = some (.ref (He.ga X.K y))) (I0 : IsiC X.K (He.ga X.K y))
    (hS : PySem.W.kitAny X.K (.ref (He.ga X.K y)) [.ref (He.ga X.K y)] = some true) (hT : PySem.W.kitAny X.K (.type "tuple") [.ref (He.ga X.K y)] = some false) (hd : (y == ("__debug__" : Str)) = false := by decide)
    (he : starEach [a, .Name y p2] X.env = (false, eval a X.env) :: starEach [.Name y p2] X.env := by rfl) (hpl : (backTo pos (starEach [.Name y p2] X.env)).any (·.1) = false := by rfl) (he2 : starEach [.Name y p2] X.env = (false, eval (.Name y p2) X.env) :: starEach [] X.env := by rfl) :
    PE X (.Call (.Name "isinstance" p) [a, .Name y p2] [] pos) (tM C (mIsK y ma)) :=
  (pe_callB call_isi hg hm boot_isi (pa_cons (pv_frz ha) (pa_cons (pe_glob (v := .ref (He.ga X.K y)) gy my rfl hd) pa_nil he2) he) (by decide) (by decide) he hpl).imp fun σ H Q ⟨ρ, st, μ, F, h1, h2, h3⟩ => ⟨ρ, st, μ, F, h1, h2, Post.bindV gE_lat h3 fun x s v μ1 F1 H1 x1 r1 k1 h4 => by
    split at h4
    · rename_i j
      split at h4
      · rename_i hj
        cases q : insAt s j y with
        | none => rw [q] at hj; cases hj
        | some fs =>
          obtain ⟨a0, ha0, rfl⟩ := k1
          obtain ⟨objs, a, dx, us, q1, q2, q3, q4, q5, q6, q7⟩ := insAt_ok r1 q
          rw [ha0] at q3; cases q3
          have e : (C.at σ).K.K = X.K := B0
          have q5 : H1 a0 = some (.ins (He.ga X.K y) dx us) := by rw [← e]; exact q5
          exact ⟨.ref a0, .ref (He.ga X.K y), .ref (He.ga X.K y), .ref (He.ga X.K y), true, rfl, .own _, .base (.ins q5 I0.cl I0.ca I0.cn I0.ct I0.cm), kit1 hS, fin_d r1 h4 (.bl true)⟩
      · exact False.elim h4
    · rename_i ds
      have k1 : Dq C.K F1 v (.tuple ds) := k1
      cases k1 with
      | @tup b ws _ g1 g2 =>
        rcases g1 with g1 | ⟨o, g1⟩
        · exact ⟨.ref b, .ref (He.ga X.K y), .type "tuple", .ref (He.ga X.K y), false, rfl, .own _, .base (.tup (r1.sub _ _ g1)), kit1 hT, fin_d r1 h4 (.bl false)⟩
        · exact ⟨.ref b, .ref (He.ga X.K y), .type "tuple", .ref (He.ga X.K y), false, rfl, .own _, .fTuple (r1.sub _ _ g1), kit1 hT, fin_d r1 h4 (.bl false)⟩
    · exact False.elim h4⟩
end
def mTurnK (ma : Ev) : Ev := fun ρ st => (mV ma ρ st).bind fun x s => match x with
  | .d (.list ds) => .ok (.n (.l ds.reverse)) s
  | .c k => match s[k]? with
    | some (.l ds) => .ok (.n (.l ds.reverse)) s
    | _ => .no
  | _ => .no
theorem s_turnK {X : Cx} {C : Cn} {a : Expr} {ma : Ev} {p1 p2 p3 pos : Pos} {k : Nat} (hK : C.K.K = X.K) (ha : PE X a (tM C ma)) : PE X (.Subscript a (.Slice none none (some (.UnaryOp .USub (.Constant (.int 1) k p1) p2)) p3) pos) (tM C (mTurnK ma)) :=
  (pe_revL (pv_frz ha)).imp fun σ H Q ⟨ρ, st, μ, F, h1, h2, h3⟩ => ⟨ρ, st, μ, F, h1, h2, Post.bindV gE_lat h3 fun x s v μ1 F1 H1 x1 r1 k1 h4 => by
    cases x with
    | c j =>
      cases q : s[j]? with
      | none => simp only [q] at h4; exact False.elim h4
      | some cl =>
        cases cl with
        | m _ => simp only [q] at h4; exact False.elim h4
        | l xs =>
          simp only [q] at h4
          obtain ⟨pp, hp, rfl⟩ := k1
          obtain ⟨p', o', g1, g2, ys, rfl, g3⟩ := r1.cell j _ q
          rw [hp] at g1; cases g1
          exact ⟨pp, ys, rfl, SqL.of g2, fun p hp => fin_n r1 h4 hp ⟨_, rfl, g3.rev⟩⟩
    | s _ => exact False.elim h4
    | o _ => exact False.elim h4
    | d x =>
      cases x with
      | list ds =>
        cases (show Dq C.K F1 v (.list ds) from k1) with
        | lst q1 q2 => exact ⟨_, _, rfl, SqL.of (r1.sub _ _ q1), fun p hp => fin_n r1 h4 hp ⟨_, rfl, q2.rev⟩⟩
      | _ => exact False.elim h4⟩
theorem x_setLcA {α : Type} {X : Cx} {C : Cn} {rel : Kw → Hp → Mu → α → V → Prop} {tg iter e : Expr} {pos : Pos} {i : Nat} {y : Str} {py : Pos} {spos : Pos} {scope : Scope} {own : List (Str × Nat)} {mi : En → Sto → Res (List α)} {ws : List Nat} {g : GmA α} {te : Ev} (hc : X.calm = true) (hN : X.N.Nodup) (hy : X.N[i]? = some y) (hyl : X.env.scope.names.lookup y = some .local)
    (hsw : swapsWith (.ListComp e [⟨tg, iter, [], 0⟩] scope pos) (some (.Name y py)) spos.line X.env = pure true) (hi : PI X tg iter (tIA rel C mi)) (ok : BlkOk X.N X.env.scope scope own)
    (hg : Blk X scope fun Y => PG Y tg (tGA rel C.quiet ws g)) (he : Blk X scope fun Y => PE Y e (tM C.quiet te)) (hws : ∀ i, i ∈ ws → i ∈ own.map (·.2)) (hs : ∀ x, foldedSetIterable iter X.env x = pure x := by intro _; rfl) :
    PS X (.Assign [.Name y py] (.ListComp e [⟨tg, iter, [], 0⟩] scope pos) spos) (tS C (sAsg (gNm i) (mV (mLcA mi g te (own.map (·.2)))))) := by
  have h := ps_setLc (spos := spos) (py := py) hc hN hy hyl hsw hi ok (fun s H A cl fp => hg s H A cl fp) (fun s H A cl fp => pts_yes (C := C.quiet)) (fun s H A cl fp => pv_frz (he s H A cl fp)) hs
  refine x_asgLc h fun σ H Q hq => s_lcTA (scope := scope) hws σ H Q ?_
  obtain ⟨ρ, st, μ, F, h1, h2, h3⟩ := hq
  refine ⟨ρ, st, μ, F, h1, h2, ?_⟩
  show PostE (C.at σ) Q μ F H (mLcA mi g te (own.map (·.2)) ρ st)
  cases q : mLcA mi g te (own.map (·.2)) ρ st with
  | ok r s' =>
    simp only [mV, q] at h3
    intro v μ' F' H' o
    obtain ⟨F2, x2, s2, k⟩ := frz_out h2 o
    exact h3 v μ' F2 H' x2 s2 k
  | er e2 s' => simp only [mV, q] at h3; exact h3
  | no => simp only [mV, q] at h3; exact h3
section
variable {α : Type} {E : Er → Sto → Prop} {ρ : En} {st : Sto} {PE : Rv → Sto → Prop} {PB : Bool → Sto → Prop} {N B C : En → Sto → Prop} {R : Rv → Sto → Prop} {cls : Str} {sem : Fs} {ma mb : Ev} {mas : En → Sto → Res (List Vl)}
theorem W_noEr (n : Nat) (r : Res Rv) : WVe E (noEr (gcR n r)) PE = WVe noE r fun rv s' => ∃ k, rv = .d (.bool k) ∧ PE (.d (.bool k)) (s'.take n) := by
  cases r with
  | no => rfl
  | er e s => rfl
  | ok rv s =>
    cases rv with
    | d x =>
      cases x <;> simp [gcR, noEr, WVe]
    | s ns => simp [gcR, noEr, WVe]
    | o x => simp [gcR, noEr, WVe]
    | n c => simp [gcR, noEr, WVe]
    | c i =>
      simp only [gcR]
      by_cases hi : i < n
      · simp [hi, noEr, WVe]
      · rw [if_neg hi]
        cases s[i]? with
        | none => simp [noEr, WVe]
        | some c => by_cases hg : isGone c = true <;> simp [hg, noEr, WVe]
@[simp] theorem W_mEqO : WVe E (mEqO cls sem ma mb ρ st) PE = WVe E (ma ρ st) fun r s1 => WVe E (mb ρ s1) fun r2 s2 => onOb (frz r) fun j => WO (insAt s2 j cls) fun _ => eqR s2 cls (frz r2) = true ∧ WVe noE (sem [.o (.ob j), frz r2] s2) fun rv s' => ∃ k, rv = .d (.bool k) ∧ PE (.d (.bool k)) (s'.take st.length) := by
  unfold mEqO; rw [WV_bind, W_mV]
  congr 1; funext r s1
  rw [WV_bind, W_mV]
  congr 1; funext r2 s2
  generalize frz r = v
  unfold eqOr
  cases v with
  | o x =>
    cases x with
    | ob j =>
      dsimp only [onOb]
      cases insAt s2 j cls with
      | none => rfl
      | some fs =>
        simp only [WO_some]
        by_cases h : eqR s2 cls (frz r2) = true
        · rw [if_pos h, W_noEr]; simp [h]
        · rw [if_neg h]; simp [h, WVe]
    | _ => rfl
  | _ => rfl
@[simp] theorem W_bEqO : WVe E (bEqO cls sem ma mb ρ st) PB = WVe E (ma ρ st) fun r s1 => WVe E (mb ρ s1) fun r2 s2 => onOb (frz r) fun j => WO (insAt s2 j cls) fun _ => eqR s2 cls (frz r2) = true ∧ WVe noE (sem [.o (.ob j), frz r2] s2) fun rv s' => ∃ k, rv = .d (.bool k) ∧ PB k (s'.take st.length) := by
  unfold bEqO; rw [WV_bind, W_mEqO]
  all_goals rfl
@[simp] theorem W_mIsK : WVe E (mIsK cls ma ρ st) PE = WVe E (ma ρ st) fun r s => match frz r with
    | .o (.ob j) => (insAt s j cls).isSome = true ∧ PE (.d (.bool true)) s
    | .d (.tuple _) => PE (.d (.bool false)) s
    | _ => False := by
  unfold mIsK; rw [WV_bind, W_mV]
  congr 1; funext r s
  generalize frz r = v
  cases v with
  | o x =>
    cases x with
    | ob j => dsimp only; by_cases h : (insAt s j cls).isSome = true <;> simp [h, WVe]
    | _ => rfl
  | d x => cases x <;> rfl
  | _ => rfl
@[simp] theorem W_mTurnK : WVe E (mTurnK ma ρ st) PE = WVe E (ma ρ st) fun r s => match frz r with
    | .d (.list ds) => PE (.n (.l ds.reverse)) s
    | .c k => (match s[k]? with
      | some (.l ds) => PE (.n (.l ds.reverse)) s
      | _ => False)
    | _ => False := by
  unfold mTurnK; rw [WV_bind, W_mV]
  congr 1; funext r s
  cases frz r with
  | d x => cases x <;> rfl
  | c k =>
    dsimp only
    cases s[k]? with
    | none => rfl
    | some c => cases c <;> rfl
  | s _ => rfl
  | o _ => rfl
@[simp] theorem W_iTv {P : List Vl → Sto → Prop} : WVe E (iTv mas ρ st) P = WVe E (mas ρ st) fun xs s => (xs.length ≤ sizeLine ∧ xs.all vob = true) ∧ P xs s := by
  unfold iTv; rw [WV_bind]
  congr 1; funext xs s
  split <;> rename_i h <;> simp only [h, true_and, false_and] <;> rfl
@[simp] theorem W_iZv {P : List (Vl × PyData) → Sto → Prop} : WVe E (iZv mas mb ρ st) P = WVe E (mas ρ st) fun xs s => (xs.length ≤ sizeLine ∧ xs.all vob = true) ∧ WVe E (mb ρ s) fun r s2 => match frz r with
    | .d (.list ys) => P (xs.zip ys) s2
    | _ => False := by
  unfold iZv; rw [WV_bind]
  congr 1; funext xs s
  split
  · rename_i h
    simp only [h, true_and]
    rw [WV_bind, W_mV]
    congr 1; funext r s2
    generalize frz r = v
    cases v with
    | d x => cases x <;> rfl
    | _ => rfl
  · rename_i h
    simp only [h, false_and]
    all_goals rfl
@[simp] theorem W_gPr {g1 g2 : Gm} {d : Vl × PyData} {P : En → Sto → Prop} : WVe E (gPr g1 g2 d ρ st) P = WVe E (g1 d.1 ρ st) fun ρ' s => WVe E (g2 (.d d.2) ρ' s) P := by unfold gPr; rw [WV_bind]
@[simp] theorem W_sForA {mi : En → Sto → Res (List α)} {g : GmA α} {b : Sv} : WSe E (sForA mi g b ρ st) N B C R = WVe E (mi ρ st) fun xs s => WSe E (forGoA g b xs ρ s) N B C R := by unfold sForA; rw [WS_toS]
@[simp] theorem W_forGoA_nil {g : GmA α} {b : Sv} : WSe E (forGoA g b [] ρ st) N B C R = N ρ st := rfl
@[simp] theorem W_forGoA_cons {g : GmA α} {b : Sv} {d : α} {r : List α} : WSe E (forGoA g b (d :: r) ρ st) N B C R = WVe E (g d ρ st) fun ρ1 s1 => WSe E (b ρ1 s1) (fun ρ2 s2 => WSe E (forGoA g b r ρ2 s2) N B C R) N (fun ρ2 s2 => WSe E (forGoA g b r ρ2 s2) N B C R) R := by
  show WSe E ((g d ρ st).toS _) N B C R = _
  rw [WS_toS]
  congr 1; funext ρ1 s1
  cases b ρ1 s1 <;> rfl
@[simp] theorem W_mLcA {mi : En → Sto → Res (List α)} {g : GmA α} {te : Ev} {vs : List Nat} : WVe E (mLcA mi g te vs ρ st) PE = WVe E (mi ρ st) fun ds s => WVe E (lcGoA g te (wipeE ρ vs) ds s []) fun ys s' => PE (.n (.l ys)) s' := by
  unfold mLcA; rw [WV_bind]
  congr 1; funext ds s
  rw [WV_bind]
  all_goals rfl
@[simp] theorem W_lcGoA_nil {g : GmA α} {te : Ev} {acc : List PyData} {P : List PyData → Sto → Prop} : WVe E (lcGoA g te ρ [] st acc) P = P acc st := rfl
@[simp] theorem W_lcGoA_cons {g : GmA α} {te : Ev} {d : α} {r : List α} {acc : List PyData} {P : List PyData → Sto → Prop} : WVe E (lcGoA g te ρ (d :: r) st acc) P = WVe noE (g d ρ st) fun ρ1 s1 => WVe noE (te ρ1 s1) fun v s3 => match frz v with
    | .d y => acc.length < sizeLine ∧ WVe E (lcGoA g te ρ r s3 (acc ++ [y])) P
    | _ => False := by
  show WVe E (match g d ρ st with
      | .ok ρ1 s1 => match mV te ρ1 s1 with
          | .ok (.d y) s3 => if acc.length < sizeLine then lcGoA g te ρ r s3 (acc ++ [y]) else .no
          | _ => .no
      | _ => .no) P = _
  cases g d ρ st with
  | no => rfl
  | er e s => rfl
  | ok ρ1 s1 =>
    show WVe E (match mV te ρ1 s1 with
          | .ok (.d y) s3 => if acc.length < sizeLine then lcGoA g te ρ r s3 (acc ++ [y]) else .no
          | _ => .no) P = WVe noE (te ρ1 s1) _
    unfold mV
    cases te ρ1 s1 with
    | no => rfl
    | er e s => rfl
    | ok v s3 =>
      show WVe E (match (Res.ok (frz v) s3 : Res Vl) with
          | .ok (.d y) s3 => if acc.length < sizeLine then lcGoA g te ρ r s3 (acc ++ [y]) else .no
          | _ => .no) P = (match frz v with
        | .d y => acc.length < sizeLine ∧ WVe E (lcGoA g te ρ r s3 (acc ++ [y])) P
        | _ => False)
      generalize frz v = z
      cases z with
      | d y =>
        dsimp only
        by_cases h : acc.length < sizeLine
        · rw [if_pos h]; simp [h]
        · rw [if_neg h]; simp [h, WVe]
      | _ => rfl
end
end Cp
namespace K61
open PySem PySem.Spec PyProof.Rows L2 Cp
def top (i : Nat) : Stmt := PySem.Challenge.pw_callpolicy_k61_copies_of_desks.main.body.getD i (.Pass ⟨0, 0, 0, 0⟩)
abbrev st__wall : Stmt := top 0
abbrev st_is_label : Stmt := top 25
abbrev st_is_number : Stmt := top 26
abbrev st_is_span : Stmt := top 27
abbrev st_is_call : Stmt := top 28
abbrev st_has_number : Stmt := top 29
abbrev st_has_form : Stmt := top 30
abbrev st_inner : Stmt := top 31
abbrev st_is_policy : Stmt := top 32
abbrev st_is_index : Stmt := top 33
abbrev st_check_part : Stmt := top 34
abbrev st_part_at : Stmt := top 35
abbrev st_with_inner : Stmt := top 36
abbrev st_put_at : Stmt := top 37
abbrev st_check_policy : Stmt := top 38
abbrev st_replaced : Stmt := top 39
abbrev st_with_number : Stmt := top 40
abbrev st__law_urn : Stmt := top 44
abbrev st__law_next : Stmt := top 45
abbrev st__law_of : Stmt := top 46
abbrev st__law_span : Stmt := top 47
abbrev st__law_call : Stmt := top 48
abbrev st__law_label : Stmt := top 49
abbrev st__law_policy : Stmt := top 50
abbrev st__law_grown : Stmt := top 51
abbrev st__law_inner : Stmt := top 52
abbrev st__law_all_paths : Stmt := top 53
abbrev st__law_part : Stmt := top 54
abbrev st__law_put : Stmt := top 55
abbrev st__law_number : Stmt := top 56
abbrev st__law_made : Stmt := top 57
abbrev st__law_done : Stmt := top 58
abbrev st__law_led : Stmt := top 59
abbrev st__law_state : Stmt := top 60
abbrev st__law_is_undone : Stmt := top 61
abbrev st__law_right : Stmt := top 62
abbrev st__law_many_right : Stmt := top 63
abbrev st_law : Stmt := top 64
abbrev st_Desk___init__ : Stmt := match top 42 with
  | .ClassDef _ _ _ b _ _ _ _ _ _ _ => b.getD 0 (.Pass ⟨0, 0, 0, 0⟩)
  | _ => .Pass ⟨0, 0, 0, 0⟩
abbrev st_Desk___eq__ : Stmt := match top 42 with
  | .ClassDef _ _ _ b _ _ _ _ _ _ _ => b.getD 1 (.Pass ⟨0, 0, 0, 0⟩)
  | _ => .Pass ⟨0, 0, 0, 0⟩
abbrev st_Desk_become : Stmt := match top 42 with
  | .ClassDef _ _ _ b _ _ _ _ _ _ _ => b.getD 2 (.Pass ⟨0, 0, 0, 0⟩)
  | _ => .Pass ⟨0, 0, 0, 0⟩
abbrev st_Desk_set_number : Stmt := match top 42 with
  | .ClassDef _ _ _ b _ _ _ _ _ _ _ => b.getD 3 (.Pass ⟨0, 0, 0, 0⟩)
  | _ => .Pass ⟨0, 0, 0, 0⟩
abbrev st_Desk_put : Stmt := match top 42 with
  | .ClassDef _ _ _ b _ _ _ _ _ _ _ => b.getD 4 (.Pass ⟨0, 0, 0, 0⟩)
  | _ => .Pass ⟨0, 0, 0, 0⟩
abbrev st_Desk_wrap : Stmt := match top 42 with
  | .ClassDef _ _ _ b _ _ _ _ _ _ _ => b.getD 5 (.Pass ⟨0, 0, 0, 0⟩)
  | _ => .Pass ⟨0, 0, 0, 0⟩
abbrev st_Desk_unwrap : Stmt := match top 42 with
  | .ClassDef _ _ _ b _ _ _ _ _ _ _ => b.getD 6 (.Pass ⟨0, 0, 0, 0⟩)
  | _ => .Pass ⟨0, 0, 0, 0⟩
abbrev st_Desk_mark : Stmt := match top 42 with
  | .ClassDef _ _ _ b _ _ _ _ _ _ _ => b.getD 9 (.Pass ⟨0, 0, 0, 0⟩)
  | _ => .Pass ⟨0, 0, 0, 0⟩
abbrev st_Desk_undo : Stmt := match top 42 with
  | .ClassDef _ _ _ b _ _ _ _ _ _ _ => b.getD 10 (.Pass ⟨0, 0, 0, 0⟩)
  | _ => .Pass ⟨0, 0, 0, 0⟩
abbrev st_Desk_present : Stmt := match top 42 with
  | .ClassDef _ _ _ b _ _ _ _ _ _ _ => b.getD 11 (.Pass ⟨0, 0, 0, 0⟩)
  | _ => .Pass ⟨0, 0, 0, 0⟩
abbrev st_Desk_marked : Stmt := match top 42 with
  | .ClassDef _ _ _ b _ _ _ _ _ _ _ => b.getD 12 (.Pass ⟨0, 0, 0, 0⟩)
  | _ => .Pass ⟨0, 0, 0, 0⟩
abbrev st_Desk_changes : Stmt := match top 42 with
  | .ClassDef _ _ _ b _ _ _ _ _ _ _ => b.getD 13 (.Pass ⟨0, 0, 0, 0⟩)
  | _ => .Pass ⟨0, 0, 0, 0⟩
abbrev st_Desk_clone : Stmt := match top 42 with
  | .ClassDef _ _ _ b _ _ _ _ _ _ _ => b.getD 15 (.Pass ⟨0, 0, 0, 0⟩)
  | _ => .Pass ⟨0, 0, 0, 0⟩
section
variable {P : Program} {w : World} {K : PySem.W.Frag} {mg : Str → Option Value} {base : Heap}
noncomputable def sb__wall : Sv := (whGo (mTru (mK (.bool true))) sNil 1048576)
noncomputable def sem__wall : Fs := bodyF 1 1 sb__wall
theorem kn__wall (D : Df K mg "_wall" st__wall) : Kn P w K mg base "_wall" 1 sem__wall :=
  kn_def (k := 0) (N := ["k"]) (ps := ["k"]) (sb := sb__wall) D ⟨rfl, rfl, rfl, by decide +kernel, rfl, by decide +kernel, by decide +kernel⟩ (fun _ _ _ _ _ _ us hl => match us, hl with | [_], _ => rfl) (fun cdv f A outer s H E B =>
    (x_one (x_while 1048576 B.hp (s_test s_bool (fun _ => rfl)) (x_one x_pass))))
noncomputable def sb_is_label : Sv := (sRet (eAnd (mIsi "str" (mN 0)) (eAnd (bV (mChn (gI fun i j => decide (i ≤ j)) (gI fun i j => decide (i ≤ j)) (mK (.int 1)) (mCal (gLen) (aCons (mV (mN 0)) aNil)) (mK (.int 8)))) (mCal (g1 fAll) (aCons (mV (mLc (iOf (mN 0)) (gNm 1) ttY (bV (mCmp (gInS false) (mN 1) (mK (.str "abcdefghijklmnopqrstuvwxyz0123456789")))) [1])) aNil)))))
noncomputable def sem_is_label : Fs := bodyF 2 1 sb_is_label
theorem kn_is_label (D : Df K mg "is_label" st_is_label) (m_all : mg "all" = none) (m_isinstance : mg "isinstance" = none) (m_len : mg "len" = none) (m_str : mg "str" = none) (c_LONGEST_LABEL : ∃ t, mg "LONGEST_LABEL" = some (.int 8 t)) (c_SIGNS : ∃ t, mg "SIGNS" = some (.str "abcdefghijklmnopqrstuvwxyz0123456789" t)) : Kn P w K mg base "is_label" 1 sem_is_label :=
  kn_def (k := 0) (N := ["value", "sign"]) (ps := ["value"]) (sb := sb_is_label) D ⟨rfl, rfl, rfl, by decide +kernel, rfl, by decide +kernel, by decide +kernel⟩ (fun _ _ _ _ _ _ us hl => match us, hl with | [_], _ => rfl) (fun cdv f A outer s H E B =>
    (x_one (x_ret (s_and (s_isi (by rfl) m_isinstance (s_name (pv 0)) (by rfl) m_str (by decide +kernel)) (s_and (s_chn op_le op_le gI_ok gI_ok s_int (k_len B (by rfl) m_len (a_cons (s_name (pv 0)) a_nil)) (s_gi (by rfl) c_LONGEST_LABEL)) (s_one (k_all B (by rfl) m_all (a_cons (s_lc (own := [("sign", 1)]) B.cm B.nd (i_seq (s_name (pv 0))) (show BlkOk ["value", "sign"] (defScope st_is_label) _ _ from ⟨rfl, by decide +kernel, by decide +kernel, by decide +kernel, by decide +kernel⟩) (fun s1 H1 A1 cl1 fp1 => (t_name (pg_name (i := 1) (B.blk s1 H1 _ _ fp1).nd rfl (by first | exact .inl rfl | exact .inr rfl)))) (fun s1 H1 A1 cl1 fp1 => pts_yes) (fun s1 H1 A1 cl1 fp1 => (v_sIn (s_name (pv 1)) (s_gs (by rfl) c_SIGNS) rfl)) (by decide)) a_nil))))))))
noncomputable def sb_is_number : Sv := (sRet (eAnd (mIsi "int" (mN 0)) (eAnd (eNot (mIsi "bool" (mN 0))) (bV (mChn (gI fun i j => decide (i ≤ j)) (gI fun i j => decide (i ≤ j)) (mK (.int 0)) (mN 0) (mK (.int 1000000000)))))))
noncomputable def sem_is_number : Fs := bodyF 1 1 sb_is_number
theorem kn_is_number (D : Df K mg "is_number" st_is_number) (m_bool : mg "bool" = none) (m_int : mg "int" = none) (m_isinstance : mg "isinstance" = none) (c_GREATEST_NUMBER : ∃ t, mg "GREATEST_NUMBER" = some (.int 1000000000 t)) : Kn P w K mg base "is_number" 1 sem_is_number :=
  kn_def (k := 0) (N := ["value"]) (ps := ["value"]) (sb := sb_is_number) D ⟨rfl, rfl, rfl, by decide +kernel, rfl, by decide +kernel, by decide +kernel⟩ (fun _ _ _ _ _ _ us hl => match us, hl with | [_], _ => rfl) (fun cdv f A outer s H E B =>
    (x_one (x_ret (s_and (s_isi (by rfl) m_isinstance (s_name (pv 0)) (by rfl) m_int (by decide +kernel)) (s_and (s_not (s_isi (by rfl) m_isinstance (s_name (pv 0)) (by rfl) m_bool (by decide +kernel))) (s_one (s_chn op_le op_le gI_ok gI_ok s_int (s_name (pv 0)) (s_gi (by rfl) c_GREATEST_NUMBER))))))))
noncomputable def sb_inner : Sv := (sSeq (sIf (mCmp (gIn false) (mBin fIx (mN 0) (mK (.int 0))) (mTup (aCons (mV (mK (.str "call"))) (aCons (mV (mK (.str "wait"))) aNil)))) (sRet (mTup aNil)) sNil) (sRet (eIf (mCmp (gIn false) (mBin fIx (mN 0) (mK (.int 0))) (mTup (aCons (mV (mK (.str "then"))) (aCons (mV (mK (.str "both"))) aNil)))) (mSl (mN 0) (oSome (mK (.int 1))) oNone) (mSl (mN 0) (oSome (mK (.int 2))) oNone))))
noncomputable def sem_inner : Fs := bodyF 1 1 sb_inner
theorem kn_inner (D : Df K mg "inner" st_inner) (c_BOTH : ∃ t, mg "BOTH" = some (.str "both" t)) (c_CALL : ∃ t, mg "CALL" = some (.str "call" t)) (c_THEN : ∃ t, mg "THEN" = some (.str "then" t)) (c_WAIT : ∃ t, mg "WAIT" = some (.str "wait" t)) : Kn P w K mg base "inner" 1 sem_inner :=
  kn_def (k := 0) (N := ["policy"]) (ps := ["policy"]) (sb := sb_inner) D ⟨rfl, rfl, rfl, by decide +kernel, rfl, by decide +kernel, by decide +kernel⟩ (fun _ _ _ _ _ _ us hl => match us, hl with | [_], _ => rfl) (fun cdv f A outer s H E B =>
    (x_cons (x_if (t_in (s_ix (s_name (pv 0)) s_int (fun _ _ => rfl)) (s_tup (a_cons (s_gs (by rfl) c_CALL) (a_cons (s_gs (by rfl) c_WAIT) a_nil))) rfl) (x_one (x_ret (s_tup a_nil))) x_nil) (x_one (x_ret (s_ifE (t_in (s_ix (s_name (pv 0)) s_int (fun _ _ => rfl)) (s_tup (a_cons (s_gs (by rfl) c_THEN) (a_cons (s_gs (by rfl) c_BOTH) a_nil))) rfl) (s_sl (s_name (pv 0)) (o_some s_int) o_none) (s_sl (s_name (pv 0)) (o_some s_int) o_none))))))
noncomputable def sb_is_index : Sv := (sRet (eAnd (mIsi "int" (mN 0)) (eAnd (eNot (mIsi "bool" (mN 0))) (bV (mChn (gI fun i j => decide (i ≤ j)) (gI fun i j => decide (i < j)) (mK (.int 0)) (mN 0) (mN 1))))))
noncomputable def sem_is_index : Fs := bodyF 2 2 sb_is_index
theorem kn_is_index (D : Df K mg "is_index" st_is_index) (m_bool : mg "bool" = none) (m_int : mg "int" = none) (m_isinstance : mg "isinstance" = none) : Kn P w K mg base "is_index" 1 sem_is_index :=
  kn_def (k := 0) (N := ["value", "count"]) (ps := ["value", "count"]) (sb := sb_is_index) D ⟨rfl, rfl, rfl, by decide +kernel, rfl, by decide +kernel, by decide +kernel⟩ (fun _ _ _ _ _ _ us hl => match us, hl with | [_, _], _ => rfl) (fun cdv f A outer s H E B =>
    (x_one (x_ret (s_and (s_isi (by rfl) m_isinstance (s_name (pv 0)) (by rfl) m_int (by decide +kernel)) (s_and (s_not (s_isi (by rfl) m_isinstance (s_name (pv 0)) (by rfl) m_bool (by decide +kernel))) (s_one (s_chn op_le op_lt gI_ok gI_ok s_int (s_name (pv 0)) (s_name (pv 1)))))))))
noncomputable def sb_with_inner : Sv := (sRet (mBin fAdd (mSl (mN 0) oNone (oSome (mBin (fI (fun _ _ => true) fun i j => i - j) (mCal (gLen) (aCons (mV (mN 0)) aNil)) (mCal (gLen) (aCons (mV (mN 1)) aNil))))) (mCal (g1 fTuple) (aCons (mV (mN 1)) aNil))))
noncomputable def sem_with_inner : Fs := bodyF 2 2 sb_with_inner
theorem kn_with_inner (D : Df K mg "with_inner" st_with_inner) (m_len : mg "len" = none) (m_tuple : mg "tuple" = none) : Kn P w K mg base "with_inner" 1 sem_with_inner :=
  kn_def (k := 0) (N := ["policy", "parts"]) (ps := ["policy", "parts"]) (sb := sb_with_inner) D ⟨rfl, rfl, rfl, by decide +kernel, rfl, by decide +kernel, by decide +kernel⟩ (fun _ _ _ _ _ _ us hl => match us, hl with | [_, _], _ => rfl) (fun cdv f A outer s H E B =>
    (x_one (x_ret (s_add (s_sl (s_name (pv 0)) o_none (o_some (s_sub (k_len B (by rfl) m_len (a_cons (s_name (pv 0)) a_nil)) (k_len B (by rfl) m_len (a_cons (s_name (pv 1)) a_nil))))) (k_tuple (by rfl) m_tuple (a_cons (s_name (pv 1)) a_nil))))))
noncomputable def sb_Desk___eq__ : Sv := (sSeq (sIf (bNot (mTru (mIsK "Desk" (mN 1)))) (sRet (mK (.bool false))) sNil) (sRet (bV (mCmp gEq (mTup (aCons (mV (mFld "Desk" "shown_policy" (mN 0))) (aCons (mV (mFld "Desk" "marked_policy" (mN 0))) aNil))) (mTup (aCons (mV (mFld "Desk" "shown_policy" (mN 1))) (aCons (mV (mFld "Desk" "marked_policy" (mN 1))) aNil)))))))
noncomputable def sem_Desk___eq__ : Fs := bodyF 2 2 sb_Desk___eq__
theorem kn_Desk___eq__ (D : DfM K "Desk" "__eq__" "Desk.__eq__" st_Desk___eq__) (m_isinstance : mg "isinstance" = none) (cls_Desk : Cls K (He.ga K "Desk")) (g_Desk : mg "Desk" = some (.ref (He.ga K "Desk"))) (isS_Desk : PySem.W.kitAny K (.ref (He.ga K "Desk")) [.ref (He.ga K "Desk")] = some true) (isT_Desk : PySem.W.kitAny K (.type "tuple") [.ref (He.ga K "Desk")] = some false) (isic_Desk : IsiC K (He.ga K "Desk")) (noat_Desk_marked_policy : PySem.W.findIn K (.ref (He.ga K "Desk")) "marked_policy" = some none) (noat_Desk_shown_policy : PySem.W.findIn K (.ref (He.ga K "Desk")) "shown_policy" = some none) : KnM P w K mg base "Desk" "__eq__" 1 sem_Desk___eq__ :=
  kn_defM (k := 0) (N := ["self", "other"]) (ps := ["self", "other"]) (sb := sb_Desk___eq__) D ⟨rfl, rfl, rfl, by decide +kernel, rfl, by decide +kernel, by decide +kernel⟩ (fun _ _ _ _ _ _ us hl => match us, hl with | [_, _], _ => rfl) (fun cdv f A outer s H E B =>
    (x_cons (x_if (s_notT (s_test (s_isK B.hK (by rfl) m_isinstance (s_name (pv 1)) (by rfl) g_Desk isic_Desk isS_Desk isT_Desk) (fun _ => rfl))) (x_one (x_ret s_bool)) x_nil) (x_one (x_ret (v_eq B (s_tup (a_cons (s_fld B.hK cls_Desk noat_Desk_shown_policy (s_name (pv 0))) (a_cons (s_fld B.hK cls_Desk noat_Desk_marked_policy (s_name (pv 0))) a_nil))) (s_tup (a_cons (s_fld B.hK cls_Desk noat_Desk_shown_policy (s_name (pv 1))) (a_cons (s_fld B.hK cls_Desk noat_Desk_marked_policy (s_name (pv 1))) a_nil))))))))
noncomputable def sb_Desk_become : Sv := (sSeq (sExp (mAppO (mFld "Desk" "earlier_pairs" (mN 0)) (mTup (aCons (mV (mFld "Desk" "shown_policy" (mN 0))) (aCons (mV (mFld "Desk" "marked_policy" (mN 0))) aNil))))) (sSeq (sAsg (gFld "Desk" "shown_policy" (mN 0)) (mV (mN 1))) (sAsg (gFld "Desk" "marked_policy" (mN 0)) (mV (mN 2)))))
noncomputable def sem_Desk_become : Fs := bodyF 3 3 sb_Desk_become
theorem kn_Desk_become (D : DfM K "Desk" "become" "Desk.become" st_Desk_become) (cls_Desk : Cls K (He.ga K "Desk")) (noat_Desk_earlier_pairs : PySem.W.findIn K (.ref (He.ga K "Desk")) "earlier_pairs" = some none) (noat_Desk_marked_policy : PySem.W.findIn K (.ref (He.ga K "Desk")) "marked_policy" = some none) (noat_Desk_shown_policy : PySem.W.findIn K (.ref (He.ga K "Desk")) "shown_policy" = some none) : KnM P w K mg base "Desk" "become" 1 sem_Desk_become :=
  kn_defM (k := 0) (N := ["self", "policy", "marked_policy"]) (ps := ["self", "policy", "marked_policy"]) (sb := sb_Desk_become) D ⟨rfl, rfl, rfl, by decide +kernel, rfl, by decide +kernel, by decide +kernel⟩ (fun _ _ _ _ _ _ us hl => match us, hl with | [_, _, _], _ => rfl) (fun cdv f A outer s H E B =>
    (x_cons (x_expr (y_appO (s_fld B.hK cls_Desk noat_Desk_earlier_pairs (s_name (pv 0))) (s_tup (a_cons (s_fld B.hK cls_Desk noat_Desk_shown_policy (s_name (pv 0))) (a_cons (s_fld B.hK cls_Desk noat_Desk_marked_policy (s_name (pv 0))) a_nil))))) (x_cons (x_asg (pv_frz (s_name (pv 1))) (t_fld B.hK cls_Desk noat_Desk_shown_policy (s_name (pv 0)))) (x_one (x_asg (pv_frz (s_name (pv 2))) (t_fld B.hK cls_Desk noat_Desk_marked_policy (s_name (pv 0))))))))
noncomputable def sb_Desk_undo : Sv := (sSeq (sIf (mCmpW gEqLE (mFld "Desk" "earlier_pairs" (mN 0)) (mLst aNil)) (sRaise "NothingToUndo") sNil) (sAsg (gTp 2 (gCons9 (gFld "Desk" "shown_policy" (mN 0)) (gCons9 (gFld "Desk" "marked_policy" (mN 0)) gNil9))) (mV (mPopO (mFld "Desk" "earlier_pairs" (mN 0))))))
noncomputable def sem_Desk_undo : Fs := bodyF 1 1 sb_Desk_undo
theorem kn_Desk_undo (D : DfM K "Desk" "undo" "Desk.undo" st_Desk_undo) (cls_Desk : Cls K (He.ga K "Desk")) (exc_NothingToUndo : PySem.W.excIn K (He.ga K "NothingToUndo") He.veBase "ValueError.__new__" = true ∧ PySem.W.keepIn K (.ref (He.ga K "NothingToUndo")) = true ∧ PySem.W.subIn K (.ref (He.ga K "NothingToUndo")) (.type "BaseException") = some true ∧ PySem.W.typeIn K (.ref (He.ga K "NothingToUndo")) = some (.type "type")) (g_NothingToUndo : mg "NothingToUndo" = some (.ref (He.ga K "NothingToUndo"))) (noat_Desk_earlier_pairs : PySem.W.findIn K (.ref (He.ga K "Desk")) "earlier_pairs" = some none) (noat_Desk_marked_policy : PySem.W.findIn K (.ref (He.ga K "Desk")) "marked_policy" = some none) (noat_Desk_shown_policy : PySem.W.findIn K (.ref (He.ga K "Desk")) "shown_policy" = some none) : KnM P w K mg base "Desk" "undo" 1 sem_Desk_undo :=
  kn_defM (k := 0) (N := ["self"]) (ps := ["self"]) (sb := sb_Desk_undo) D ⟨rfl, rfl, rfl, by decide +kernel, rfl, by decide +kernel, by decide +kernel⟩ (fun _ _ _ _ _ _ us hl => match us, hl with | [_], _ => rfl) (fun cdv f A outer s H E B =>
    (x_cons (x_if (t_cmpW (op_eqLE (Nat.lt_of_le_of_lt (Nat.le_add_right _ 64) B.rm.hu)) gEqLE_ok (s_fld B.hK cls_Desk noat_Desk_earlier_pairs (s_name (pv 0))) (s_lst a_nil) rfl) (x_one (x_raise0 B g_NothingToUndo exc_NothingToUndo (by rfl))) x_nil) (x_one (x_asg (pv_frz (y_popO (s_fld B.hK cls_Desk noat_Desk_earlier_pairs (s_name (pv 0))))) (t_tup B.cm (t_cons (t_fld B.hK cls_Desk noat_Desk_shown_policy (s_name (pv 0))) (t_cons (t_fld B.hK cls_Desk noat_Desk_marked_policy (s_name (pv 0))) t_nil)))))))
noncomputable def sb_Desk_present : Sv := (sRet (mFld "Desk" "shown_policy" (mN 0)))
noncomputable def sem_Desk_present : Fs := bodyF 1 1 sb_Desk_present
theorem kn_Desk_present (D : DfM K "Desk" "present" "Desk.present" st_Desk_present) (cls_Desk : Cls K (He.ga K "Desk")) (noat_Desk_shown_policy : PySem.W.findIn K (.ref (He.ga K "Desk")) "shown_policy" = some none) : KnM P w K mg base "Desk" "present" 1 sem_Desk_present :=
  kn_defM (k := 0) (N := ["self"]) (ps := ["self"]) (sb := sb_Desk_present) D ⟨rfl, rfl, rfl, by decide +kernel, rfl, by decide +kernel, by decide +kernel⟩ (fun _ _ _ _ _ _ us hl => match us, hl with | [_], _ => rfl) (fun cdv f A outer s H E B =>
    (x_one (x_ret (s_fld B.hK cls_Desk noat_Desk_shown_policy (s_name (pv 0))))))
noncomputable def sb_Desk_marked : Sv := (sRet (mFld "Desk" "marked_policy" (mN 0)))
noncomputable def sem_Desk_marked : Fs := bodyF 1 1 sb_Desk_marked
theorem kn_Desk_marked (D : DfM K "Desk" "marked" "Desk.marked" st_Desk_marked) (cls_Desk : Cls K (He.ga K "Desk")) (noat_Desk_marked_policy : PySem.W.findIn K (.ref (He.ga K "Desk")) "marked_policy" = some none) : KnM P w K mg base "Desk" "marked" 1 sem_Desk_marked :=
  kn_defM (k := 0) (N := ["self"]) (ps := ["self"]) (sb := sb_Desk_marked) D ⟨rfl, rfl, rfl, by decide +kernel, rfl, by decide +kernel, by decide +kernel⟩ (fun _ _ _ _ _ _ us hl => match us, hl with | [_], _ => rfl) (fun cdv f A outer s H E B =>
    (x_one (x_ret (s_fld B.hK cls_Desk noat_Desk_marked_policy (s_name (pv 0))))))
noncomputable def sb_Desk_changes : Sv := (sRet (mCal (gLenO) (aCons (mV (mFld "Desk" "earlier_pairs" (mN 0))) aNil)))
noncomputable def sem_Desk_changes : Fs := bodyF 1 1 sb_Desk_changes
theorem kn_Desk_changes (D : DfM K "Desk" "changes" "Desk.changes" st_Desk_changes) (m_len : mg "len" = none) (cls_Desk : Cls K (He.ga K "Desk")) (noat_Desk_earlier_pairs : PySem.W.findIn K (.ref (He.ga K "Desk")) "earlier_pairs" = some none) : KnM P w K mg base "Desk" "changes" 1 sem_Desk_changes :=
  kn_defM (k := 0) (N := ["self"]) (ps := ["self"]) (sb := sb_Desk_changes) D ⟨rfl, rfl, rfl, by decide +kernel, rfl, by decide +kernel, by decide +kernel⟩ (fun _ _ _ _ _ _ us hl => match us, hl with | [_], _ => rfl) (fun cdv f A outer s H E B =>
    (x_one (x_ret (k_lenO B (by rfl) m_len (a_cons (s_fld B.hK cls_Desk noat_Desk_earlier_pairs (s_name (pv 0))) a_nil)))))
noncomputable def sb__law_urn : Sv := (sSeq (sAsg (gNm 2) (mV (mBin fAdd (mBin fMulA (mK (.int 13)) (mN 1)) (mK (.int 5))))) (sSeq (sIf (mCmp (gI fun i j => decide (i < j)) (mN 1) (mCal (gLen) (aCons (mV (mN 0)) aNil))) (sAsg (gNm 2) (mV (mSix (mN 0) (mN 1)))) sNil) (sSeq (sAsg (gNm 3) (mV (mBin fMulA (mBin (fI pPos fun i j => i % j) (mCal (g1 fAbs) (aCons (mV (mN 2)) aNil)) (mBin (fI pPow fun i j => i ^ j.toNat) (mBin (fI pPow fun i j => i ^ j.toNat) (mK (.int 10)) (mK (.int 60))) (mK (.int 5)))) (mCal (g1 fInt) (aCons (mV (bV (mCmp (gI fun i j => decide (j ≤ i)) (mCal (g1 fAbs) (aCons (mV (mN 2)) aNil)) (mBin (fI pPow fun i j => i ^ j.toNat) (mK (.int 10)) (mK (.int 18)))))) aNil))))) (sRet (mLst (aCons (mV (mN 3)) (aCons (mV (mBin (fI pPos fun i j => i % j) (mBin fAdd (mBin fAdd (mBin fMulA (mBin (fI pPos fun i j => i % j) (mN 2) (mK (.int 2305843009213693951))) (mK (.int 69859))) (mBin fMulA (mBin fMulA (mK (.int 5003)) (mN 1)) (mN 1))) (mK (.int 83))) (mK (.int 2305843009213693907)))) (aCons (mV (mK (.int 0))) aNil))))))))
noncomputable def sem__law_urn : Fs := bodyF 4 2 sb__law_urn
theorem kn__law_urn (D : Df K mg "_law_urn" st__law_urn) (m_abs : mg "abs" = none) (m_int : mg "int" = none) (m_len : mg "len" = none) : Kn P w K mg base "_law_urn" 1 sem__law_urn :=
  kn_def (k := 0) (N := ["_law_script", "_law_k", "_law_cell", "_law_own"]) (ps := ["_law_script", "_law_k"]) (sb := sb__law_urn) D ⟨rfl, rfl, rfl, by decide +kernel, rfl, by decide +kernel, by decide +kernel⟩ (fun _ _ _ _ _ _ us hl => match us, hl with | [_, _], _ => rfl) (fun cdv f A outer s H E B =>
    (x_cons (x_asg (pv_frz (s_add (s_mulA s_int (s_name (pv 1))) s_int)) (t_name (pg_name (i := 2) B.nd rfl (by first | exact .inl rfl | exact .inr rfl)))) (x_cons (x_if (t_lt (s_name (pv 1)) (k_len B (by rfl) m_len (a_cons (s_name (pv 0)) a_nil))) (x_one (x_asg (pv_frz (s_six B.hK (s_name (pv 0)) (s_name (pv 1)) (fun _ _ => rfl))) (t_name (pg_name (i := 2) B.nd rfl (by first | exact .inl rfl | exact .inr rfl))))) x_nil) (x_cons (x_asg (pv_frz (s_mulA (s_mod (k_abs (by rfl) m_abs (a_cons (s_name (pv 2)) a_nil)) (s_pow (s_pow s_int s_int) s_int)) (k_int (by rfl) m_int (a_cons (v_ge (k_abs (by rfl) m_abs (a_cons (s_name (pv 2)) a_nil)) (s_pow s_int s_int)) a_nil)))) (t_name (pg_name (i := 3) B.nd rfl (by first | exact .inl rfl | exact .inr rfl)))) (x_one (x_ret (s_lst (a_cons (s_name (pv 3)) (a_cons (s_mod (s_add (s_add (s_mulA (s_mod (s_name (pv 2)) s_int) s_int) (s_mulA (s_mulA s_int (s_name (pv 1))) (s_name (pv 1)))) s_int) s_int) (a_cons s_int a_nil))))))))))
noncomputable def sb__law_next : Sv := (sSeq (sIf (mCmp (gI fun i j => decide (j < i)) (mBin fIx (mN 0) (mK (.int 0))) (mK (.int 0))) (sSeq (sAsg (gNm 2) (mV (mBin (fI pPos fun i j => i % j) (mBin fIx (mN 0) (mK (.int 0))) (mN 1)))) (sSeq (sAsg (gPl (mN 0) (mK (.int 0))) (mV (mBin (fI pDiv fun i j => i / j) (mBin fIx (mN 0) (mK (.int 0))) (mN 1)))) (sRet (mN 2)))) sNil) (sSeq (sAsg (gPl (mN 0) (mK (.int 2))) (mV (mBin fAdd (mBin fIx (mN 0) (mK (.int 2))) (mK (.int 1))))) (sSeq (sAsg (gNm 3) (mV (mBin (fI pPos fun i j => i % j) (mBin fMulA (mBin fAdd (mBin fAdd (mBin fIx (mN 0) (mK (.int 1))) (mBin fMulA (mBin fMulA (mK (.int 30011)) (mBin fIx (mN 0) (mK (.int 2)))) (mBin fIx (mN 0) (mK (.int 2))))) (mK (.int 19))) (mK (.int 69877))) (mK (.int 2305843009213693921))))) (sSeq (sAsg (gNm 3) (mV (mBin (fI pPos fun i j => i % j) (mBin fMulA (mN 3) (mBin fAdd (mBin fAdd (mBin (fI pPos fun i j => i % j) (mN 3) (mK (.int 1000039))) (mBin fMulA (mK (.int 60013)) (mBin fIx (mN 0) (mK (.int 2))))) (mK (.int 5)))) (mK (.int 2305843009213693951))))) (sRet (mBin (fI pPos fun i j => i % j) (mBin fAdd (mBin (fI pDiv fun i j => i / j) (mN 3) (mK (.int 103))) (mBin (fI pDiv fun i j => i / j) (mN 3) (mK (.int 999979)))) (mN 1)))))))
noncomputable def sem__law_next : Fs := bodyF 4 2 sb__law_next
theorem kn__law_next (D : Df K mg "_law_next" st__law_next) : Kn P w K mg base "_law_next" 1 sem__law_next :=
  kn_def (k := 0) (N := ["_law_urn_here", "_law_below", "_law_digit", "_law_blend"]) (ps := ["_law_urn_here", "_law_below"]) (sb := sb__law_next) D ⟨rfl, rfl, rfl, by decide +kernel, rfl, by decide +kernel, by decide +kernel⟩ (fun _ _ _ _ _ _ us hl => match us, hl with | [_, _], _ => rfl) (fun cdv f A outer s H E B =>
    (x_cons (x_if (t_gt (s_ix (s_name (pv 0)) s_int (fun _ _ => rfl)) s_int) (x_cons (x_asg (pv_frz (s_mod (s_ix (s_name (pv 0)) s_int (fun _ _ => rfl)) (s_name (pv 1)))) (t_name (pg_name (i := 2) B.nd rfl (by first | exact .inl rfl | exact .inr rfl)))) (x_cons (x_asg (pv_frz (s_fdiv (s_ix (s_name (pv 0)) s_int (fun _ _ => rfl)) (s_name (pv 1)))) (t_pl (s_name (pv 0)) s_int)) (x_one (x_ret (s_name (pv 2)))))) x_nil) (x_cons (x_asg (pv_frz (s_add (s_ix (s_name (pv 0)) s_int (fun _ _ => rfl)) s_int)) (t_pl (s_name (pv 0)) s_int)) (x_cons (x_asg (pv_frz (s_mod (s_mulA (s_add (s_add (s_ix (s_name (pv 0)) s_int (fun _ _ => rfl)) (s_mulA (s_mulA s_int (s_ix (s_name (pv 0)) s_int (fun _ _ => rfl))) (s_ix (s_name (pv 0)) s_int (fun _ _ => rfl)))) s_int) s_int) s_int)) (t_name (pg_name (i := 3) B.nd rfl (by first | exact .inl rfl | exact .inr rfl)))) (x_cons (x_asg (pv_frz (s_mod (s_mulA (s_name (pv 3)) (s_add (s_add (s_mod (s_name (pv 3)) s_int) (s_mulA s_int (s_ix (s_name (pv 0)) s_int (fun _ _ => rfl)))) s_int)) s_int)) (t_name (pg_name (i := 3) B.nd rfl (by first | exact .inl rfl | exact .inr rfl)))) (x_one (x_ret (s_mod (s_add (s_fdiv (s_name (pv 3)) s_int) (s_fdiv (s_name (pv 3)) s_int)) (s_name (pv 1))))))))))
noncomputable def sb__law_label : Sv := (sSeq (sAsg (gPl (mN 0) (mK (.int 1))) (mV (mBin fAdd (mBin fIx (mN 0) (mK (.int 1))) (mK (.int 1))))) (sRet (mBin fAdd (mBin fAdd (mBin fIx (mN 0) (mK (.int 2))) (mBin fIx (mK (.str "abcdefghijklmnopqrstuvwxyz0123456789xyz0")) (mBin (fI (fun _ _ => true) fun i j => i - j) (mBin fIx (mN 0) (mK (.int 1))) (mK (.int 1))))) (mBin fMulA (mK (.str "q")) (mCal (g1 fInt) (aCons (mV (bV (mCmp (gI fun i j => decide (j < i)) (mBin fIx (mN 0) (mK (.int 1))) (mK (.int 36))))) aNil))))))
noncomputable def sem__law_label : Fs := bodyF 1 1 sb__law_label
theorem kn__law_label (D : Df K mg "_law_label" st__law_label) (m_int : mg "int" = none) : Kn P w K mg base "_law_label" 1 sem__law_label :=
  kn_def (k := 0) (N := ["_law_left"]) (ps := ["_law_left"]) (sb := sb__law_label) D ⟨rfl, rfl, rfl, by decide +kernel, rfl, by decide +kernel, by decide +kernel⟩ (fun _ _ _ _ _ _ us hl => match us, hl with | [_], _ => rfl) (fun cdv f A outer s H E B =>
    (x_cons (x_asg (pv_frz (s_add (s_ix (s_name (pv 0)) s_int (fun _ _ => rfl)) s_int)) (t_pl (s_name (pv 0)) s_int)) (x_one (x_ret (s_add (s_add (s_ix (s_name (pv 0)) s_int (fun _ _ => rfl)) (s_ix s_str (s_sub (s_ix (s_name (pv 0)) s_int (fun _ _ => rfl)) s_int) (fun _ _ => rfl))) (s_mulA s_str (k_int (by rfl) m_int (a_cons (v_gt (s_ix (s_name (pv 0)) s_int (fun _ _ => rfl)) s_int) a_nil))))))))
noncomputable def sb__law_inner : Sv := (sRet (mDGet2 (mDct [((mK (.str "call")), (mTup aNil)), ((mK (.str "wait")), (mTup aNil)), ((mK (.str "retry")), (mSl (mN 0) (oSome (mK (.int 2))) oNone)), ((mK (.str "timeout")), (mSl (mN 0) (oSome (mK (.int 2))) oNone))]) (mBin fIx (mN 0) (mK (.int 0))) (mSl (mN 0) (oSome (mNeg (mK (.int 2)))) oNone)))
noncomputable def sem__law_inner : Fs := bodyF 1 1 sb__law_inner
theorem kn__law_inner (D : Df K mg "_law_inner" st__law_inner) : Kn P w K mg base "_law_inner" 1 sem__law_inner :=
  kn_def (k := 0) (N := ["_law_policy_here"]) (ps := ["_law_policy_here"]) (sb := sb__law_inner) D ⟨rfl, rfl, rfl, by decide +kernel, rfl, by decide +kernel, by decide +kernel⟩ (fun _ _ _ _ _ _ us hl => match us, hl with | [_], _ => rfl) (fun cdv f A outer s H E B =>
    (x_one (x_ret (y_dget2 B.rm.hu (s_dct (pps_cons (pv_frz s_str) (pv_frz (s_tup a_nil)) (pps_cons (pv_frz s_str) (pv_frz (s_tup a_nil)) (pps_cons (pv_frz s_str) (pv_frz (s_sl (s_name (pv 0)) (o_some s_int) o_none)) (pps_cons (pv_frz s_str) (pv_frz (s_sl (s_name (pv 0)) (o_some s_int) o_none)) pps_nil)))) rfl rfl (by simp) (by decide)) (s_ix (s_name (pv 0)) s_int (fun _ _ => rfl)) (s_sl (s_name (pv 0)) (o_some (s_neg s_int)) o_none) ⟨by rfl, by rfl, by rfl, by rfl⟩))))
noncomputable def sb_is_span : Sv := (sSeq (sIf (bOr (bNot (mTru (mIsi "tuple" (mN 0)))) (bOr (mCmp gNe (mCal (gLen) (aCons (mV (mN 0)) aNil)) (mK (.int 2))) (bNot (mTru (mCal (g1 fAll) (aCons (mV (mLc (iOf (mN 0)) (gNm 1) ttY (mCall sem_is_number (aCons (mV (mN 1)) aNil)) [1])) aNil)))))) (sRet (mK (.bool false))) sNil) (sRet (bV (mCmp (gI fun i j => decide (i ≤ j)) (mBin fIx (mN 0) (mK (.int 0))) (mBin fIx (mN 0) (mK (.int 1)))))))
noncomputable def sem_is_span : Fs := bodyF 2 1 sb_is_span
theorem kn_is_span (D : Df K mg "is_span" st_is_span) (G_is_number : Kn P w K mg base "is_number" 1 sem_is_number) (m_all : mg "all" = none) (m_isinstance : mg "isinstance" = none) (m_len : mg "len" = none) (m_tuple : mg "tuple" = none) (c_SPAN_PARTS : ∃ t, mg "SPAN_PARTS" = some (.int 2 t)) : Kn P w K mg base "is_span" 2 sem_is_span :=
  kn_def (k := 1) (N := ["value", "end"]) (ps := ["value"]) (sb := sb_is_span) D ⟨rfl, rfl, rfl, by decide +kernel, rfl, by decide +kernel, by decide +kernel⟩ (fun _ _ _ _ _ _ us hl => match us, hl with | [_], _ => rfl) (fun cdv f A outer s H E B =>
    (x_cons (x_if (PW.pt (w_or (s_notT (s_test (s_isi (by rfl) m_isinstance (s_name (pv 0)) (by rfl) m_tuple (by decide +kernel)) (fun _ => rfl))) (w_or (t_ne B (k_len B (by rfl) m_len (a_cons (s_name (pv 0)) a_nil)) (s_gi (by rfl) c_SPAN_PARTS)) (w_or1 (s_notT (s_test (k_all B (by rfl) m_all (a_cons (s_lc (own := [("end", 1)]) B.cm B.nd (i_seq (s_name (pv 0))) (show BlkOk ["value", "end"] (defScope st_is_span) _ _ from ⟨rfl, by decide +kernel, by decide +kernel, by decide +kernel, by decide +kernel⟩) (fun s1 H1 A1 cl1 fp1 => (t_name (pg_name (i := 1) (B.blk s1 H1 _ _ fp1).nd rfl (by first | exact .inl rfl | exact .inr rfl)))) (fun s1 H1 A1 cl1 fp1 => pts_yes) (fun s1 H1 A1 cl1 fp1 => (s_call (B.blk s1 H1 _ _ fp1) G_is_number (by decide) (by rfl) (a_cons (s_name (pv 1)) a_nil))) (by decide)) a_nil)) (fun _ => rfl))))))) (x_one (x_ret s_bool)) x_nil) (x_one (x_ret (v_le (s_ix (s_name (pv 0)) s_int (fun _ _ => rfl)) (s_ix (s_name (pv 0)) s_int (fun _ _ => rfl)))))))
noncomputable def sb_has_number : Sv := (sSeq (sIf (mCmp gEq (mN 0) (mK (.str "wait"))) (sRet (mCall sem_is_number (aCons (mV (mN 1)) aNil))) sNil) (sSeq (sIf (mCmp gEq (mN 0) (mK (.str "retry"))) (sRet (eAnd (mIsi "tuple" (mN 1)) (eAnd (bV (mCmp (gI fun i j => decide (i ≤ j)) (mCal (gLen) (aCons (mV (mN 1)) aNil)) (mK (.int 5)))) (mCal (g1 fAll) (aCons (mV (mLc (iOf (mN 1)) (gNm 2) ttY (mCall sem_is_number (aCons (mV (mN 2)) aNil)) [2])) aNil))))) sNil) (sRet (eOr (bV (mCmp gIsN (mN 1) (mK .none))) (mCall sem_is_number (aCons (mV (mN 1)) aNil))))))
noncomputable def sem_has_number : Fs := bodyF 3 2 sb_has_number
theorem kn_has_number (D : Df K mg "has_number" st_has_number) (G_is_number : Kn P w K mg base "is_number" 1 sem_is_number) (m_all : mg "all" = none) (m_isinstance : mg "isinstance" = none) (m_len : mg "len" = none) (m_tuple : mg "tuple" = none) (c_MOST_PAUSES : ∃ t, mg "MOST_PAUSES" = some (.int 5 t)) (c_RETRY : ∃ t, mg "RETRY" = some (.str "retry" t)) (c_WAIT : ∃ t, mg "WAIT" = some (.str "wait" t)) : Kn P w K mg base "has_number" 2 sem_has_number :=
  kn_def (k := 1) (N := ["kind", "number", "one"]) (ps := ["kind", "number"]) (sb := sb_has_number) D ⟨rfl, rfl, rfl, by decide +kernel, rfl, by decide +kernel, by decide +kernel⟩ (fun _ _ _ _ _ _ us hl => match us, hl with | [_, _], _ => rfl) (fun cdv f A outer s H E B =>
    (x_cons (x_if (t_eq B (s_name (pv 0)) (s_gs (by rfl) c_WAIT)) (x_one (x_ret (s_call B G_is_number (by decide) (by rfl) (a_cons (s_name (pv 1)) a_nil)))) x_nil) (x_cons (x_if (t_eq B (s_name (pv 0)) (s_gs (by rfl) c_RETRY)) (x_one (x_ret (s_and (s_isi (by rfl) m_isinstance (s_name (pv 1)) (by rfl) m_tuple (by decide +kernel)) (s_and (v_le (k_len B (by rfl) m_len (a_cons (s_name (pv 1)) a_nil)) (s_gi (by rfl) c_MOST_PAUSES)) (s_one (k_all B (by rfl) m_all (a_cons (s_lc (own := [("one", 2)]) B.cm B.nd (i_seq (s_name (pv 1))) (show BlkOk ["kind", "number", "one"] (defScope st_has_number) _ _ from ⟨rfl, by decide +kernel, by decide +kernel, by decide +kernel, by decide +kernel⟩) (fun s1 H1 A1 cl1 fp1 => (t_name (pg_name (i := 2) (B.blk s1 H1 _ _ fp1).nd rfl (by first | exact .inl rfl | exact .inr rfl)))) (fun s1 H1 A1 cl1 fp1 => pts_yes) (fun s1 H1 A1 cl1 fp1 => (s_call (B.blk s1 H1 _ _ fp1) G_is_number (by decide) (by rfl) (a_cons (s_name (pv 2)) a_nil))) (by decide)) a_nil))))))) x_nil) (x_one (x_ret (s_or (v_isN (s_name (pv 1)) s_none) (s_one (s_call B G_is_number (by decide) (by rfl) (a_cons (s_name (pv 1)) a_nil)))))))))
noncomputable def sb_check_part : Sv := (sSeq (sIf (bNot (mTru (mIsi "tuple" (mN 1)))) (sRaise1 "NoPart" "value" (aCons (mV (mN 1)) aNil)) sNil) (sSeq (sAsg (gNm 2) (mV (mN 0))) (sFor (iOf (mN 1)) (gNm 3) (sSeq (sAsg (gNm 4) (mV (mCall sem_inner (aCons (mV (mN 2)) aNil)))) (sSeq (sIf (bNot (mTru (mCall sem_is_index (aCons (mV (mN 3)) (aCons (mV (mCal (gLen) (aCons (mV (mN 4)) aNil))) aNil))))) (sRaise1 "NoPart" "value" (aCons (mV (mN 1)) aNil)) sNil) (sAsg (gNm 2) (mV (mBin fIx (mN 4) (mN 3)))))))))
noncomputable def sem_check_part : Fs := bodyF 5 2 sb_check_part
theorem kn_check_part (D : Df K mg "check_part" st_check_part) (G_inner : Kn P w K mg base "inner" 1 sem_inner) (G_is_index : Kn P w K mg base "is_index" 1 sem_is_index) (m_isinstance : mg "isinstance" = none) (m_len : mg "len" = none) (m_tuple : mg "tuple" = none) (g_NoPart : mg "NoPart" = some (.ref (He.ga K "NoPart"))) (txt_NoPart : Cfvalue.Txt K (He.ga K "NoPart") (He.ma K (He.ga K "NoPart") "__init__") "NoPart.__init__") : Kn P w K mg base "check_part" 2 sem_check_part :=
  kn_def (k := 1) (N := ["policy", "path", "part", "at", "lower"]) (ps := ["policy", "path"]) (sb := sb_check_part) D ⟨rfl, rfl, rfl, by decide +kernel, rfl, by decide +kernel, by decide +kernel⟩ (fun _ _ _ _ _ _ us hl => match us, hl with | [_, _], _ => rfl) (fun cdv f A outer s H E B =>
    (x_cons (x_if (s_notT (s_test (s_isi (by rfl) m_isinstance (s_name (pv 1)) (by rfl) m_tuple (by decide +kernel)) (fun _ => rfl))) (x_one (x_raise_value B txt_NoPart g_NoPart (by rfl) (a_cons (s_name (pv 1)) a_nil))) x_nil) (x_cons (x_asg (pv_frz (s_name (pv 0))) (t_name (pg_name (i := 2) B.nd rfl (by first | exact .inl rfl | exact .inr rfl)))) (x_one (x_for B.hp B.cm (i_seq (s_name (pv 1))) (t_name (pg_name (i := 3) B.nd rfl (by first | exact .inl rfl | exact .inr rfl))) (x_cons (x_asg (pv_frz (s_call B G_inner (by decide) (by rfl) (a_cons (s_name (pv 2)) a_nil))) (t_name (pg_name (i := 4) B.nd rfl (by first | exact .inl rfl | exact .inr rfl)))) (x_cons (x_if (s_notT (s_test (s_call B G_is_index (by decide) (by rfl) (a_cons (s_name (pv 3)) (a_cons (k_len B (by rfl) m_len (a_cons (s_name (pv 4)) a_nil)) a_nil))) (fun _ => rfl))) (x_one (x_raise_value B txt_NoPart g_NoPart (by rfl) (a_cons (s_name (pv 1)) a_nil))) x_nil) (x_one (x_asg (pv_frz (s_ix (s_name (pv 4)) (s_name (pv 3)) (fun _ _ => rfl))) (t_name (pg_name (i := 2) B.nd rfl (by first | exact .inl rfl | exact .inr rfl))))))))))))
noncomputable def sb_Desk_mark : Sv := (sExp (mMeth "Desk" "become" sem_Desk_become (mN 0) (aCons (mV (mFld "Desk" "shown_policy" (mN 0))) (aCons (mV (mFld "Desk" "shown_policy" (mN 0))) aNil))))
noncomputable def sem_Desk_mark : Fs := bodyF 1 1 sb_Desk_mark
theorem kn_Desk_mark (D : DfM K "Desk" "mark" "Desk.mark" st_Desk_mark) (G_Desk_become : KnM P w K mg base "Desk" "become" 1 sem_Desk_become) (cls_Desk : Cls K (He.ga K "Desk")) (noat_Desk_shown_policy : PySem.W.findIn K (.ref (He.ga K "Desk")) "shown_policy" = some none) : KnM P w K mg base "Desk" "mark" 2 sem_Desk_mark :=
  kn_defM (k := 1) (N := ["self"]) (ps := ["self"]) (sb := sb_Desk_mark) D ⟨rfl, rfl, rfl, by decide +kernel, rfl, by decide +kernel, by decide +kernel⟩ (fun _ _ _ _ _ _ us hl => match us, hl with | [_], _ => rfl) (fun cdv f A outer s H E B =>
    (x_one (x_expr (s_meth B G_Desk_become (by decide) (s_name (pv 0)) (a_cons (s_fld B.hK cls_Desk noat_Desk_shown_policy (s_name (pv 0))) (a_cons (s_fld B.hK cls_Desk noat_Desk_shown_policy (s_name (pv 0))) a_nil))))))
noncomputable def sb__law_of : Sv := (sRet (mBin fIx (mN 1) (mCall sem__law_next (aCons (mVc (mN 0)) (aCons (mV (mCal (gLen) (aCons (mV (mN 1)) aNil))) aNil)))))
noncomputable def sem__law_of : Fs := bodyF 2 2 sb__law_of
theorem kn__law_of (D : Df K mg "_law_of" st__law_of) (G__law_next : Kn P w K mg base "_law_next" 1 sem__law_next) (m_len : mg "len" = none) : Kn P w K mg base "_law_of" 2 sem__law_of :=
  kn_def (k := 1) (N := ["_law_urn_here", "_law_some"]) (ps := ["_law_urn_here", "_law_some"]) (sb := sb__law_of) D ⟨rfl, rfl, rfl, by decide +kernel, rfl, by decide +kernel, by decide +kernel⟩ (fun _ _ _ _ _ _ us hl => match us, hl with | [_, _], _ => rfl) (fun cdv f A outer s H E B =>
    (x_one (x_ret (s_ix (s_name (pv 1)) (s_call B G__law_next (by decide) (by rfl) (a_consC (s_name (pv 0)) (a_cons (k_len B (by rfl) m_len (a_cons (s_name (pv 1)) a_nil)) a_nil))) (fun _ _ => rfl)))))
noncomputable def sb__law_span : Sv := (sSeq (sAsg (gNm 2) (mV (mCall sem__law_next (aCons (mVc (mN 0)) (aCons (mV (mBin fAdd (mN 1) (mK (.int 1)))) aNil))))) (sRet (mTup (aCons (mV (mN 2)) (aCons (mV (mBin fAdd (mN 2) (mCall sem__law_next (aCons (mVc (mN 0)) (aCons (mV (mCal (gII (fun i j => if j < i then j else i)) (aCons (mV (mK (.int 4))) (aCons (mV (mBin fAdd (mBin (fI (fun _ _ => true) fun i j => i - j) (mN 1) (mN 2)) (mK (.int 1)))) aNil)))) aNil))))) aNil)))))
noncomputable def sem__law_span : Fs := bodyF 3 2 sb__law_span
theorem kn__law_span (D : Df K mg "_law_span" st__law_span) (G__law_next : Kn P w K mg base "_law_next" 1 sem__law_next) (m_min : mg "min" = none) : Kn P w K mg base "_law_span" 2 sem__law_span :=
  kn_def (k := 1) (N := ["_law_urn_here", "_law_longest", "_law_low"]) (ps := ["_law_urn_here", "_law_longest"]) (sb := sb__law_span) D ⟨rfl, rfl, rfl, by decide +kernel, rfl, by decide +kernel, by decide +kernel⟩ (fun _ _ _ _ _ _ us hl => match us, hl with | [_, _], _ => rfl) (fun cdv f A outer s H E B =>
    (x_cons (x_asg (pv_frz (s_call B G__law_next (by decide) (by rfl) (a_consC (s_name (pv 0)) (a_cons (s_add (s_name (pv 1)) s_int) a_nil)))) (t_name (pg_name (i := 2) B.nd rfl (by first | exact .inl rfl | exact .inr rfl)))) (x_one (x_ret (s_tup (a_cons (s_name (pv 2)) (a_cons (s_add (s_name (pv 2)) (s_call B G__law_next (by decide) (by rfl) (a_consC (s_name (pv 0)) (a_cons (k_min B (by rfl) m_min (a_cons s_int (a_cons (s_add (s_sub (s_name (pv 1)) (s_name (pv 2))) s_int) a_nil))) a_nil)))) a_nil)))))))
noncomputable def sb__law_part : Sv := (sSeq (sFor (iOf (mN 1)) (gNm 2) (sAsg (gNm 0) (mV (mBin fIx (mCall sem__law_inner (aCons (mV (mN 0)) aNil)) (mN 2))))) (sRet (mN 0)))
noncomputable def sem__law_part : Fs := bodyF 3 2 sb__law_part
theorem kn__law_part (D : Df K mg "_law_part" st__law_part) (G__law_inner : Kn P w K mg base "_law_inner" 1 sem__law_inner) : Kn P w K mg base "_law_part" 2 sem__law_part :=
  kn_def (k := 1) (N := ["_law_policy_here", "_law_path", "_law_at"]) (ps := ["_law_policy_here", "_law_path"]) (sb := sb__law_part) D ⟨rfl, rfl, rfl, by decide +kernel, rfl, by decide +kernel, by decide +kernel⟩ (fun _ _ _ _ _ _ us hl => match us, hl with | [_, _], _ => rfl) (fun cdv f A outer s H E B =>
    (x_cons (x_for B.hp B.cm (i_seq (s_name (pv 1))) (t_name (pg_name (i := 2) B.nd rfl (by first | exact .inl rfl | exact .inr rfl))) (x_one (x_asg (pv_frz (s_ix (s_call B G__law_inner (by decide) (by rfl) (a_cons (s_name (pv 0)) a_nil)) (s_name (pv 2)) (fun _ _ => rfl))) (t_name (pg_name (i := 0) B.nd rfl (by first | exact .inl rfl | exact .inr rfl)))))) (x_one (x_ret (s_name (pv 0))))))
noncomputable def sb__law_state : Sv := (sRet (mTup (aCons (mV (mMeth "Desk" "present" sem_Desk_present (mN 0) aNil)) (aCons (mV (mMeth "Desk" "marked" sem_Desk_marked (mN 0) aNil)) aNil))))
noncomputable def sem__law_state : Fs := bodyF 1 1 sb__law_state
theorem kn__law_state (D : Df K mg "_law_state" st__law_state) (G_Desk_marked : KnM P w K mg base "Desk" "marked" 1 sem_Desk_marked) (G_Desk_present : KnM P w K mg base "Desk" "present" 1 sem_Desk_present) : Kn P w K mg base "_law_state" 2 sem__law_state :=
  kn_def (k := 1) (N := ["_law_desk"]) (ps := ["_law_desk"]) (sb := sb__law_state) D ⟨rfl, rfl, rfl, by decide +kernel, rfl, by decide +kernel, by decide +kernel⟩ (fun _ _ _ _ _ _ us hl => match us, hl with | [_], _ => rfl) (fun cdv f A outer s H E B =>
    (x_one (x_ret (s_tup (a_cons (s_meth0 B G_Desk_present (by decide) (s_name (pv 0))) (a_cons (s_meth0 B G_Desk_marked (by decide) (s_name (pv 0))) a_nil))))))
noncomputable def sb_put_at (sem : Fs) : Sv := (sSeq (sIf (mCmp gEq (mN 1) (mTup aNil)) (sRet (mN 2)) sNil) (sSeq (sAsg (gNm 3) (mVc (mCal (g1 fList) (aCons (mV (mCall sem_inner (aCons (mV (mN 0)) aNil))) aNil)))) (sSeq (sAsg (gPl (mN 3) (mBin fIx (mN 1) (mK (.int 0)))) (mV (mCall sem (aCons (mV (mBin fIx (mN 3) (mBin fIx (mN 1) (mK (.int 0))))) (aCons (mV (mSl (mN 1) (oSome (mK (.int 1))) oNone)) (aCons (mV (mN 2)) aNil)))))) (sRet (mCall sem_with_inner (aCons (mV (mN 0)) (aCons (mV (mN 3)) aNil)))))))
noncomputable def sem_put_at : Nat → Fs
  | 0 => fun _ _ => .no
  | n + 1 => bodyF 4 3 (sb_put_at (sem_put_at n))
theorem kn_put_at_all (D : Df K mg "put_at" st_put_at) (G_inner : Kn P w K mg base "inner" 1 sem_inner) (G_with_inner : Kn P w K mg base "with_inner" 1 sem_with_inner) (m_list : mg "list" = none) : ∀ n, Kn P w K mg base "put_at" (2 + 1 * n) (sem_put_at n)
  | 0 => Kn.less (kn_def (k := 1) (N := ["policy", "path", "part", "parts"]) (ps := ["policy", "path", "part"]) (sb := fun _ _ => .no) D ⟨rfl, rfl, rfl, by decide +kernel, rfl, by decide +kernel, by decide +kernel⟩ (fun _ _ _ _ _ _ us hl => match us, hl with | [_, _, _], _ => rfl) (fun cdv f A outer s H E B =>
    x_no)) (fun _ _ => .inl rfl)
  | n + 1 => by
    have G_put_at := kn_put_at_all D G_inner G_with_inner m_list n
    exact kn_def (k := 2 + 1 * n + 0) (N := ["policy", "path", "part", "parts"]) (ps := ["policy", "path", "part"]) (sb := sb_put_at (sem_put_at n)) D ⟨rfl, rfl, rfl, by decide +kernel, rfl, by decide +kernel, by decide +kernel⟩ (fun _ _ _ _ _ _ us hl => match us, hl with | [_, _, _], _ => rfl) (fun cdv f A outer s H E B =>
    (x_cons (x_if (t_eq B (s_name (pv 1)) (s_tup a_nil)) (x_one (x_ret (s_name (pv 2)))) x_nil) (x_cons (x_asg (pv_cell (k_list (by rfl) m_list (a_cons (s_call B G_inner (by omega) (by rfl) (a_cons (s_name (pv 0)) a_nil)) a_nil))) (t_name (pg_name (i := 3) B.nd rfl (by first | exact .inl rfl | exact .inr rfl)))) (x_cons (x_asg (pv_frz (s_call B G_put_at (by omega) (by rfl) (a_cons (s_ix (s_name (pv 3)) (s_ix (s_name (pv 1)) s_int (fun _ _ => rfl)) (fun _ _ => rfl)) (a_cons (s_sl (s_name (pv 1)) (o_some s_int) o_none) (a_cons (s_name (pv 2)) a_nil))))) (t_pl (s_name (pv 3)) (s_ix (s_name (pv 1)) s_int (fun _ _ => rfl)))) (x_one (x_ret (s_call B G_with_inner (by omega) (by rfl) (a_cons (s_name (pv 0)) (a_cons (s_name (pv 3)) a_nil)))))))))
theorem kn_put_at (D : Df K mg "put_at" st_put_at) (G_inner : Kn P w K mg base "inner" 1 sem_inner) (G_with_inner : Kn P w K mg base "with_inner" 1 sem_with_inner) (m_list : mg "list" = none) : Kn P w K mg base "put_at" 27 (sem_put_at 25) := kn_put_at_all D G_inner G_with_inner m_list 25
noncomputable def sb__law_all_paths (sem : Fs) : Sv := (sSeq (sAsg (gNm 1) (mVc (mLst (aCons (mV (mTup aNil)) aNil)))) (sSeq (sFor (iEn (aCons (mV (mCall sem__law_inner (aCons (mV (mN 0)) aNil))) aNil)) (gTp 2 (gCons9 (gNm 2) (gCons9 (gNm 3) gNil9))) (sExp (mExt (mN 1) (mLc (iOf (mCall sem (aCons (mV (mN 3)) aNil))) (gNm 4) ttY (mBin fAdd (mTup (aCons (mV (mN 2)) aNil)) (mN 4)) [4])))) (sRet (mN 1))))
noncomputable def sem__law_all_paths : Nat → Fs
  | 0 => fun _ _ => .no
  | n + 1 => bodyF 5 1 (sb__law_all_paths (sem__law_all_paths n))
theorem kn__law_all_paths_all (D : Df K mg "_law_all_paths" st__law_all_paths) (G__law_inner : Kn P w K mg base "_law_inner" 1 sem__law_inner) (m_enumerate : mg "enumerate" = none) : ∀ n, Kn P w K mg base "_law_all_paths" (2 + 1 * n) (sem__law_all_paths n)
  | 0 => Kn.less (kn_def (k := 1) (N := ["_law_policy_here", "_law_found", "_law_at", "_law_part_here", "_law_path"]) (ps := ["_law_policy_here"]) (sb := fun _ _ => .no) D ⟨rfl, rfl, rfl, by decide +kernel, rfl, by decide +kernel, by decide +kernel⟩ (fun _ _ _ _ _ _ us hl => match us, hl with | [_], _ => rfl) (fun cdv f A outer s H E B =>
    x_no)) (fun _ _ => .inl rfl)
  | n + 1 => by
    have G__law_all_paths := kn__law_all_paths_all D G__law_inner m_enumerate n
    exact kn_def (k := 2 + 1 * n + 0) (N := ["_law_policy_here", "_law_found", "_law_at", "_law_part_here", "_law_path"]) (ps := ["_law_policy_here"]) (sb := sb__law_all_paths (sem__law_all_paths n)) D ⟨rfl, rfl, rfl, by decide +kernel, rfl, by decide +kernel, by decide +kernel⟩ (fun _ _ _ _ _ _ us hl => match us, hl with | [_], _ => rfl) (fun cdv f A outer s H E B =>
    (x_cons (x_asg (pv_cell (s_lst (a_cons (s_tup a_nil) a_nil))) (t_name (pg_name (i := 1) B.nd rfl (by first | exact .inl rfl | exact .inr rfl)))) (x_cons (x_for B.hp B.cm (i_enum (by rfl) m_enumerate (a_cons (s_call B G__law_inner (by omega) (by rfl) (a_cons (s_name (pv 0)) a_nil)) a_nil)) (t_tup B.cm (t_cons (t_name (pg_name (i := 2) B.nd rfl (by first | exact .inl rfl | exact .inr rfl))) (t_cons (t_name (pg_name (i := 3) B.nd rfl (by first | exact .inl rfl | exact .inr rfl))) t_nil))) (x_one (x_expr (y_ext (s_name (pv 1)) (s_lc (own := [("_law_path", 4)]) B.cm B.nd (i_seq (s_call B G__law_all_paths (by omega) (by rfl) (a_cons (s_name (pv 3)) a_nil))) (show BlkOk ["_law_policy_here", "_law_found", "_law_at", "_law_part_here", "_law_path"] (defScope st__law_all_paths) _ _ from ⟨rfl, by decide +kernel, by decide +kernel, by decide +kernel, by decide +kernel⟩) (fun s1 H1 A1 cl1 fp1 => (t_name (pg_name (i := 4) (B.blk s1 H1 _ _ fp1).nd rfl (by first | exact .inl rfl | exact .inr rfl)))) (fun s1 H1 A1 cl1 fp1 => pts_yes) (fun s1 H1 A1 cl1 fp1 => (s_add (s_tup (a_cons (s_name (pv 2)) a_nil)) (s_name (pv 4)))) (by decide)))))) (x_one (x_ret (s_name (pv 1)))))))
theorem kn__law_all_paths (D : Df K mg "_law_all_paths" st__law_all_paths) (G__law_inner : Kn P w K mg base "_law_inner" 1 sem__law_inner) (m_enumerate : mg "enumerate" = none) : Kn P w K mg base "_law_all_paths" 27 (sem__law_all_paths 25) := kn__law_all_paths_all D G__law_inner m_enumerate 25
noncomputable def sb__law_put (sem : Fs) : Sv := (sSeq (sIf (mCmp gEq (mN 1) (mTup aNil)) (sRet (mN 2)) sNil) (sSeq (sAsg (gNm 3) (mVc (mCal (g1 fList) (aCons (mV (mCall sem__law_inner (aCons (mV (mN 0)) aNil))) aNil)))) (sSeq (sAsg (gPl (mN 3) (mBin fIx (mN 1) (mK (.int 0)))) (mV (mCall sem (aCons (mV (mBin fIx (mN 3) (mBin fIx (mN 1) (mK (.int 0))))) (aCons (mV (mSl (mN 1) (oSome (mK (.int 1))) oNone)) (aCons (mV (mN 2)) aNil)))))) (sRet (mBin fAdd (mSl (mN 0) oNone (oSome (mBin (fI (fun _ _ => true) fun i j => i - j) (mCal (gLen) (aCons (mV (mN 0)) aNil)) (mCal (gLen) (aCons (mV (mN 3)) aNil))))) (mCal (g1 fTuple) (aCons (mV (mN 3)) aNil)))))))
noncomputable def sem__law_put : Nat → Fs
  | 0 => fun _ _ => .no
  | n + 1 => bodyF 4 3 (sb__law_put (sem__law_put n))
theorem kn__law_put_all (D : Df K mg "_law_put" st__law_put) (G__law_inner : Kn P w K mg base "_law_inner" 1 sem__law_inner) (m_len : mg "len" = none) (m_list : mg "list" = none) (m_tuple : mg "tuple" = none) : ∀ n, Kn P w K mg base "_law_put" (2 + 1 * n) (sem__law_put n)
  | 0 => Kn.less (kn_def (k := 1) (N := ["_law_policy_here", "_law_path", "_law_part_here", "_law_level"]) (ps := ["_law_policy_here", "_law_path", "_law_part_here"]) (sb := fun _ _ => .no) D ⟨rfl, rfl, rfl, by decide +kernel, rfl, by decide +kernel, by decide +kernel⟩ (fun _ _ _ _ _ _ us hl => match us, hl with | [_, _, _], _ => rfl) (fun cdv f A outer s H E B =>
    x_no)) (fun _ _ => .inl rfl)
  | n + 1 => by
    have G__law_put := kn__law_put_all D G__law_inner m_len m_list m_tuple n
    exact kn_def (k := 2 + 1 * n + 0) (N := ["_law_policy_here", "_law_path", "_law_part_here", "_law_level"]) (ps := ["_law_policy_here", "_law_path", "_law_part_here"]) (sb := sb__law_put (sem__law_put n)) D ⟨rfl, rfl, rfl, by decide +kernel, rfl, by decide +kernel, by decide +kernel⟩ (fun _ _ _ _ _ _ us hl => match us, hl with | [_, _, _], _ => rfl) (fun cdv f A outer s H E B =>
    (x_cons (x_if (t_eq B (s_name (pv 1)) (s_tup a_nil)) (x_one (x_ret (s_name (pv 2)))) x_nil) (x_cons (x_asg (pv_cell (k_list (by rfl) m_list (a_cons (s_call B G__law_inner (by omega) (by rfl) (a_cons (s_name (pv 0)) a_nil)) a_nil))) (t_name (pg_name (i := 3) B.nd rfl (by first | exact .inl rfl | exact .inr rfl)))) (x_cons (x_asg (pv_frz (s_call B G__law_put (by omega) (by rfl) (a_cons (s_ix (s_name (pv 3)) (s_ix (s_name (pv 1)) s_int (fun _ _ => rfl)) (fun _ _ => rfl)) (a_cons (s_sl (s_name (pv 1)) (o_some s_int) o_none) (a_cons (s_name (pv 2)) a_nil))))) (t_pl (s_name (pv 3)) (s_ix (s_name (pv 1)) s_int (fun _ _ => rfl)))) (x_one (x_ret (s_add (s_sl (s_name (pv 0)) o_none (o_some (s_sub (k_len B (by rfl) m_len (a_cons (s_name (pv 0)) a_nil)) (k_len B (by rfl) m_len (a_cons (s_name (pv 3)) a_nil))))) (k_tuple (by rfl) m_tuple (a_cons (s_name (pv 3)) a_nil)))))))))
theorem kn__law_put (D : Df K mg "_law_put" st__law_put) (G__law_inner : Kn P w K mg base "_law_inner" 1 sem__law_inner) (m_len : mg "len" = none) (m_list : mg "list" = none) (m_tuple : mg "tuple" = none) : Kn P w K mg base "_law_put" 27 (sem__law_put 25) := kn__law_put_all D G__law_inner m_len m_list m_tuple 25
noncomputable def sb_is_call : Sv := (sSeq (sAsg (gTp 5 (gCons9 (gNm 1) (gCons9 (gNm 2) (gCons9 (gNm 3) (gCons9 (gNm 4) (gCons9 (gNm 5) gNil9)))))) (mV (mN 0))) (sSeq (sIf (bOr (bNot (mTru (mCall sem_is_label (aCons (mV (mN 2)) aNil)))) (bNot (mTru (mIsi "bool" (mN 5))))) (sRet (mK (.bool false))) sNil) (sSeq (sIf (bNot (mTru (mCal (g1 fAll) (aCons (mV (mLc (iOf (mTup (aCons (mV (mN 3)) (aCons (mV (mN 4)) aNil)))) (gNm 6) ttY (eOr (bV (mCmp gIsN (mN 6) (mK .none))) (mCall sem_is_span (aCons (mV (mN 6)) aNil))) [6])) aNil)))) (sRet (mK (.bool false))) sNil) (sRet (eOr (mN 5) (eOr (bV (mCmp gNotN (mN 3) (mK .none))) (bV (mCmp gNotN (mN 4) (mK .none)))))))))
noncomputable def sem_is_call : Fs := bodyF 7 1 sb_is_call
theorem kn_is_call (D : Df K mg "is_call" st_is_call) (G_is_label : Kn P w K mg base "is_label" 1 sem_is_label) (G_is_span : Kn P w K mg base "is_span" 2 sem_is_span) (m_all : mg "all" = none) (m_bool : mg "bool" = none) (m_isinstance : mg "isinstance" = none) : Kn P w K mg base "is_call" 3 sem_is_call :=
  kn_def (k := 2) (N := ["value", "kind", "label", "good", "bad", "hangs", "span"]) (ps := ["value"]) (sb := sb_is_call) D ⟨rfl, rfl, rfl, by decide +kernel, rfl, by decide +kernel, by decide +kernel⟩ (fun _ _ _ _ _ _ us hl => match us, hl with | [_], _ => rfl) (fun cdv f A outer s H E B =>
    (x_cons (x_asg (pv_frz (s_name (pv 0))) (t_tup B.cm (t_cons (t_name (pg_name (i := 1) B.nd rfl (by first | exact .inl rfl | exact .inr rfl))) (t_cons (t_name (pg_name (i := 2) B.nd rfl (by first | exact .inl rfl | exact .inr rfl))) (t_cons (t_name (pg_name (i := 3) B.nd rfl (by first | exact .inl rfl | exact .inr rfl))) (t_cons (t_name (pg_name (i := 4) B.nd rfl (by first | exact .inl rfl | exact .inr rfl))) (t_cons (t_name (pg_name (i := 5) B.nd rfl (by first | exact .inl rfl | exact .inr rfl))) t_nil))))))) (x_cons (x_if (PW.pt (w_or (s_notT (s_test (s_call B G_is_label (by decide) (by rfl) (a_cons (s_name (pv 2)) a_nil)) (fun _ => rfl))) (w_or1 (s_notT (s_test (s_isi (by rfl) m_isinstance (s_name (pv 5)) (by rfl) m_bool (by decide +kernel)) (fun _ => rfl)))))) (x_one (x_ret s_bool)) x_nil) (x_cons (x_if (s_notT (s_test (k_all B (by rfl) m_all (a_cons (s_lc (own := [("span", 6)]) B.cm B.nd (i_seq (s_tup (a_cons (s_name (pv 3)) (a_cons (s_name (pv 4)) a_nil)))) (show BlkOk ["value", "kind", "label", "good", "bad", "hangs", "span"] (defScope st_is_call) _ _ from ⟨rfl, by decide +kernel, by decide +kernel, by decide +kernel, by decide +kernel⟩) (fun s1 H1 A1 cl1 fp1 => (t_name (pg_name (i := 6) (B.blk s1 H1 _ _ fp1).nd rfl (by first | exact .inl rfl | exact .inr rfl)))) (fun s1 H1 A1 cl1 fp1 => pts_yes) (fun s1 H1 A1 cl1 fp1 => (s_or (v_isN (s_name (pv 6)) s_none) (s_one (s_call (B.blk s1 H1 _ _ fp1) G_is_span (by decide) (by rfl) (a_cons (s_name (pv 6)) a_nil))))) (by decide)) a_nil)) (fun _ => rfl))) (x_one (x_ret s_bool)) x_nil) (x_one (x_ret (s_or (s_name (pv 5)) (s_or (v_notN (s_name (pv 3)) s_none) (s_one (v_notN (s_name (pv 4)) s_none))))))))))
noncomputable def sb_part_at : Sv := (sSeq (sExp (mCall sem_check_part (aCons (mV (mN 0)) (aCons (mV (mN 1)) aNil)))) (sSeq (sAsg (gNm 2) (mV (mN 0))) (sSeq (sFor (iOf (mN 1)) (gNm 3) (sAsg (gNm 2) (mV (mBin fIx (mCall sem_inner (aCons (mV (mN 2)) aNil)) (mN 3))))) (sRet (mN 2)))))
noncomputable def sem_part_at : Fs := bodyF 4 2 sb_part_at
theorem kn_part_at (D : Df K mg "part_at" st_part_at) (G_check_part : Kn P w K mg base "check_part" 2 sem_check_part) (G_inner : Kn P w K mg base "inner" 1 sem_inner) : Kn P w K mg base "part_at" 3 sem_part_at :=
  kn_def (k := 2) (N := ["policy", "path", "part", "at"]) (ps := ["policy", "path"]) (sb := sb_part_at) D ⟨rfl, rfl, rfl, by decide +kernel, rfl, by decide +kernel, by decide +kernel⟩ (fun _ _ _ _ _ _ us hl => match us, hl with | [_, _], _ => rfl) (fun cdv f A outer s H E B =>
    (x_cons (x_expr (s_call B G_check_part (by decide) (by rfl) (a_cons (s_name (pv 0)) (a_cons (s_name (pv 1)) a_nil)))) (x_cons (x_asg (pv_frz (s_name (pv 0))) (t_name (pg_name (i := 2) B.nd rfl (by first | exact .inl rfl | exact .inr rfl)))) (x_cons (x_for B.hp B.cm (i_seq (s_name (pv 1))) (t_name (pg_name (i := 3) B.nd rfl (by first | exact .inl rfl | exact .inr rfl))) (x_one (x_asg (pv_frz (s_ix (s_call B G_inner (by decide) (by rfl) (a_cons (s_name (pv 2)) a_nil)) (s_name (pv 3)) (fun _ _ => rfl))) (t_name (pg_name (i := 2) B.nd rfl (by first | exact .inl rfl | exact .inr rfl)))))) (x_one (x_ret (s_name (pv 2))))))))
noncomputable def sb__law_call : Sv := (sSeq (sPar [3, 4] (aCons (mV (mCall sem__law_next (aCons (mVc (mN 0)) (aCons (mV (mK (.int 5))) aNil)))) (aCons (mV (bV (mCmp gEq (mCall sem__law_next (aCons (mVc (mN 0)) (aCons (mV (mK (.int 4))) aNil))) (mK (.int 0))))) aNil))) (sSeq (sAsg (gNm 5) (mV (eIf (mCmp gNe (mN 3) (mK (.int 3))) (mCall sem__law_span (aCons (mVc (mN 0)) (aCons (mV (mN 2)) aNil))) (mK .none)))) (sSeq (sAsg (gNm 6) (mV (eIf (mCmp (gIn false) (mN 3) (mTup (aCons (mV (mK (.int 1))) (aCons (mV (mK (.int 2))) (aCons (mV (mK (.int 3))) aNil))))) (mCall sem__law_span (aCons (mVc (mN 0)) (aCons (mV (mN 2)) aNil))) (mK .none)))) (sRet (mTup (aCons (mV (mK (.str "call"))) (aCons (mV (mN 1)) (aCons (mV (mN 5)) (aCons (mV (mN 6)) (aCons (mV (mN 4)) aNil))))))))))
noncomputable def sem__law_call : Fs := bodyF 7 3 sb__law_call
theorem kn__law_call (D : Df K mg "_law_call" st__law_call) (G__law_next : Kn P w K mg base "_law_next" 1 sem__law_next) (G__law_span : Kn P w K mg base "_law_span" 2 sem__law_span) : Kn P w K mg base "_law_call" 3 sem__law_call :=
  kn_def (k := 2) (N := ["_law_urn_here", "_law_label_here", "_law_longest", "_law_way", "_law_hangs", "_law_good", "_law_bad"]) (ps := ["_law_urn_here", "_law_label_here", "_law_longest"]) (sb := sb__law_call) D ⟨rfl, rfl, rfl, by decide +kernel, rfl, by decide +kernel, by decide +kernel⟩ (fun _ _ _ _ _ _ us hl => match us, hl with | [_, _, _], _ => rfl) (fun cdv f A outer s H E B =>
    (x_cons (x_par (ps_par B.cm B.nd rfl rfl (by decide) rfl rfl (a_cons (s_call B G__law_next (by decide) (by rfl) (a_consC (s_name (pv 0)) (a_cons s_int a_nil))) (a_cons (v_eq B (s_call B G__law_next (by decide) (by rfl) (a_consC (s_name (pv 0)) (a_cons s_int a_nil))) s_int) a_nil)) rfl)) (x_cons (x_asg (pv_frz (s_ifE (t_ne B (s_name (pv 3)) s_int) (s_call B G__law_span (by decide) (by rfl) (a_consC (s_name (pv 0)) (a_cons (s_name (pv 2)) a_nil))) s_none)) (t_name (pg_name (i := 5) B.nd rfl (by first | exact .inl rfl | exact .inr rfl)))) (x_cons (x_asg (pv_frz (s_ifE (t_in (s_name (pv 3)) (s_tup (a_cons s_int (a_cons s_int (a_cons s_int a_nil)))) rfl) (s_call B G__law_span (by decide) (by rfl) (a_consC (s_name (pv 0)) (a_cons (s_name (pv 2)) a_nil))) s_none)) (t_name (pg_name (i := 6) B.nd rfl (by first | exact .inl rfl | exact .inr rfl)))) (x_one (x_ret (s_tup (a_cons s_str (a_cons (s_name (pv 1)) (a_cons (s_name (pv 5)) (a_cons (s_name (pv 6)) (a_cons (s_name (pv 4)) a_nil))))))))))))
noncomputable def sb__law_number : Sv := (sSeq (sIf (mCmp gEq (mN 1) (mK (.str "wait"))) (sRet (mCall sem__law_next (aCons (mVc (mN 0)) (aCons (mV (mK (.int 10))) aNil)))) sNil) (sSeq (sIf (mCmp gEq (mN 1) (mK (.str "retry"))) (sRet (mCal (g1 fTuple) (aCons (mV (mLc (iRg1 (aCons (mV (mCall sem__law_next (aCons (mVc (mN 0)) (aCons (mV (mK (.int 4))) aNil)))) aNil)) (gNm 2) ttY (mCall sem__law_next (aCons (mVc (mN 0)) (aCons (mV (mK (.int 4))) aNil))) [2])) aNil))) sNil) (sRet (mCall sem__law_of (aCons (mVc (mN 0)) (aCons (mV (mLst (aCons (mV (mK .none)) (aCons (mV (mK (.int 0))) (aCons (mV (mK (.int 3))) (aCons (mV (mBin (fI pPow fun i j => i ^ j.toNat) (mK (.int 10)) (mK (.int 9)))) aNil)))))) aNil))))))
noncomputable def sem__law_number : Fs := bodyF 3 2 sb__law_number
theorem kn__law_number (D : Df K mg "_law_number" st__law_number) (G__law_next : Kn P w K mg base "_law_next" 1 sem__law_next) (G__law_of : Kn P w K mg base "_law_of" 2 sem__law_of) (m_range : mg "range" = none) (m_tuple : mg "tuple" = none) : Kn P w K mg base "_law_number" 3 sem__law_number :=
  kn_def (k := 2) (N := ["_law_urn_here", "_law_kind", "_law_turn"]) (ps := ["_law_urn_here", "_law_kind"]) (sb := sb__law_number) D ⟨rfl, rfl, rfl, by decide +kernel, rfl, by decide +kernel, by decide +kernel⟩ (fun _ _ _ _ _ _ us hl => match us, hl with | [_, _], _ => rfl) (fun cdv f A outer s H E B =>
    (x_cons (x_if (t_eq B (s_name (pv 1)) s_str) (x_one (x_ret (s_call B G__law_next (by decide) (by rfl) (a_consC (s_name (pv 0)) (a_cons s_int a_nil))))) x_nil) (x_cons (x_if (t_eq B (s_name (pv 1)) s_str) (x_one (x_ret (k_tuple (by rfl) m_tuple (a_cons (s_lc (own := [("_law_turn", 2)]) B.cm B.nd (i_rng1 (by rfl) m_range (a_cons (s_call B G__law_next (by decide) (by rfl) (a_consC (s_name (pv 0)) (a_cons s_int a_nil))) a_nil)) (show BlkOk ["_law_urn_here", "_law_kind", "_law_turn"] (defScope st__law_number) _ _ from ⟨rfl, by decide +kernel, by decide +kernel, by decide +kernel, by decide +kernel⟩) (fun s1 H1 A1 cl1 fp1 => (t_name (pg_name (i := 2) (B.blk s1 H1 _ _ fp1).nd rfl (by first | exact .inl rfl | exact .inr rfl)))) (fun s1 H1 A1 cl1 fp1 => pts_yes) (fun s1 H1 A1 cl1 fp1 => (s_call (B.blk s1 H1 _ _ fp1) G__law_next (by decide) (by rfl) (a_consC (s_name (pv 0)) (a_cons s_int a_nil)))) (by decide)) a_nil)))) x_nil) (x_one (x_ret (s_call B G__law_of (by decide) (by rfl) (a_consC (s_name (pv 0)) (a_cons (s_lst (a_cons s_none (a_cons s_int (a_cons s_int (a_cons (s_pow s_int s_int) a_nil))))) a_nil))))))))
noncomputable def sb__law_is_undone : Sv := (sSeq (sFor (iOf (mTurnK (mN 1))) (gNm 2) (sSeq (sExp (mMeth "Desk" "undo" sem_Desk_undo (mN 0) aNil)) (sIf (mCmp gNe (mCal (g1 fRepr) (aCons (mV (mCall sem__law_state (aCons (mV (mN 0)) aNil))) aNil)) (mCal (g1 fRepr) (aCons (mV (mN 2)) aNil))) (sRet (mK (.bool false))) sNil))) (sRet (bV (mCmp gEq (mMeth "Desk" "changes" sem_Desk_changes (mN 0) aNil) (mK (.int 0))))))
noncomputable def sem__law_is_undone : Fs := bodyF 3 2 sb__law_is_undone
theorem kn__law_is_undone (D : Df K mg "_law_is_undone" st__law_is_undone) (G_Desk_changes : KnM P w K mg base "Desk" "changes" 1 sem_Desk_changes) (G_Desk_undo : KnM P w K mg base "Desk" "undo" 1 sem_Desk_undo) (G__law_state : Kn P w K mg base "_law_state" 2 sem__law_state) (m_repr : mg "repr" = none) (sysK : SysK K) : Kn P w K mg base "_law_is_undone" 3 sem__law_is_undone :=
  kn_def (k := 2) (N := ["_law_desk", "_law_past", "_law_state_here"]) (ps := ["_law_desk", "_law_past"]) (sb := sb__law_is_undone) D ⟨rfl, rfl, rfl, by decide +kernel, rfl, by decide +kernel, by decide +kernel⟩ (fun _ _ _ _ _ _ us hl => match us, hl with | [_, _], _ => rfl) (fun cdv f A outer s H E B =>
    (x_cons (x_for B.hp B.cm (i_seq (s_turnK B.hK (s_name (pv 1)))) (t_name (pg_name (i := 2) B.nd rfl (by first | exact .inl rfl | exact .inr rfl))) (x_cons (x_expr (s_meth0 B G_Desk_undo (by decide) (s_name (pv 0)))) (x_one (x_if (t_ne B (k_repr B sysK (by rfl) m_repr (a_cons (s_call B G__law_state (by decide) (by rfl) (a_cons (s_name (pv 0)) a_nil)) a_nil)) (k_repr B sysK (by rfl) m_repr (a_cons (s_name (pv 2)) a_nil))) (x_one (x_ret s_bool)) x_nil)))) (x_one (x_ret (v_eq B (s_meth0 B G_Desk_changes (by decide) (s_name (pv 0))) s_int)))))
noncomputable def sb_has_form : Sv := (sSeq (sIf (bOr (bNot (mTru (mIsi "tuple" (mN 0)))) (bOr (mCmp gEq (mN 0) (mTup aNil)) (bNot (mTru (mIsi "str" (mBin fIx (mN 0) (mK (.int 0)))))))) (sRet (mK (.bool false))) sNil) (sSeq (sIf (mCmp gNe (mTabG [("call", 5), ("wait", 2), ("then", 3), ("fallback", 4), ("retry", 3), ("timeout", 3), ("race", 4), ("hedge", 4), ("both", 3)] (mBin fIx (mN 0) (mK (.int 0)))) (mCal (gLen) (aCons (mV (mN 0)) aNil))) (sRet (mK (.bool false))) sNil) (sSeq (sIf (mCmp gEq (mBin fIx (mN 0) (mK (.int 0))) (mK (.str "call"))) (sRet (mCall sem_is_call (aCons (mV (mN 0)) aNil))) sNil) (sRet (eOr (bV (mCmp (gIn true) (mBin fIx (mN 0) (mK (.int 0))) (mK (.tuple [.str "wait", .str "retry", .str "fallback", .str "timeout", .str "race", .str "hedge"])))) (mCall sem_has_number (aCons (mV (mBin fIx (mN 0) (mK (.int 0)))) (aCons (mV (mBin fIx (mN 0) (mK (.int 1)))) aNil))))))))
noncomputable def sem_has_form : Fs := bodyF 1 1 sb_has_form
theorem kn_has_form (D : Df K mg "has_form" st_has_form) (G_has_number : Kn P w K mg base "has_number" 2 sem_has_number) (G_is_call : Kn P w K mg base "is_call" 3 sem_is_call) (m_isinstance : mg "isinstance" = none) (m_len : mg "len" = none) (m_str : mg "str" = none) (m_tuple : mg "tuple" = none) (c_CALL : ∃ t, mg "CALL" = some (.str "call" t)) (tab_SIZES : TabC K w mg "SIZES" [("call", 5), ("wait", 2), ("then", 3), ("fallback", 4), ("retry", 3), ("timeout", 3), ("race", 4), ("hedge", 4), ("both", 3)]) (tup_NUMBERED : TupC K mg "NUMBERED" ["wait", "retry", "fallback", "timeout", "race", "hedge"]) : Kn P w K mg base "has_form" 4 sem_has_form :=
  kn_def (k := 3) (N := ["value"]) (ps := ["value"]) (sb := sb_has_form) D ⟨rfl, rfl, rfl, by decide +kernel, rfl, by decide +kernel, by decide +kernel⟩ (fun _ _ _ _ _ _ us hl => match us, hl with | [_], _ => rfl) (fun cdv f A outer s H E B =>
    (x_cons (x_if (PW.pt (w_or (s_notT (s_test (s_isi (by rfl) m_isinstance (s_name (pv 0)) (by rfl) m_tuple (by decide +kernel)) (fun _ => rfl))) (w_or (t_eq B (s_name (pv 0)) (s_tup a_nil)) (w_or1 (s_notT (s_test (s_isi (by rfl) m_isinstance (s_ix (s_name (pv 0)) s_int (fun _ _ => rfl)) (by rfl) m_str (by decide +kernel)) (fun _ => rfl))))))) (x_one (x_ret s_bool)) x_nil) (x_cons (x_if (t_ne B (s_tabG tab_SIZES (by rfl) (s_ix (s_name (pv 0)) s_int (fun _ _ => rfl)) ⟨by rfl, by rfl, by rfl, by rfl⟩) (k_len B (by rfl) m_len (a_cons (s_name (pv 0)) a_nil))) (x_one (x_ret s_bool)) x_nil) (x_cons (x_if (t_eq B (s_ix (s_name (pv 0)) s_int (fun _ _ => rfl)) (s_gs (by rfl) c_CALL)) (x_one (x_ret (s_call B G_is_call (by decide) (by rfl) (a_cons (s_name (pv 0)) a_nil)))) x_nil) (x_one (x_ret (s_or (v_inC (neg := true) op_notIn_seq B.hK tup_NUMBERED (by rfl) (s_ix (s_name (pv 0)) s_int (fun _ _ => rfl)) rfl) (s_one (s_call B G_has_number (by decide) (by rfl) (a_cons (s_ix (s_name (pv 0)) s_int (fun _ _ => rfl)) (a_cons (s_ix (s_name (pv 0)) s_int (fun _ _ => rfl)) a_nil)))))))))))
noncomputable def sb__law_grown (sem : Fs) : Sv := (sSeq (sAsg (gPl (mN 1) (mK (.int 0))) (mV (mBin (fI (fun _ _ => true) fun i j => i - j) (mBin fIx (mN 1) (mK (.int 0))) (mK (.int 1))))) (sSeq (sAsg (gNm 4) (mV (mK (.str "call")))) (sSeq (sIf (bAnd (mCmp (gI fun i j => decide (j < i)) (mBin fIx (mN 1) (mK (.int 0))) (mK (.int 0))) (mCmp (gI fun i j => decide (j < i)) (mN 3) (mK (.int 0)))) (sSeq (sAsg (gNm 5) (mV (mLst (aCons (mV (mK (.str "call"))) (aCons (mV (mK (.str "timeout"))) (aCons (mV (mK (.str "retry"))) (aCons (mV (mK (.str "wait"))) (aCons (mV (mK (.str "timeout"))) aNil)))))))) (sSeq (sIf (mCmp (gI fun i j => decide (j < i)) (mBin fIx (mN 1) (mK (.int 0))) (mK (.int 1))) (sAsg (gNm 5) (mV (mBin fAdd (mN 5) (mLst (aCons (mV (mK (.str "then"))) (aCons (mV (mK (.str "fallback"))) (aCons (mV (mK (.str "race"))) (aCons (mV (mK (.str "hedge"))) (aCons (mV (mK (.str "both"))) (aCons (mV (mK (.str "fallback"))) (aCons (mV (mK (.str "race"))) (aCons (mV (mK (.str "hedge"))) aNil)))))))))))) sNil) (sAsg (gNm 4) (mV (mCall sem__law_of (aCons (mVc (mN 0)) (aCons (mV (mN 5)) aNil))))))) sNil) (sSeq (sIf (mCmp gEq (mN 4) (mK (.str "call"))) (sRet (mCall sem__law_call (aCons (mVc (mN 0)) (aCons (mV (mCall sem__law_label (aCons (mVc (mN 1)) aNil))) (aCons (mV (mN 2)) aNil))))) sNil) (sSeq (sIf (mCmp gEq (mN 4) (mK (.str "wait"))) (sRet (mTup (aCons (mV (mK (.str "wait"))) (aCons (mV (mCall sem__law_next (aCons (mVc (mN 0)) (aCons (mV (mBin fAdd (mN 2) (mK (.int 1)))) aNil)))) aNil)))) sNil) (sSeq (sAsg (gNm 6) (mV (eIf (mCmp gEq (mCall sem__law_next (aCons (mVc (mN 0)) (aCons (mV (mK (.int 9))) aNil))) (mK (.int 0))) (mK .none) (mCall sem__law_next (aCons (mVc (mN 0)) (aCons (mV (mBin fAdd (mN 2) (mK (.int 2)))) aNil)))))) (sSeq (sIf (mCmp gEq (mN 4) (mK (.str "retry"))) (sSeq (sAsg (gNm 7) (mV (mCal (g1 fTuple) (aCons (mV (mLc (iRg1 (aCons (mV (mCall sem__law_of (aCons (mVc (mN 0)) (aCons (mV (mLst (aCons (mV (mK (.int 1))) (aCons (mV (mK (.int 1))) (aCons (mV (mK (.int 2))) (aCons (mV (mK (.int 0))) aNil)))))) aNil)))) aNil)) (gNm 10) ttY (mCall sem__law_next (aCons (mVc (mN 0)) (aCons (mV (mK (.int 3))) aNil))) [10])) aNil)))) (sRet (mTup (aCons (mV (mK (.str "retry"))) (aCons (mV (mN 7)) (aCons (mV (mCall sem (aCons (mVc (mN 0)) (aCons (mVc (mN 1)) (aCons (mV (mN 2)) (aCons (mV (mBin (fI (fun _ _ => true) fun i j => i - j) (mN 3) (mK (.int 1)))) aNil)))))) aNil)))))) sNil) (sSeq (sIf (mCmp gEq (mN 4) (mK (.str "timeout"))) (sRet (mTup (aCons (mV (mK (.str "timeout"))) (aCons (mV (mN 6)) (aCons (mV (mCall sem (aCons (mVc (mN 0)) (aCons (mVc (mN 1)) (aCons (mV (mN 2)) (aCons (mV (mBin (fI (fun _ _ => true) fun i j => i - j) (mN 3) (mK (.int 1)))) aNil)))))) aNil))))) sNil) (sSeq (sAsg (gPl (mN 1) (mK (.int 0))) (mV (mBin (fI (fun _ _ => true) fun i j => i - j) (mBin fIx (mN 1) (mK (.int 0))) (mK (.int 1))))) (sSeq (sAsg (gNm 8) (mV (mCall sem (aCons (mVc (mN 0)) (aCons (mVc (mN 1)) (aCons (mV (mN 2)) (aCons (mV (mBin (fI (fun _ _ => true) fun i j => i - j) (mN 3) (mK (.int 1)))) aNil))))))) (sSeq (sAsg (gPl (mN 1) (mK (.int 0))) (mV (mBin fAdd (mBin fIx (mN 1) (mK (.int 0))) (mK (.int 1))))) (sSeq (sAsg (gNm 9) (mV (mCall sem (aCons (mVc (mN 0)) (aCons (mVc (mN 1)) (aCons (mV (mN 2)) (aCons (mV (mBin (fI (fun _ _ => true) fun i j => i - j) (mN 3) (mK (.int 1)))) aNil))))))) (sSeq (sIf (mCmp (gIn false) (mN 4) (mTup (aCons (mV (mK (.str "then"))) (aCons (mV (mK (.str "both"))) aNil)))) (sRet (mTup (aCons (mV (mN 4)) (aCons (mV (mN 8)) (aCons (mV (mN 9)) aNil))))) sNil) (sRet (mTup (aCons (mV (mN 4)) (aCons (mV (mN 6)) (aCons (mV (mN 8)) (aCons (mV (mN 9)) aNil)))))))))))))))))))
noncomputable def sem__law_grown : Nat → Fs
  | 0 => fun _ _ => .no
  | n + 1 => bodyF 11 4 (sb__law_grown (sem__law_grown n))
theorem kn__law_grown_all (D : Df K mg "_law_grown" st__law_grown) (G__law_call : Kn P w K mg base "_law_call" 3 sem__law_call) (G__law_label : Kn P w K mg base "_law_label" 1 sem__law_label) (G__law_next : Kn P w K mg base "_law_next" 1 sem__law_next) (G__law_of : Kn P w K mg base "_law_of" 2 sem__law_of) (m_range : mg "range" = none) (m_tuple : mg "tuple" = none) : ∀ n, Kn P w K mg base "_law_grown" (4 + 1 * n) (sem__law_grown n)
  | 0 => Kn.less (kn_def (k := 3) (N := ["_law_urn_here", "_law_left", "_law_longest", "_law_deep", "_law_kind", "_law_some", "_law_number_here", "_law_pauses", "_law_first", "_law_second", "_law_turn"]) (ps := ["_law_urn_here", "_law_left", "_law_longest", "_law_deep"]) (sb := fun _ _ => .no) D ⟨rfl, rfl, rfl, by decide +kernel, rfl, by decide +kernel, by decide +kernel⟩ (fun _ _ _ _ _ _ us hl => match us, hl with | [_, _, _, _], _ => rfl) (fun cdv f A outer s H E B =>
    x_no)) (fun _ _ => .inl rfl)
  | n + 1 => by
    have G__law_grown := kn__law_grown_all D G__law_call G__law_label G__law_next G__law_of m_range m_tuple n
    exact kn_def (k := 4 + 1 * n + 0) (N := ["_law_urn_here", "_law_left", "_law_longest", "_law_deep", "_law_kind", "_law_some", "_law_number_here", "_law_pauses", "_law_first", "_law_second", "_law_turn"]) (ps := ["_law_urn_here", "_law_left", "_law_longest", "_law_deep"]) (sb := sb__law_grown (sem__law_grown n)) D ⟨rfl, rfl, rfl, by decide +kernel, rfl, by decide +kernel, by decide +kernel⟩ (fun _ _ _ _ _ _ us hl => match us, hl with | [_, _, _, _], _ => rfl) (fun cdv f A outer s H E B =>
    (x_cons (x_asg (pv_frz (s_sub (s_ix (s_name (pv 1)) s_int (fun _ _ => rfl)) s_int)) (t_pl (s_name (pv 1)) s_int)) (x_cons (x_asg (pv_frz s_str) (t_name (pg_name (i := 4) B.nd rfl (by first | exact .inl rfl | exact .inr rfl)))) (x_cons (x_if (PW.pt (w_and (t_gt (s_ix (s_name (pv 1)) s_int (fun _ _ => rfl)) s_int) (w_and1 (t_gt (s_name (pv 3)) s_int)))) (x_cons (x_asg (pv_frz (s_lst (a_cons s_str (a_cons s_str (a_cons s_str (a_cons s_str (a_cons s_str a_nil))))))) (t_name (pg_name (i := 5) B.nd rfl (by first | exact .inl rfl | exact .inr rfl)))) (x_cons (x_if (t_gt (s_ix (s_name (pv 1)) s_int (fun _ _ => rfl)) s_int) (x_one (x_asg (pv_frz (s_add (s_name (pv 5)) (s_lst (a_cons s_str (a_cons s_str (a_cons s_str (a_cons s_str (a_cons s_str (a_cons s_str (a_cons s_str (a_cons s_str a_nil))))))))))) (t_name (pg_name (i := 5) B.nd rfl (by first | exact .inl rfl | exact .inr rfl))))) x_nil) (x_one (x_asg (pv_frz (s_call B G__law_of (by omega) (by rfl) (a_consC (s_name (pv 0)) (a_cons (s_name (pv 5)) a_nil)))) (t_name (pg_name (i := 4) B.nd rfl (by first | exact .inl rfl | exact .inr rfl))))))) x_nil) (x_cons (x_if (t_eq B (s_name (pv 4)) s_str) (x_one (x_ret (s_call B G__law_call (by omega) (by rfl) (a_consC (s_name (pv 0)) (a_cons (s_call B G__law_label (by omega) (by rfl) (a_consC (s_name (pv 1)) a_nil)) (a_cons (s_name (pv 2)) a_nil)))))) x_nil) (x_cons (x_if (t_eq B (s_name (pv 4)) s_str) (x_one (x_ret (s_tup (a_cons s_str (a_cons (s_call B G__law_next (by omega) (by rfl) (a_consC (s_name (pv 0)) (a_cons (s_add (s_name (pv 2)) s_int) a_nil))) a_nil))))) x_nil) (x_cons (x_asg (pv_frz (s_ifE (t_eq B (s_call B G__law_next (by omega) (by rfl) (a_consC (s_name (pv 0)) (a_cons s_int a_nil))) s_int) s_none (s_call B G__law_next (by omega) (by rfl) (a_consC (s_name (pv 0)) (a_cons (s_add (s_name (pv 2)) s_int) a_nil))))) (t_name (pg_name (i := 6) B.nd rfl (by first | exact .inl rfl | exact .inr rfl)))) (x_cons (x_if (t_eq B (s_name (pv 4)) s_str) (x_cons (x_asg (pv_frz (k_tuple (by rfl) m_tuple (a_cons (s_lc (own := [("_law_turn", 10)]) B.cm B.nd (i_rng1 (by rfl) m_range (a_cons (s_call B G__law_of (by omega) (by rfl) (a_consC (s_name (pv 0)) (a_cons (s_lst (a_cons s_int (a_cons s_int (a_cons s_int (a_cons s_int a_nil))))) a_nil))) a_nil)) (show BlkOk ["_law_urn_here", "_law_left", "_law_longest", "_law_deep", "_law_kind", "_law_some", "_law_number_here", "_law_pauses", "_law_first", "_law_second", "_law_turn"] (defScope st__law_grown) _ _ from ⟨rfl, by decide +kernel, by decide +kernel, by decide +kernel, by decide +kernel⟩) (fun s1 H1 A1 cl1 fp1 => (t_name (pg_name (i := 10) (B.blk s1 H1 _ _ fp1).nd rfl (by first | exact .inl rfl | exact .inr rfl)))) (fun s1 H1 A1 cl1 fp1 => pts_yes) (fun s1 H1 A1 cl1 fp1 => (s_call (B.blk s1 H1 _ _ fp1) G__law_next (by omega) (by rfl) (a_consC (s_name (pv 0)) (a_cons s_int a_nil)))) (by decide)) a_nil))) (t_name (pg_name (i := 7) B.nd rfl (by first | exact .inl rfl | exact .inr rfl)))) (x_one (x_ret (s_tup (a_cons s_str (a_cons (s_name (pv 7)) (a_cons (s_call B G__law_grown (by omega) (by rfl) (a_consC (s_name (pv 0)) (a_consC (s_name (pv 1)) (a_cons (s_name (pv 2)) (a_cons (s_sub (s_name (pv 3)) s_int) a_nil))))) a_nil))))))) x_nil) (x_cons (x_if (t_eq B (s_name (pv 4)) s_str) (x_one (x_ret (s_tup (a_cons s_str (a_cons (s_name (pv 6)) (a_cons (s_call B G__law_grown (by omega) (by rfl) (a_consC (s_name (pv 0)) (a_consC (s_name (pv 1)) (a_cons (s_name (pv 2)) (a_cons (s_sub (s_name (pv 3)) s_int) a_nil))))) a_nil)))))) x_nil) (x_cons (x_asg (pv_frz (s_sub (s_ix (s_name (pv 1)) s_int (fun _ _ => rfl)) s_int)) (t_pl (s_name (pv 1)) s_int)) (x_cons (x_asg (pv_frz (s_call B G__law_grown (by omega) (by rfl) (a_consC (s_name (pv 0)) (a_consC (s_name (pv 1)) (a_cons (s_name (pv 2)) (a_cons (s_sub (s_name (pv 3)) s_int) a_nil)))))) (t_name (pg_name (i := 8) B.nd rfl (by first | exact .inl rfl | exact .inr rfl)))) (x_cons (x_asg (pv_frz (s_add (s_ix (s_name (pv 1)) s_int (fun _ _ => rfl)) s_int)) (t_pl (s_name (pv 1)) s_int)) (x_cons (x_asg (pv_frz (s_call B G__law_grown (by omega) (by rfl) (a_consC (s_name (pv 0)) (a_consC (s_name (pv 1)) (a_cons (s_name (pv 2)) (a_cons (s_sub (s_name (pv 3)) s_int) a_nil)))))) (t_name (pg_name (i := 9) B.nd rfl (by first | exact .inl rfl | exact .inr rfl)))) (x_cons (x_if (t_in (s_name (pv 4)) (s_tup (a_cons s_str (a_cons s_str a_nil))) rfl) (x_one (x_ret (s_tup (a_cons (s_name (pv 4)) (a_cons (s_name (pv 8)) (a_cons (s_name (pv 9)) a_nil)))))) x_nil) (x_one (x_ret (s_tup (a_cons (s_name (pv 4)) (a_cons (s_name (pv 6)) (a_cons (s_name (pv 8)) (a_cons (s_name (pv 9)) a_nil)))))))))))))))))))))
theorem kn__law_grown (D : Df K mg "_law_grown" st__law_grown) (G__law_call : Kn P w K mg base "_law_call" 3 sem__law_call) (G__law_label : Kn P w K mg base "_law_label" 1 sem__law_label) (G__law_next : Kn P w K mg base "_law_next" 1 sem__law_next) (G__law_of : Kn P w K mg base "_law_of" 2 sem__law_of) (m_range : mg "range" = none) (m_tuple : mg "tuple" = none) : Kn P w K mg base "_law_grown" 16 (sem__law_grown 12) := kn__law_grown_all D G__law_call G__law_label G__law_next G__law_of m_range m_tuple 12
noncomputable def sb_is_policy : Sv := (sSeq (sPar [1, 2, 3] (aCons (mVc (mLst (aCons (mV (mTup (aCons (mV (mN 0)) (aCons (mV (mK (.int 1))) aNil)))) aNil))) (aCons (mVc mD0) (aCons (mV (mK (.int 0))) aNil)))) (sSeq (whGo (mCmp gNe (mN 1) (mLst aNil)) (sSeq (sAsg (gTp 2 (gCons9 (gNm 4) (gCons9 (gNm 5) gNil9))) (mV (mPop (mN 1)))) (sSeq (sAugI 3 (mK (.int 1))) (sSeq (sIf (bOr (mCmp (gI fun i j => decide (j < i)) (mN 3) (mK (.int 40))) (bOr (mCmp (gI fun i j => decide (j < i)) (mN 5) (mK (.int 20))) (bNot (mTru (mCall sem_has_form (aCons (mV (mN 4)) aNil)))))) (sRet (mK (.bool false))) sNil) (sSeq (sIf (mCmp gEq (mBin fIx (mN 4) (mK (.int 0))) (mK (.str "call"))) (sSeq (sIf (mCmp (gInD false) (mBin fIx (mN 4) (mK (.int 1))) (mN 2)) (sRet (mK (.bool false))) sNil) (sDput (mN 2) (mBin fIx (mN 4) (mK (.int 1))) (mK (.bool true)))) sNil) (sExp (mExt (mN 1) (mLc (iOf (mCall sem_inner (aCons (mV (mN 4)) aNil))) (gNm 6) ttY (mTup (aCons (mV (mN 6)) (aCons (mV (mBin fAdd (mN 5) (mK (.int 1)))) aNil))) [6]))))))) 1048576) (sRet (mK (.bool true)))))
noncomputable def sem_is_policy : Fs := bodyF 7 1 sb_is_policy
theorem kn_is_policy (D : Df K mg "is_policy" st_is_policy) (G_has_form : Kn P w K mg base "has_form" 4 sem_has_form) (G_inner : Kn P w K mg base "inner" 1 sem_inner) (c_CALL : ∃ t, mg "CALL" = some (.str "call" t)) (c_MOST_DEPTH : ∃ t, mg "MOST_DEPTH" = some (.int 20 t)) (c_MOST_PARTS : ∃ t, mg "MOST_PARTS" = some (.int 40 t)) : Kn P w K mg base "is_policy" 5 sem_is_policy :=
  kn_def (k := 4) (N := ["value", "waiting", "seen", "many", "part", "depth", "lower"]) (ps := ["value"]) (sb := sb_is_policy) D ⟨rfl, rfl, rfl, by decide +kernel, rfl, by decide +kernel, by decide +kernel⟩ (fun _ _ _ _ _ _ us hl => match us, hl with | [_], _ => rfl) (fun cdv f A outer s H E B =>
    (x_cons (x_par3 (ps_par3 B.cm B.nd rfl rfl rfl (by decide) (by decide) (by decide) rfl rfl rfl (a_consC (s_lst (a_cons (s_tup (a_cons (s_name (pv 0)) (a_cons s_int a_nil))) a_nil)) (a_consC s_d0 (a_cons s_int a_nil))) rfl)) (x_cons (x_while 1048576 B.hp (t_ne B (s_name (pv 1)) (s_lst a_nil)) (x_cons (x_asg (pv_frz (y_pop (s_name (pv 1)))) (t_tup B.cm (t_cons (t_name (pg_name (i := 4) B.nd rfl (by first | exact .inl rfl | exact .inr rfl))) (t_cons (t_name (pg_name (i := 5) B.nd rfl (by first | exact .inl rfl | exact .inr rfl))) t_nil)))) (x_cons (x_augI (i := 3) B.nd rfl (by first | exact .inl rfl | exact .inr rfl) s_int (by first | exact .inr rfl | exact .inl rfl)) (x_cons (x_if (PW.pt (w_or (t_gt (s_name (pv 3)) (s_gi (by rfl) c_MOST_PARTS)) (w_or (t_gt (s_name (pv 5)) (s_gi (by rfl) c_MOST_DEPTH)) (w_or1 (s_notT (s_test (s_call B G_has_form (by decide) (by rfl) (a_cons (s_name (pv 4)) a_nil)) (fun _ => rfl))))))) (x_one (x_ret s_bool)) x_nil) (x_cons (x_if (t_eq B (s_ix (s_name (pv 4)) s_int (fun _ _ => rfl)) (s_gs (by rfl) c_CALL)) (x_cons (x_if (t_dIn B (s_ix (s_name (pv 4)) s_int (fun _ _ => rfl)) (s_name (pv 2)) rfl) (x_one (x_ret s_bool)) x_nil) (x_one (x_dput B (s_name (pv 2)) (s_ix (s_name (pv 4)) s_int (fun _ _ => rfl)) s_bool))) x_nil) (x_one (x_expr (y_ext (s_name (pv 1)) (s_lc (own := [("lower", 6)]) B.cm B.nd (i_seq (s_call B G_inner (by decide) (by rfl) (a_cons (s_name (pv 4)) a_nil))) (show BlkOk ["value", "waiting", "seen", "many", "part", "depth", "lower"] (defScope st_is_policy) _ _ from ⟨rfl, by decide +kernel, by decide +kernel, by decide +kernel, by decide +kernel⟩) (fun s1 H1 A1 cl1 fp1 => (t_name (pg_name (i := 6) (B.blk s1 H1 _ _ fp1).nd rfl (by first | exact .inl rfl | exact .inr rfl)))) (fun s1 H1 A1 cl1 fp1 => pts_yes) (fun s1 H1 A1 cl1 fp1 => (s_tup (a_cons (s_name (pv 6)) (a_cons (s_add (s_name (pv 5)) s_int) a_nil)))) (by decide)))))))))) (x_one (x_ret s_bool)))))
noncomputable def sb_check_policy : Sv := (sIf (bNot (mTru (mCall sem_is_policy (aCons (mV (mN 0)) aNil)))) (sRaise1 "InvalidPolicy" "value" (aCons (mV (mN 0)) aNil)) sNil)
noncomputable def sem_check_policy : Fs := bodyF 1 1 sb_check_policy
theorem kn_check_policy (D : Df K mg "check_policy" st_check_policy) (G_is_policy : Kn P w K mg base "is_policy" 5 sem_is_policy) (g_InvalidPolicy : mg "InvalidPolicy" = some (.ref (He.ga K "InvalidPolicy"))) (txt_InvalidPolicy : Cfvalue.Txt K (He.ga K "InvalidPolicy") (He.ma K (He.ga K "InvalidPolicy") "__init__") "InvalidPolicy.__init__") : Kn P w K mg base "check_policy" 6 sem_check_policy :=
  kn_def (k := 5) (N := ["value"]) (ps := ["value"]) (sb := sb_check_policy) D ⟨rfl, rfl, rfl, by decide +kernel, rfl, by decide +kernel, by decide +kernel⟩ (fun _ _ _ _ _ _ us hl => match us, hl with | [_], _ => rfl) (fun cdv f A outer s H E B =>
    (x_one (x_if (s_notT (s_test (s_call B G_is_policy (by decide) (by rfl) (a_cons (s_name (pv 0)) a_nil)) (fun _ => rfl))) (x_one (x_raise_value B txt_InvalidPolicy g_InvalidPolicy (by rfl) (a_cons (s_name (pv 0)) a_nil))) x_nil)))
noncomputable def sb_Desk___init__ : Sv := (sSeq (sIf (bNot (mTru (mCall sem_is_policy (aCons (mV (mN 1)) aNil)))) (sRaise1 "InvalidPolicy" "value" (aCons (mV (mN 1)) aNil)) sNil) (sSeq (sAsg (gFld "Desk" "shown_policy" (mN 0)) (mV (mN 1))) (sSeq (sAsg (gFld "Desk" "marked_policy" (mN 0)) (mV (mN 1))) (sAsg (gFld "Desk" "earlier_pairs" (mN 0)) (mVo (mLst aNil))))))
noncomputable def sem_Desk___init__ : Fs := bodyF 2 2 sb_Desk___init__
theorem kn_Desk___init__ (D : DfI K mg "Desk" "Desk.__init__" st_Desk___init__) (G_is_policy : Kn P w K mg base "is_policy" 5 sem_is_policy) (cls_Desk : Cls K (He.ga K "Desk")) (g_InvalidPolicy : mg "InvalidPolicy" = some (.ref (He.ga K "InvalidPolicy"))) (noat_Desk_earlier_pairs : PySem.W.findIn K (.ref (He.ga K "Desk")) "earlier_pairs" = some none) (noat_Desk_marked_policy : PySem.W.findIn K (.ref (He.ga K "Desk")) "marked_policy" = some none) (noat_Desk_shown_policy : PySem.W.findIn K (.ref (He.ga K "Desk")) "shown_policy" = some none) (txt_InvalidPolicy : Cfvalue.Txt K (He.ga K "InvalidPolicy") (He.ma K (He.ga K "InvalidPolicy") "__init__") "InvalidPolicy.__init__") : KnC P w K mg base "Desk" 6 sem_Desk___init__ :=
  kn_defI (k := 5) (N := ["self", "policy"]) (ps := ["self", "policy"]) (sb := sb_Desk___init__) D ⟨rfl, rfl, rfl, by decide +kernel, rfl, by decide +kernel, by decide +kernel⟩ (fun _ _ _ _ _ _ us hl => match us, hl with | [_, _], _ => rfl) (fun cdv f A outer s H E B =>
    (x_cons (x_if (s_notT (s_test (s_call B G_is_policy (by decide) (by rfl) (a_cons (s_name (pv 1)) a_nil)) (fun _ => rfl))) (x_one (x_raise_value B txt_InvalidPolicy g_InvalidPolicy (by rfl) (a_cons (s_name (pv 1)) a_nil))) x_nil) (x_cons (x_asg (pv_frz (s_name (pv 1))) (t_fld B.hK cls_Desk noat_Desk_shown_policy (s_name (pv 0)))) (x_cons (x_asg (pv_frz (s_name (pv 1))) (t_fld B.hK cls_Desk noat_Desk_marked_policy (s_name (pv 0)))) (x_one (x_asg (pv_obj (s_lst a_nil)) (t_fld B.hK cls_Desk noat_Desk_earlier_pairs (s_name (pv 0)))))))))
noncomputable def sb_Desk_clone : Sv := (sSeq (sAsg (gNm 1) (mV (mMake "Desk" sem_Desk___init__ (aCons (mV (mFld "Desk" "shown_policy" (mN 0))) aNil)))) (sSeq (sAsg (gFld "Desk" "marked_policy" (mN 1)) (mV (mFld "Desk" "marked_policy" (mN 0)))) (sSeq (sAsg (gFld "Desk" "earlier_pairs" (mN 1)) (mVo (mCal (g1 fList) (aCons (mV (mFld "Desk" "earlier_pairs" (mN 0))) aNil)))) (sRet (mN 1)))))
noncomputable def sem_Desk_clone : Fs := bodyF 2 1 sb_Desk_clone
theorem kn_Desk_clone (D : DfM K "Desk" "clone" "Desk.clone" st_Desk_clone) (G_Desk___init__ : KnC P w K mg base "Desk" 6 sem_Desk___init__) (m_list : mg "list" = none) (cls_Desk : Cls K (He.ga K "Desk")) (noat_Desk_earlier_pairs : PySem.W.findIn K (.ref (He.ga K "Desk")) "earlier_pairs" = some none) (noat_Desk_marked_policy : PySem.W.findIn K (.ref (He.ga K "Desk")) "marked_policy" = some none) (noat_Desk_shown_policy : PySem.W.findIn K (.ref (He.ga K "Desk")) "shown_policy" = some none) : KnM P w K mg base "Desk" "clone" 8 sem_Desk_clone :=
  kn_defM (k := 7) (N := ["self", "other"]) (ps := ["self"]) (sb := sb_Desk_clone) D ⟨rfl, rfl, rfl, by decide +kernel, rfl, by decide +kernel, by decide +kernel⟩ (fun _ _ _ _ _ _ us hl => match us, hl with | [_], _ => rfl) (fun cdv f A outer s H E B =>
    (x_cons (x_asg (pv_frz (s_make B G_Desk___init__ (by decide) (by rfl) (a_cons (s_fld B.hK cls_Desk noat_Desk_shown_policy (s_name (pv 0))) a_nil))) (t_name (pg_name (i := 1) B.nd rfl (by first | exact .inl rfl | exact .inr rfl)))) (x_cons (x_asg (pv_frz (s_fld B.hK cls_Desk noat_Desk_marked_policy (s_name (pv 0)))) (t_fld B.hK cls_Desk noat_Desk_marked_policy (s_name (pv 1)))) (x_cons (x_asg (pv_obj (k_list (by rfl) m_list (a_cons (s_fld B.hK cls_Desk noat_Desk_earlier_pairs (s_name (pv 0))) a_nil))) (t_fld B.hK cls_Desk noat_Desk_earlier_pairs (s_name (pv 1)))) (x_one (x_ret (s_name (pv 1))))))))
noncomputable def sb__law_policy : Sv := (sRet (mCall (sem__law_grown 12) (aCons (mVc (mN 0)) (aCons (mVc (mLst (aCons (mV (mN 1)) (aCons (mV (mK (.int 0))) (aCons (mV (mCall sem__law_of (aCons (mVc (mN 0)) (aCons (mV (mLst (aCons (mV (mK (.str ""))) (aCons (mV (mK (.str "c"))) (aCons (mV (mK (.str "call"))) aNil))))) aNil)))) aNil))))) (aCons (mV (mN 2)) (aCons (mV (mK (.int 8))) aNil))))))
noncomputable def sem__law_policy : Fs := bodyF 3 3 sb__law_policy
theorem kn__law_policy (D : Df K mg "_law_policy" st__law_policy) (G__law_grown : Kn P w K mg base "_law_grown" 16 (sem__law_grown 12)) (G__law_of : Kn P w K mg base "_law_of" 2 sem__law_of) : Kn P w K mg base "_law_policy" 17 sem__law_policy :=
  kn_def (k := 16) (N := ["_law_urn_here", "_law_most", "_law_longest"]) (ps := ["_law_urn_here", "_law_most", "_law_longest"]) (sb := sb__law_policy) D ⟨rfl, rfl, rfl, by decide +kernel, rfl, by decide +kernel, by decide +kernel⟩ (fun _ _ _ _ _ _ us hl => match us, hl with | [_, _, _], _ => rfl) (fun cdv f A outer s H E B =>
    (x_one (x_ret (s_call B G__law_grown (by decide) (by rfl) (a_consC (s_name (pv 0)) (a_consC (s_lst (a_cons (s_name (pv 1)) (a_cons s_int (a_cons (s_call B G__law_of (by decide) (by rfl) (a_consC (s_name (pv 0)) (a_cons (s_lst (a_cons s_str (a_cons s_str (a_cons s_str a_nil)))) a_nil))) a_nil)))) (a_cons (s_name (pv 2)) (a_cons s_int a_nil))))))))
noncomputable def sb_replaced : Sv := (sSeq (sExp (mCall sem_check_part (aCons (mV (mN 0)) (aCons (mV (mN 1)) aNil)))) (sSeq (sAsg (gNm 3) (mV (mCall (sem_put_at 25) (aCons (mV (mN 0)) (aCons (mV (mN 1)) (aCons (mV (mN 2)) aNil)))))) (sSeq (sExp (mCall sem_check_policy (aCons (mV (mN 3)) aNil))) (sRet (mN 3)))))
noncomputable def sem_replaced : Fs := bodyF 4 3 sb_replaced
theorem kn_replaced (D : Df K mg "replaced" st_replaced) (G_check_part : Kn P w K mg base "check_part" 2 sem_check_part) (G_check_policy : Kn P w K mg base "check_policy" 6 sem_check_policy) (G_put_at : Kn P w K mg base "put_at" 27 (sem_put_at 25)) : Kn P w K mg base "replaced" 28 sem_replaced :=
  kn_def (k := 27) (N := ["policy", "path", "part", "found"]) (ps := ["policy", "path", "part"]) (sb := sb_replaced) D ⟨rfl, rfl, rfl, by decide +kernel, rfl, by decide +kernel, by decide +kernel⟩ (fun _ _ _ _ _ _ us hl => match us, hl with | [_, _, _], _ => rfl) (fun cdv f A outer s H E B =>
    (x_cons (x_expr (s_call B G_check_part (by decide) (by rfl) (a_cons (s_name (pv 0)) (a_cons (s_name (pv 1)) a_nil)))) (x_cons (x_asg (pv_frz (s_call B G_put_at (by decide) (by rfl) (a_cons (s_name (pv 0)) (a_cons (s_name (pv 1)) (a_cons (s_name (pv 2)) a_nil))))) (t_name (pg_name (i := 3) B.nd rfl (by first | exact .inl rfl | exact .inr rfl)))) (x_cons (x_expr (s_call B G_check_policy (by decide) (by rfl) (a_cons (s_name (pv 3)) a_nil))) (x_one (x_ret (s_name (pv 3))))))))
noncomputable def sb__law_made : Sv := (sSeq (sPar [3, 4] (aCons (mV (mCall sem__law_of (aCons (mVc (mN 0)) (aCons (mV (mCall (sem__law_all_paths 25) (aCons (mV (mN 1)) aNil))) aNil)))) (aCons (mV (mCall sem__law_next (aCons (mVc (mN 0)) (aCons (mV (mK (.int 4))) aNil)))) aNil))) (sSeq (sAsg (gNm 5) (mV (mCall sem__law_part (aCons (mV (mN 1)) (aCons (mV (mN 3)) aNil))))) (sSeq (sIf (bAnd (mCmp gEq (mN 4) (mK (.int 0))) (mCmp (gIn true) (mBin fIx (mN 5) (mK (.int 0))) (mTup (aCons (mV (mK (.str "call"))) (aCons (mV (mK (.str "then"))) (aCons (mV (mK (.str "both"))) aNil)))))) (sSeq (sAsg (gNm 6) (mV (mCall sem__law_number (aCons (mVc (mN 0)) (aCons (mV (mBin fIx (mN 5) (mK (.int 0)))) aNil))))) (sRet (mTup (aCons (mV (mK (.str "number"))) (aCons (mV (mN 3)) (aCons (mV (mN 6)) (aCons (mV (mCall (sem__law_put 25) (aCons (mV (mN 1)) (aCons (mV (mN 3)) (aCons (mV (mBin fAdd (mTup (aCons (mV (mBin fIx (mN 5) (mK (.int 0)))) (aCons (mV (mN 6)) aNil))) (mSl (mN 5) (oSome (mK (.int 2))) oNone))) aNil))))) aNil))))))) sNil) (sSeq (sIf (mCmp gEq (mN 4) (mK (.int 1))) (sSeq (sAsg (gNm 7) (mV (mLst (aCons (mV (mTup (aCons (mV (mK (.str "wait"))) (aCons (mV (mK (.int 3))) aNil)))) (aCons (mV (mTup (aCons (mV (mK (.str "call"))) (aCons (mV (mBin fAdd (mK (.str "put")) (mCal (g1 fStr) (aCons (mV (mN 2)) aNil)))) (aCons (mV (mTup (aCons (mV (mK (.int 0))) (aCons (mV (mK (.int 2))) aNil)))) (aCons (mV (mK .none)) (aCons (mV (mK (.bool true))) aNil))))))) (aCons (mV (mTup (aCons (mV (mK (.str "timeout"))) (aCons (mV (mK .none)) (aCons (mV (mN 5)) aNil))))) aNil)))))) (sSeq (sAsg (gNm 6) (mV (mCall sem__law_of (aCons (mVc (mN 0)) (aCons (mV (mN 7)) aNil))))) (sRet (mTup (aCons (mV (mK (.str "put"))) (aCons (mV (mN 3)) (aCons (mV (mN 6)) (aCons (mV (mCall (sem__law_put 25) (aCons (mV (mN 1)) (aCons (mV (mN 3)) (aCons (mV (mN 6)) aNil))))) aNil)))))))) sNil) (sSeq (sIf (bAnd (mCmp gEq (mN 4) (mK (.int 2))) (mCmp gEq (mBin fIx (mN 5) (mK (.int 0))) (mK (.str "timeout")))) (sRet (mTup (aCons (mV (mK (.str "unwrap"))) (aCons (mV (mN 3)) (aCons (mV (mK .none)) (aCons (mV (mCall (sem__law_put 25) (aCons (mV (mN 1)) (aCons (mV (mN 3)) (aCons (mV (mBin fIx (mN 5) (mK (.int 2)))) aNil))))) aNil)))))) sNil) (sSeq (sAsg (gNm 6) (mV (mCall sem__law_of (aCons (mVc (mN 0)) (aCons (mV (mLst (aCons (mV (mK .none)) (aCons (mV (mK (.int 0))) (aCons (mV (mK (.int 7))) aNil))))) aNil))))) (sRet (mTup (aCons (mV (mK (.str "wrap"))) (aCons (mV (mN 3)) (aCons (mV (mN 6)) (aCons (mV (mCall (sem__law_put 25) (aCons (mV (mN 1)) (aCons (mV (mN 3)) (aCons (mV (mTup (aCons (mV (mK (.str "timeout"))) (aCons (mV (mN 6)) (aCons (mV (mN 5)) aNil))))) aNil))))) aNil))))))))))))
noncomputable def sem__law_made : Fs := bodyF 8 3 sb__law_made
theorem kn__law_made (D : Df K mg "_law_made" st__law_made) (G__law_all_paths : Kn P w K mg base "_law_all_paths" 27 (sem__law_all_paths 25)) (G__law_next : Kn P w K mg base "_law_next" 1 sem__law_next) (G__law_number : Kn P w K mg base "_law_number" 3 sem__law_number) (G__law_of : Kn P w K mg base "_law_of" 2 sem__law_of) (G__law_part : Kn P w K mg base "_law_part" 2 sem__law_part) (G__law_put : Kn P w K mg base "_law_put" 27 (sem__law_put 25)) (m_str : mg "str" = none) : Kn P w K mg base "_law_made" 28 sem__law_made :=
  kn_def (k := 27) (N := ["_law_urn_here", "_law_policy_here", "_law_turn", "_law_path", "_law_way", "_law_part_here", "_law_value", "_law_some"]) (ps := ["_law_urn_here", "_law_policy_here", "_law_turn"]) (sb := sb__law_made) D ⟨rfl, rfl, rfl, by decide +kernel, rfl, by decide +kernel, by decide +kernel⟩ (fun _ _ _ _ _ _ us hl => match us, hl with | [_, _, _], _ => rfl) (fun cdv f A outer s H E B =>
    (x_cons (x_par (ps_par B.cm B.nd rfl rfl (by decide) rfl rfl (a_cons (s_call B G__law_of (by decide) (by rfl) (a_consC (s_name (pv 0)) (a_cons (s_call B G__law_all_paths (by decide) (by rfl) (a_cons (s_name (pv 1)) a_nil)) a_nil))) (a_cons (s_call B G__law_next (by decide) (by rfl) (a_consC (s_name (pv 0)) (a_cons s_int a_nil))) a_nil)) rfl)) (x_cons (x_asg (pv_frz (s_call B G__law_part (by decide) (by rfl) (a_cons (s_name (pv 1)) (a_cons (s_name (pv 3)) a_nil)))) (t_name (pg_name (i := 5) B.nd rfl (by first | exact .inl rfl | exact .inr rfl)))) (x_cons (x_if (PW.pt (w_and (t_eq B (s_name (pv 4)) s_int) (w_and1 (t_notIn (s_ix (s_name (pv 5)) s_int (fun _ _ => rfl)) (s_tup (a_cons s_str (a_cons s_str (a_cons s_str a_nil)))) rfl)))) (x_cons (x_asg (pv_frz (s_call B G__law_number (by decide) (by rfl) (a_consC (s_name (pv 0)) (a_cons (s_ix (s_name (pv 5)) s_int (fun _ _ => rfl)) a_nil)))) (t_name (pg_name (i := 6) B.nd rfl (by first | exact .inl rfl | exact .inr rfl)))) (x_one (x_ret (s_tup (a_cons s_str (a_cons (s_name (pv 3)) (a_cons (s_name (pv 6)) (a_cons (s_call B G__law_put (by decide) (by rfl) (a_cons (s_name (pv 1)) (a_cons (s_name (pv 3)) (a_cons (s_add (s_tup (a_cons (s_ix (s_name (pv 5)) s_int (fun _ _ => rfl)) (a_cons (s_name (pv 6)) a_nil))) (s_sl (s_name (pv 5)) (o_some s_int) o_none)) a_nil)))) a_nil)))))))) x_nil) (x_cons (x_if (t_eq B (s_name (pv 4)) s_int) (x_cons (x_asg (pv_frz (s_lst (a_cons (s_tup (a_cons s_str (a_cons s_int a_nil))) (a_cons (s_tup (a_cons s_str (a_cons (s_add s_str (k_str (by rfl) m_str (a_cons (s_name (pv 2)) a_nil))) (a_cons (s_tup (a_cons s_int (a_cons s_int a_nil))) (a_cons s_none (a_cons s_bool a_nil)))))) (a_cons (s_tup (a_cons s_str (a_cons s_none (a_cons (s_name (pv 5)) a_nil)))) a_nil))))) (t_name (pg_name (i := 7) B.nd rfl (by first | exact .inl rfl | exact .inr rfl)))) (x_cons (x_asg (pv_frz (s_call B G__law_of (by decide) (by rfl) (a_consC (s_name (pv 0)) (a_cons (s_name (pv 7)) a_nil)))) (t_name (pg_name (i := 6) B.nd rfl (by first | exact .inl rfl | exact .inr rfl)))) (x_one (x_ret (s_tup (a_cons s_str (a_cons (s_name (pv 3)) (a_cons (s_name (pv 6)) (a_cons (s_call B G__law_put (by decide) (by rfl) (a_cons (s_name (pv 1)) (a_cons (s_name (pv 3)) (a_cons (s_name (pv 6)) a_nil)))) a_nil))))))))) x_nil) (x_cons (x_if (PW.pt (w_and (t_eq B (s_name (pv 4)) s_int) (w_and1 (t_eq B (s_ix (s_name (pv 5)) s_int (fun _ _ => rfl)) s_str)))) (x_one (x_ret (s_tup (a_cons s_str (a_cons (s_name (pv 3)) (a_cons s_none (a_cons (s_call B G__law_put (by decide) (by rfl) (a_cons (s_name (pv 1)) (a_cons (s_name (pv 3)) (a_cons (s_ix (s_name (pv 5)) s_int (fun _ _ => rfl)) a_nil)))) a_nil))))))) x_nil) (x_cons (x_asg (pv_frz (s_call B G__law_of (by decide) (by rfl) (a_consC (s_name (pv 0)) (a_cons (s_lst (a_cons s_none (a_cons s_int (a_cons s_int a_nil)))) a_nil)))) (t_name (pg_name (i := 6) B.nd rfl (by first | exact .inl rfl | exact .inr rfl)))) (x_one (x_ret (s_tup (a_cons s_str (a_cons (s_name (pv 3)) (a_cons (s_name (pv 6)) (a_cons (s_call B G__law_put (by decide) (by rfl) (a_cons (s_name (pv 1)) (a_cons (s_name (pv 3)) (a_cons (s_tup (a_cons s_str (a_cons (s_name (pv 6)) (a_cons (s_name (pv 5)) a_nil)))) a_nil)))) a_nil))))))))))))))
noncomputable def sb_with_number : Sv := (sSeq (sAsg (gNm 3) (mV (mCall sem_part_at (aCons (mV (mN 0)) (aCons (mV (mN 1)) aNil))))) (sSeq (sIf (mCmp (gIn true) (mBin fIx (mN 3) (mK (.int 0))) (mK (.tuple [.str "wait", .str "retry", .str "fallback", .str "timeout", .str "race", .str "hedge"]))) (sRaise1 "NoPart" "value" (aCons (mV (mN 1)) aNil)) sNil) (sRet (mCall sem_replaced (aCons (mV (mN 0)) (aCons (mV (mN 1)) (aCons (mV (mBin fAdd (mTup (aCons (mV (mBin fIx (mN 3) (mK (.int 0)))) (aCons (mV (mN 2)) aNil))) (mSl (mN 3) (oSome (mK (.int 2))) oNone))) aNil)))))))
noncomputable def sem_with_number : Fs := bodyF 4 3 sb_with_number
theorem kn_with_number (D : Df K mg "with_number" st_with_number) (G_part_at : Kn P w K mg base "part_at" 3 sem_part_at) (G_replaced : Kn P w K mg base "replaced" 28 sem_replaced) (g_NoPart : mg "NoPart" = some (.ref (He.ga K "NoPart"))) (tup_NUMBERED : TupC K mg "NUMBERED" ["wait", "retry", "fallback", "timeout", "race", "hedge"]) (txt_NoPart : Cfvalue.Txt K (He.ga K "NoPart") (He.ma K (He.ga K "NoPart") "__init__") "NoPart.__init__") : Kn P w K mg base "with_number" 29 sem_with_number :=
  kn_def (k := 28) (N := ["policy", "path", "number", "part"]) (ps := ["policy", "path", "number"]) (sb := sb_with_number) D ⟨rfl, rfl, rfl, by decide +kernel, rfl, by decide +kernel, by decide +kernel⟩ (fun _ _ _ _ _ _ us hl => match us, hl with | [_, _, _], _ => rfl) (fun cdv f A outer s H E B =>
    (x_cons (x_asg (pv_frz (s_call B G_part_at (by decide) (by rfl) (a_cons (s_name (pv 0)) (a_cons (s_name (pv 1)) a_nil)))) (t_name (pg_name (i := 3) B.nd rfl (by first | exact .inl rfl | exact .inr rfl)))) (x_cons (x_if (t_inC (neg := true) op_notIn_seq B.hK tup_NUMBERED (by rfl) (s_ix (s_name (pv 3)) s_int (fun _ _ => rfl)) rfl) (x_one (x_raise_value B txt_NoPart g_NoPart (by rfl) (a_cons (s_name (pv 1)) a_nil))) x_nil) (x_one (x_ret (s_call B G_replaced (by decide) (by rfl) (a_cons (s_name (pv 0)) (a_cons (s_name (pv 1)) (a_cons (s_add (s_tup (a_cons (s_ix (s_name (pv 3)) s_int (fun _ _ => rfl)) (a_cons (s_name (pv 2)) a_nil))) (s_sl (s_name (pv 3)) (o_some s_int) o_none)) a_nil)))))))))
noncomputable def sb_Desk_put : Sv := (sExp (mMeth "Desk" "become" sem_Desk_become (mN 0) (aCons (mV (mCall sem_replaced (aCons (mV (mFld "Desk" "shown_policy" (mN 0))) (aCons (mV (mN 1)) (aCons (mV (mN 2)) aNil))))) (aCons (mV (mFld "Desk" "marked_policy" (mN 0))) aNil))))
noncomputable def sem_Desk_put : Fs := bodyF 3 3 sb_Desk_put
theorem kn_Desk_put (D : DfM K "Desk" "put" "Desk.put" st_Desk_put) (G_Desk_become : KnM P w K mg base "Desk" "become" 1 sem_Desk_become) (G_replaced : Kn P w K mg base "replaced" 28 sem_replaced) (cls_Desk : Cls K (He.ga K "Desk")) (noat_Desk_marked_policy : PySem.W.findIn K (.ref (He.ga K "Desk")) "marked_policy" = some none) (noat_Desk_shown_policy : PySem.W.findIn K (.ref (He.ga K "Desk")) "shown_policy" = some none) : KnM P w K mg base "Desk" "put" 29 sem_Desk_put :=
  kn_defM (k := 28) (N := ["self", "path", "part"]) (ps := ["self", "path", "part"]) (sb := sb_Desk_put) D ⟨rfl, rfl, rfl, by decide +kernel, rfl, by decide +kernel, by decide +kernel⟩ (fun _ _ _ _ _ _ us hl => match us, hl with | [_, _, _], _ => rfl) (fun cdv f A outer s H E B =>
    (x_one (x_expr (s_meth B G_Desk_become (by decide) (s_name (pv 0)) (a_cons (s_call B G_replaced (by decide) (by rfl) (a_cons (s_fld B.hK cls_Desk noat_Desk_shown_policy (s_name (pv 0))) (a_cons (s_name (pv 1)) (a_cons (s_name (pv 2)) a_nil)))) (a_cons (s_fld B.hK cls_Desk noat_Desk_marked_policy (s_name (pv 0))) a_nil))))))
noncomputable def sb_Desk_wrap : Sv := (sSeq (sAsg (gNm 3) (mV (mCall sem_part_at (aCons (mV (mFld "Desk" "shown_policy" (mN 0))) (aCons (mV (mN 1)) aNil))))) (sExp (mMeth "Desk" "become" sem_Desk_become (mN 0) (aCons (mV (mCall sem_replaced (aCons (mV (mFld "Desk" "shown_policy" (mN 0))) (aCons (mV (mN 1)) (aCons (mV (mTup (aCons (mV (mK (.str "timeout"))) (aCons (mV (mN 2)) (aCons (mV (mN 3)) aNil))))) aNil))))) (aCons (mV (mFld "Desk" "marked_policy" (mN 0))) aNil)))))
noncomputable def sem_Desk_wrap : Fs := bodyF 4 3 sb_Desk_wrap
theorem kn_Desk_wrap (D : DfM K "Desk" "wrap" "Desk.wrap" st_Desk_wrap) (G_Desk_become : KnM P w K mg base "Desk" "become" 1 sem_Desk_become) (G_part_at : Kn P w K mg base "part_at" 3 sem_part_at) (G_replaced : Kn P w K mg base "replaced" 28 sem_replaced) (c_TIMEOUT : ∃ t, mg "TIMEOUT" = some (.str "timeout" t)) (cls_Desk : Cls K (He.ga K "Desk")) (noat_Desk_marked_policy : PySem.W.findIn K (.ref (He.ga K "Desk")) "marked_policy" = some none) (noat_Desk_shown_policy : PySem.W.findIn K (.ref (He.ga K "Desk")) "shown_policy" = some none) : KnM P w K mg base "Desk" "wrap" 29 sem_Desk_wrap :=
  kn_defM (k := 28) (N := ["self", "path", "moment", "part"]) (ps := ["self", "path", "moment"]) (sb := sb_Desk_wrap) D ⟨rfl, rfl, rfl, by decide +kernel, rfl, by decide +kernel, by decide +kernel⟩ (fun _ _ _ _ _ _ us hl => match us, hl with | [_, _, _], _ => rfl) (fun cdv f A outer s H E B =>
    (x_cons (x_asg (pv_frz (s_call B G_part_at (by decide) (by rfl) (a_cons (s_fld B.hK cls_Desk noat_Desk_shown_policy (s_name (pv 0))) (a_cons (s_name (pv 1)) a_nil)))) (t_name (pg_name (i := 3) B.nd rfl (by first | exact .inl rfl | exact .inr rfl)))) (x_one (x_expr (s_meth B G_Desk_become (by decide) (s_name (pv 0)) (a_cons (s_call B G_replaced (by decide) (by rfl) (a_cons (s_fld B.hK cls_Desk noat_Desk_shown_policy (s_name (pv 0))) (a_cons (s_name (pv 1)) (a_cons (s_tup (a_cons (s_gs (by rfl) c_TIMEOUT) (a_cons (s_name (pv 2)) (a_cons (s_name (pv 3)) a_nil)))) a_nil)))) (a_cons (s_fld B.hK cls_Desk noat_Desk_marked_policy (s_name (pv 0))) a_nil)))))))
noncomputable def sb_Desk_unwrap : Sv := (sSeq (sAsg (gNm 2) (mV (mCall sem_part_at (aCons (mV (mFld "Desk" "shown_policy" (mN 0))) (aCons (mV (mN 1)) aNil))))) (sSeq (sIf (mCmp gNe (mBin fIx (mN 2) (mK (.int 0))) (mK (.str "timeout"))) (sRaise1 "NoPart" "value" (aCons (mV (mN 1)) aNil)) sNil) (sExp (mMeth "Desk" "become" sem_Desk_become (mN 0) (aCons (mV (mCall sem_replaced (aCons (mV (mFld "Desk" "shown_policy" (mN 0))) (aCons (mV (mN 1)) (aCons (mV (mBin fIx (mN 2) (mK (.int 2)))) aNil))))) (aCons (mV (mFld "Desk" "marked_policy" (mN 0))) aNil))))))
noncomputable def sem_Desk_unwrap : Fs := bodyF 3 2 sb_Desk_unwrap
theorem kn_Desk_unwrap (D : DfM K "Desk" "unwrap" "Desk.unwrap" st_Desk_unwrap) (G_Desk_become : KnM P w K mg base "Desk" "become" 1 sem_Desk_become) (G_part_at : Kn P w K mg base "part_at" 3 sem_part_at) (G_replaced : Kn P w K mg base "replaced" 28 sem_replaced) (c_TIMEOUT : ∃ t, mg "TIMEOUT" = some (.str "timeout" t)) (cls_Desk : Cls K (He.ga K "Desk")) (g_NoPart : mg "NoPart" = some (.ref (He.ga K "NoPart"))) (noat_Desk_marked_policy : PySem.W.findIn K (.ref (He.ga K "Desk")) "marked_policy" = some none) (noat_Desk_shown_policy : PySem.W.findIn K (.ref (He.ga K "Desk")) "shown_policy" = some none) (txt_NoPart : Cfvalue.Txt K (He.ga K "NoPart") (He.ma K (He.ga K "NoPart") "__init__") "NoPart.__init__") : KnM P w K mg base "Desk" "unwrap" 29 sem_Desk_unwrap :=
  kn_defM (k := 28) (N := ["self", "path", "part"]) (ps := ["self", "path"]) (sb := sb_Desk_unwrap) D ⟨rfl, rfl, rfl, by decide +kernel, rfl, by decide +kernel, by decide +kernel⟩ (fun _ _ _ _ _ _ us hl => match us, hl with | [_, _], _ => rfl) (fun cdv f A outer s H E B =>
    (x_cons (x_asg (pv_frz (s_call B G_part_at (by decide) (by rfl) (a_cons (s_fld B.hK cls_Desk noat_Desk_shown_policy (s_name (pv 0))) (a_cons (s_name (pv 1)) a_nil)))) (t_name (pg_name (i := 2) B.nd rfl (by first | exact .inl rfl | exact .inr rfl)))) (x_cons (x_if (t_ne B (s_ix (s_name (pv 2)) s_int (fun _ _ => rfl)) (s_gs (by rfl) c_TIMEOUT)) (x_one (x_raise_value B txt_NoPart g_NoPart (by rfl) (a_cons (s_name (pv 1)) a_nil))) x_nil) (x_one (x_expr (s_meth B G_Desk_become (by decide) (s_name (pv 0)) (a_cons (s_call B G_replaced (by decide) (by rfl) (a_cons (s_fld B.hK cls_Desk noat_Desk_shown_policy (s_name (pv 0))) (a_cons (s_name (pv 1)) (a_cons (s_ix (s_name (pv 2)) s_int (fun _ _ => rfl)) a_nil)))) (a_cons (s_fld B.hK cls_Desk noat_Desk_marked_policy (s_name (pv 0))) a_nil))))))))
noncomputable def sb_Desk_set_number : Sv := (sExp (mMeth "Desk" "become" sem_Desk_become (mN 0) (aCons (mV (mCall sem_with_number (aCons (mV (mFld "Desk" "shown_policy" (mN 0))) (aCons (mV (mN 1)) (aCons (mV (mN 2)) aNil))))) (aCons (mV (mFld "Desk" "marked_policy" (mN 0))) aNil))))
noncomputable def sem_Desk_set_number : Fs := bodyF 3 3 sb_Desk_set_number
theorem kn_Desk_set_number (D : DfM K "Desk" "set_number" "Desk.set_number" st_Desk_set_number) (G_Desk_become : KnM P w K mg base "Desk" "become" 1 sem_Desk_become) (G_with_number : Kn P w K mg base "with_number" 29 sem_with_number) (cls_Desk : Cls K (He.ga K "Desk")) (noat_Desk_marked_policy : PySem.W.findIn K (.ref (He.ga K "Desk")) "marked_policy" = some none) (noat_Desk_shown_policy : PySem.W.findIn K (.ref (He.ga K "Desk")) "shown_policy" = some none) : KnM P w K mg base "Desk" "set_number" 30 sem_Desk_set_number :=
  kn_defM (k := 29) (N := ["self", "path", "number"]) (ps := ["self", "path", "number"]) (sb := sb_Desk_set_number) D ⟨rfl, rfl, rfl, by decide +kernel, rfl, by decide +kernel, by decide +kernel⟩ (fun _ _ _ _ _ _ us hl => match us, hl with | [_, _, _], _ => rfl) (fun cdv f A outer s H E B =>
    (x_one (x_expr (s_meth B G_Desk_become (by decide) (s_name (pv 0)) (a_cons (s_call B G_with_number (by decide) (by rfl) (a_cons (s_fld B.hK cls_Desk noat_Desk_shown_policy (s_name (pv 0))) (a_cons (s_name (pv 1)) (a_cons (s_name (pv 2)) a_nil)))) (a_cons (s_fld B.hK cls_Desk noat_Desk_marked_policy (s_name (pv 0))) a_nil))))))
noncomputable def sb__law_done : Sv := (sSeq (sAsg (gTp 3 (gCons9 (gNm 2) (gCons9 (gNm 3) (gCons9 (gNm 4) gNil9)))) (mV (mSl (mN 1) oNone (oSome (mK (.int 3)))))) (sSeq (sIf (mCmp gEq (mN 2) (mK (.str "number"))) (sRet (mMeth "Desk" "set_number" sem_Desk_set_number (mN 0) (aCons (mV (mN 3)) (aCons (mV (mN 4)) aNil)))) sNil) (sSeq (sIf (mCmp gEq (mN 2) (mK (.str "put"))) (sRet (mMeth "Desk" "put" sem_Desk_put (mN 0) (aCons (mV (mN 3)) (aCons (mV (mN 4)) aNil)))) sNil) (sSeq (sIf (mCmp gEq (mN 2) (mK (.str "wrap"))) (sRet (mMeth "Desk" "wrap" sem_Desk_wrap (mN 0) (aCons (mV (mN 3)) (aCons (mV (mN 4)) aNil)))) sNil) (sRet (mMeth "Desk" "unwrap" sem_Desk_unwrap (mN 0) (aCons (mV (mN 3)) aNil)))))))
noncomputable def sem__law_done : Fs := bodyF 5 2 sb__law_done
theorem kn__law_done (D : Df K mg "_law_done" st__law_done) (G_Desk_put : KnM P w K mg base "Desk" "put" 29 sem_Desk_put) (G_Desk_set_number : KnM P w K mg base "Desk" "set_number" 30 sem_Desk_set_number) (G_Desk_unwrap : KnM P w K mg base "Desk" "unwrap" 29 sem_Desk_unwrap) (G_Desk_wrap : KnM P w K mg base "Desk" "wrap" 29 sem_Desk_wrap) : Kn P w K mg base "_law_done" 31 sem__law_done :=
  kn_def (k := 30) (N := ["_law_desk", "_law_deed", "_law_word", "_law_path", "_law_value"]) (ps := ["_law_desk", "_law_deed"]) (sb := sb__law_done) D ⟨rfl, rfl, rfl, by decide +kernel, rfl, by decide +kernel, by decide +kernel⟩ (fun _ _ _ _ _ _ us hl => match us, hl with | [_, _], _ => rfl) (fun cdv f A outer s H E B =>
    (x_cons (x_asg (pv_frz (s_sl (s_name (pv 1)) o_none (o_some s_int))) (t_tup B.cm (t_cons (t_name (pg_name (i := 2) B.nd rfl (by first | exact .inl rfl | exact .inr rfl))) (t_cons (t_name (pg_name (i := 3) B.nd rfl (by first | exact .inl rfl | exact .inr rfl))) (t_cons (t_name (pg_name (i := 4) B.nd rfl (by first | exact .inl rfl | exact .inr rfl))) t_nil))))) (x_cons (x_if (t_eq B (s_name (pv 2)) s_str) (x_one (x_ret (s_meth B G_Desk_set_number (by decide) (s_name (pv 0)) (a_cons (s_name (pv 3)) (a_cons (s_name (pv 4)) a_nil))))) x_nil) (x_cons (x_if (t_eq B (s_name (pv 2)) s_str) (x_one (x_ret (s_meth B G_Desk_put (by decide) (s_name (pv 0)) (a_cons (s_name (pv 3)) (a_cons (s_name (pv 4)) a_nil))))) x_nil) (x_cons (x_if (t_eq B (s_name (pv 2)) s_str) (x_one (x_ret (s_meth B G_Desk_wrap (by decide) (s_name (pv 0)) (a_cons (s_name (pv 3)) (a_cons (s_name (pv 4)) a_nil))))) x_nil) (x_one (x_ret (s_meth B G_Desk_unwrap (by decide) (s_name (pv 0)) (a_cons (s_name (pv 3)) a_nil)))))))))
noncomputable def sb__law_many_right : Sv := (sSeq (sPar [1, 2] (aCons (mV (mMake "Desk" sem_Desk___init__ (aCons (mV (mTup (aCons (mV (mK (.str "timeout"))) (aCons (mV (mK (.int 1))) (aCons (mV (mTup (aCons (mV (mK (.str "wait"))) (aCons (mV (mK (.int 2))) aNil)))) aNil))))) aNil))) (aCons (mVc (mLst aNil)) aNil))) (sSeq (sFor (iRg1 (aCons (mV (mK (.int 1300))) aNil)) (gNm 3) (sSeq (sExp (mApp (mN 2) (mCall sem__law_state (aCons (mV (mN 1)) aNil)))) (sSeq (sExp (mMeth "Desk" "set_number" sem_Desk_set_number (mN 1) (aCons (mV (mTup aNil)) (aCons (mV (mCall sem__law_next (aCons (mVc (mN 0)) (aCons (mV (mK (.int 50))) aNil)))) aNil)))) (sIf (mCmp gEq (mCall sem__law_next (aCons (mVc (mN 0)) (aCons (mV (mK (.int 5))) aNil))) (mK (.int 0))) (sSeq (sExp (mApp (mN 2) (mCall sem__law_state (aCons (mV (mN 1)) aNil)))) (sExp (mMeth "Desk" "mark" sem_Desk_mark (mN 1) aNil))) sNil)))) (sRet (eAnd (bV (mCmp gEq (mMeth "Desk" "changes" sem_Desk_changes (mN 1) aNil) (mCal (gLen) (aCons (mV (mN 2)) aNil)))) (mCall sem__law_is_undone (aCons (mV (mN 1)) (aCons (mV (mN 2)) aNil)))))))
noncomputable def sem__law_many_right : Fs := bodyF 4 1 sb__law_many_right
theorem kn__law_many_right (D : Df K mg "_law_many_right" st__law_many_right) (G_Desk___init__ : KnC P w K mg base "Desk" 6 sem_Desk___init__) (G_Desk_changes : KnM P w K mg base "Desk" "changes" 1 sem_Desk_changes) (G_Desk_mark : KnM P w K mg base "Desk" "mark" 2 sem_Desk_mark) (G_Desk_set_number : KnM P w K mg base "Desk" "set_number" 30 sem_Desk_set_number) (G__law_is_undone : Kn P w K mg base "_law_is_undone" 3 sem__law_is_undone) (G__law_next : Kn P w K mg base "_law_next" 1 sem__law_next) (G__law_state : Kn P w K mg base "_law_state" 2 sem__law_state) (m_len : mg "len" = none) (m_range : mg "range" = none) : Kn P w K mg base "_law_many_right" 31 sem__law_many_right :=
  kn_def (k := 30) (N := ["_law_urn_here", "_law_desk", "_law_states", "_law_turn"]) (ps := ["_law_urn_here"]) (sb := sb__law_many_right) D ⟨rfl, rfl, rfl, by decide +kernel, rfl, by decide +kernel, by decide +kernel⟩ (fun _ _ _ _ _ _ us hl => match us, hl with | [_], _ => rfl) (fun cdv f A outer s H E B =>
    (x_cons (x_par (ps_par B.cm B.nd rfl rfl (by decide) rfl rfl (a_cons (s_make B G_Desk___init__ (by decide) (by rfl) (a_cons (s_tup (a_cons s_str (a_cons s_int (a_cons (s_tup (a_cons s_str (a_cons s_int a_nil))) a_nil)))) a_nil)) (a_consC (s_lst a_nil) a_nil)) rfl)) (x_cons (x_for B.hp B.cm (i_rng1 (by rfl) m_range (a_cons s_int a_nil)) (t_name (pg_name (i := 3) B.nd rfl (by first | exact .inl rfl | exact .inr rfl))) (x_cons (x_expr (y_app (s_name (pv 2)) (s_call B G__law_state (by decide) (by rfl) (a_cons (s_name (pv 1)) a_nil)))) (x_cons (x_expr (s_meth B G_Desk_set_number (by decide) (s_name (pv 1)) (a_cons (s_tup a_nil) (a_cons (s_call B G__law_next (by decide) (by rfl) (a_consC (s_name (pv 0)) (a_cons s_int a_nil))) a_nil)))) (x_one (x_if (t_eq B (s_call B G__law_next (by decide) (by rfl) (a_consC (s_name (pv 0)) (a_cons s_int a_nil))) s_int) (x_cons (x_expr (y_app (s_name (pv 2)) (s_call B G__law_state (by decide) (by rfl) (a_cons (s_name (pv 1)) a_nil)))) (x_one (x_expr (s_meth0 B G_Desk_mark (by decide) (s_name (pv 1)))))) x_nil))))) (x_one (x_ret (s_and (v_eq B (s_meth0 B G_Desk_changes (by decide) (s_name (pv 1))) (k_len B (by rfl) m_len (a_cons (s_name (pv 2)) a_nil))) (s_one (s_call B G__law_is_undone (by decide) (by rfl) (a_cons (s_name (pv 1)) (a_cons (s_name (pv 2)) a_nil))))))))))
noncomputable def sb__law_led : Sv := (sSeq (sAsg (gNm 3) (mVc (mLst aNil))) (sSeq (sFor (iRg1 (aCons (mV (mCall sem__law_next (aCons (mVc (mN 0)) (aCons (mV (mBin fAdd (mN 2) (mK (.int 1)))) aNil)))) aNil)) (gNm 4) (sSeq (sAsg (gNm 5) (mV (mCall sem__law_next (aCons (mVc (mN 0)) (aCons (mV (mK (.int 6))) aNil))))) (sIf (bAnd (mCmp gEq (mN 5) (mK (.int 0))) (mCmp gNe (mN 3) (mLst aNil))) (sSeq (sExp (mMeth "Desk" "undo" sem_Desk_undo (mN 1) aNil)) (sExp (mPop (mN 3)))) (sIf (mCmp gEq (mN 5) (mK (.int 1))) (sSeq (sExp (mApp (mN 3) (mCall sem__law_state (aCons (mV (mN 1)) aNil)))) (sExp (mMeth "Desk" "mark" sem_Desk_mark (mN 1) aNil))) (sSeq (sExp (mApp (mN 3) (mCall sem__law_state (aCons (mV (mN 1)) aNil)))) (sExp (mCall sem__law_done (aCons (mV (mN 1)) (aCons (mV (mCall sem__law_made (aCons (mVc (mN 0)) (aCons (mV (mMeth "Desk" "present" sem_Desk_present (mN 1) aNil)) (aCons (mV (mMeth "Desk" "changes" sem_Desk_changes (mN 1) aNil)) aNil))))) aNil))))))))) (sRet (mN 3))))
noncomputable def sem__law_led : Fs := bodyF 6 3 sb__law_led
theorem kn__law_led (D : Df K mg "_law_led" st__law_led) (G_Desk_changes : KnM P w K mg base "Desk" "changes" 1 sem_Desk_changes) (G_Desk_mark : KnM P w K mg base "Desk" "mark" 2 sem_Desk_mark) (G_Desk_present : KnM P w K mg base "Desk" "present" 1 sem_Desk_present) (G_Desk_undo : KnM P w K mg base "Desk" "undo" 1 sem_Desk_undo) (G__law_done : Kn P w K mg base "_law_done" 31 sem__law_done) (G__law_made : Kn P w K mg base "_law_made" 28 sem__law_made) (G__law_next : Kn P w K mg base "_law_next" 1 sem__law_next) (G__law_state : Kn P w K mg base "_law_state" 2 sem__law_state) (m_range : mg "range" = none) : Kn P w K mg base "_law_led" 32 sem__law_led :=
  kn_def (k := 31) (N := ["_law_urn_here", "_law_desk", "_law_most", "_law_past", "_law_turn", "_law_way"]) (ps := ["_law_urn_here", "_law_desk", "_law_most"]) (sb := sb__law_led) D ⟨rfl, rfl, rfl, by decide +kernel, rfl, by decide +kernel, by decide +kernel⟩ (fun _ _ _ _ _ _ us hl => match us, hl with | [_, _, _], _ => rfl) (fun cdv f A outer s H E B =>
    (x_cons (x_asg (pv_cell (s_lst a_nil)) (t_name (pg_name (i := 3) B.nd rfl (by first | exact .inl rfl | exact .inr rfl)))) (x_cons (x_for B.hp B.cm (i_rng1 (by rfl) m_range (a_cons (s_call B G__law_next (by decide) (by rfl) (a_consC (s_name (pv 0)) (a_cons (s_add (s_name (pv 2)) s_int) a_nil))) a_nil)) (t_name (pg_name (i := 4) B.nd rfl (by first | exact .inl rfl | exact .inr rfl))) (x_cons (x_asg (pv_frz (s_call B G__law_next (by decide) (by rfl) (a_consC (s_name (pv 0)) (a_cons s_int a_nil)))) (t_name (pg_name (i := 5) B.nd rfl (by first | exact .inl rfl | exact .inr rfl)))) (x_one (x_if (PW.pt (w_and (t_eq B (s_name (pv 5)) s_int) (w_and1 (t_ne B (s_name (pv 3)) (s_lst a_nil))))) (x_cons (x_expr (s_meth0 B G_Desk_undo (by decide) (s_name (pv 1)))) (x_one (x_expr (y_pop (s_name (pv 3)))))) (x_one (x_if (t_eq B (s_name (pv 5)) s_int) (x_cons (x_expr (y_app (s_name (pv 3)) (s_call B G__law_state (by decide) (by rfl) (a_cons (s_name (pv 1)) a_nil)))) (x_one (x_expr (s_meth0 B G_Desk_mark (by decide) (s_name (pv 1)))))) (x_cons (x_expr (y_app (s_name (pv 3)) (s_call B G__law_state (by decide) (by rfl) (a_cons (s_name (pv 1)) a_nil)))) (x_one (x_expr (s_call B G__law_done (by decide) (by rfl) (a_cons (s_name (pv 1)) (a_cons (s_call B G__law_made (by decide) (by rfl) (a_consC (s_name (pv 0)) (a_cons (s_meth0 B G_Desk_present (by decide) (s_name (pv 1))) (a_cons (s_meth0 B G_Desk_changes (by decide) (s_name (pv 1))) a_nil)))) a_nil)))))))))))) (x_one (x_ret (s_name (pv 3)))))))
noncomputable def sb__law_right : Sv := (sSeq (sAsg (gNm 1) (mV (mCall sem__law_policy (aCons (mVc (mN 0)) (aCons (mV (mK (.int 5))) (aCons (mV (mK (.int 4))) aNil)))))) (sSeq (sAsg (gNm 2) (mV (mMake "Desk" sem_Desk___init__ (aCons (mV (mN 1)) aNil)))) (sSeq (sAsg (gNm 3) (mV (mCall sem__law_led (aCons (mVc (mN 0)) (aCons (mV (mN 2)) (aCons (mV (mK (.int 8))) aNil)))))) (sSeq (sAsg (gNm 4) (mV (mMeth "Desk" "clone" sem_Desk_clone (mN 2) aNil))) (sSeq (sAsg (gNm 5) (mV (mMeth "Desk" "clone" sem_Desk_clone (mN 4) aNil))) (sSeq (sIf (bOr (bNot (bEqO "Desk" sem_Desk___eq__ (mN 2) (mN 4))) (bOr (bNot (bEqO "Desk" sem_Desk___eq__ (mN 4) (mN 5))) (bOr (mCmp gNe (mMeth "Desk" "changes" sem_Desk_changes (mN 5) aNil) (mCal (gLen) (aCons (mV (mN 3)) aNil))) (bEqO "Desk" sem_Desk___eq__ (mN 5) (mCall sem__law_state (aCons (mV (mN 2)) aNil)))))) (sRet (mK (.bool false))) sNil) (sSeq (sAsg (gNm 6) (mV (mLcA (iTv (aCons (mV (mN 2)) (aCons (mV (mN 4)) (aCons (mV (mN 5)) aNil)))) (gNm 7) (mBin fAdd (mN 3) (mCall sem__law_led (aCons (mVc (mN 0)) (aCons (mV (mN 7)) (aCons (mV (mK (.int 4))) aNil))))) [7]))) (sSeq (sForA (iTv (aCons (mV (mN 2)) (aCons (mV (mN 4)) (aCons (mV (mN 5)) aNil)))) (gNm 7) (sForA (iTv (aCons (mV (mN 2)) (aCons (mV (mN 4)) (aCons (mV (mN 5)) aNil)))) (gNm 8) (sIf (mCmp gNe (mEqO "Desk" sem_Desk___eq__ (mN 7) (mN 8)) (bV (mCmp gEq (mCal (g1 fRepr) (aCons (mV (mCall sem__law_state (aCons (mV (mN 7)) aNil))) aNil)) (mCal (g1 fRepr) (aCons (mV (mCall sem__law_state (aCons (mV (mN 8)) aNil))) aNil))))) (sRet (mK (.bool false))) sNil))) (sRet (mCal (g1 fAll) (aCons (mV (mLcA (iZv (aCons (mV (mN 2)) (aCons (mV (mN 4)) (aCons (mV (mN 5)) aNil))) (mN 6)) (gPr (gNm 7) (gNm 9)) (mCall sem__law_is_undone (aCons (mV (mN 7)) (aCons (mV (mN 9)) aNil))) [7, 9])) aNil)))))))))))
noncomputable def sem__law_right : Fs := bodyF 10 1 sb__law_right
theorem kn__law_right (D : Df K mg "_law_right" st__law_right) (G_Desk___eq__ : KnM P w K mg base "Desk" "__eq__" 1 sem_Desk___eq__) (G_Desk___init__ : KnC P w K mg base "Desk" 6 sem_Desk___init__) (G_Desk_changes : KnM P w K mg base "Desk" "changes" 1 sem_Desk_changes) (G_Desk_clone : KnM P w K mg base "Desk" "clone" 8 sem_Desk_clone) (G__law_is_undone : Kn P w K mg base "_law_is_undone" 3 sem__law_is_undone) (G__law_led : Kn P w K mg base "_law_led" 32 sem__law_led) (G__law_policy : Kn P w K mg base "_law_policy" 17 sem__law_policy) (G__law_state : Kn P w K mg base "_law_state" 2 sem__law_state) (m_all : mg "all" = none) (m_len : mg "len" = none) (m_repr : mg "repr" = none) (m_zip : mg "zip" = none) (nf_Desk : PySem.W.notFirst K (He.ga K "Desk") (.type "tuple") = true) (sysK : SysK K) : Kn P w K mg base "_law_right" 33 sem__law_right :=
  kn_def (k := 32) (N := ["_law_urn_here", "_law_first", "_law_desk", "_law_past", "_law_twin", "_law_third", "_law_pasts", "_law_one", "_law_other", "_law_some"]) (ps := ["_law_urn_here"]) (sb := sb__law_right) D ⟨rfl, rfl, rfl, by decide +kernel, rfl, by decide +kernel, by decide +kernel⟩ (fun _ _ _ _ _ _ us hl => match us, hl with | [_], _ => rfl) (fun cdv f A outer s H E B =>
    (x_cons (x_asg (pv_frz (s_call B G__law_policy (by decide) (by rfl) (a_consC (s_name (pv 0)) (a_cons s_int (a_cons s_int a_nil))))) (t_name (pg_name (i := 1) B.nd rfl (by first | exact .inl rfl | exact .inr rfl)))) (x_cons (x_asg (pv_frz (s_make B G_Desk___init__ (by decide) (by rfl) (a_cons (s_name (pv 1)) a_nil))) (t_name (pg_name (i := 2) B.nd rfl (by first | exact .inl rfl | exact .inr rfl)))) (x_cons (x_asg (pv_frz (s_call B G__law_led (by decide) (by rfl) (a_consC (s_name (pv 0)) (a_cons (s_name (pv 2)) (a_cons s_int a_nil))))) (t_name (pg_name (i := 3) B.nd rfl (by first | exact .inl rfl | exact .inr rfl)))) (x_cons (x_asg (pv_frz (s_meth0 B G_Desk_clone (by decide) (s_name (pv 2)))) (t_name (pg_name (i := 4) B.nd rfl (by first | exact .inl rfl | exact .inr rfl)))) (x_cons (x_asg (pv_frz (s_meth0 B G_Desk_clone (by decide) (s_name (pv 4)))) (t_name (pg_name (i := 5) B.nd rfl (by first | exact .inl rfl | exact .inr rfl)))) (x_cons (x_if (PW.pt (w_or (s_notT (s_eqOT B G_Desk___eq__ (by decide) nf_Desk (s_name (pv 2)) (s_name (pv 4)))) (w_or (s_notT (s_eqOT B G_Desk___eq__ (by decide) nf_Desk (s_name (pv 4)) (s_name (pv 5)))) (w_or (t_ne B (s_meth0 B G_Desk_changes (by decide) (s_name (pv 5))) (k_len B (by rfl) m_len (a_cons (s_name (pv 3)) a_nil))) (w_or1 (s_eqOT B G_Desk___eq__ (by decide) nf_Desk (s_name (pv 5)) (s_call B G__law_state (by decide) (by rfl) (a_cons (s_name (pv 2)) a_nil)))))))) (x_one (x_ret s_bool)) x_nil) (x_cons (x_setLcA (rel := Vok) (i := 6) (own := [("_law_one", 7)]) B.cm B.nd rfl rfl rfl (i_tupV (a_cons (s_name (pv 2)) (a_cons (s_name (pv 4)) (a_cons (s_name (pv 5)) a_nil)))) (show BlkOk ["_law_urn_here", "_law_first", "_law_desk", "_law_past", "_law_twin", "_law_third", "_law_pasts", "_law_one", "_law_other", "_law_some"] (defScope st__law_right) _ _ from ⟨rfl, by decide +kernel, by decide +kernel, by decide +kernel, by decide +kernel⟩) (fun s1 H1 A1 cl1 fp1 => (t_name (pg_name (i := 7) (B.blk s1 H1 _ _ fp1).nd rfl (by first | exact .inl rfl | exact .inr rfl)))) (fun s1 H1 A1 cl1 fp1 => (s_add (s_name (pv 3)) (s_call (B.blk s1 H1 _ _ fp1) G__law_led (by decide) (by rfl) (a_consC (s_name (pv 0)) (a_cons (s_name (pv 7)) (a_cons s_int a_nil)))))) (by decide) (by intro _; rfl)) (x_cons (x_forA (rel := Vok) B.hp B.cm (i_tupV (a_cons (s_name (pv 2)) (a_cons (s_name (pv 4)) (a_cons (s_name (pv 5)) a_nil)))) (t_name (pg_name (i := 7) B.nd rfl (by first | exact .inl rfl | exact .inr rfl))) (x_one (x_forA (rel := Vok) B.hp B.cm (i_tupV (a_cons (s_name (pv 2)) (a_cons (s_name (pv 4)) (a_cons (s_name (pv 5)) a_nil)))) (t_name (pg_name (i := 8) B.nd rfl (by first | exact .inl rfl | exact .inr rfl))) (x_one (x_if (t_ne B (s_eqO B G_Desk___eq__ (by decide) nf_Desk (s_name (pv 7)) (s_name (pv 8))) (v_eq B (k_repr B sysK (by rfl) m_repr (a_cons (s_call B G__law_state (by decide) (by rfl) (a_cons (s_name (pv 7)) a_nil)) a_nil)) (k_repr B sysK (by rfl) m_repr (a_cons (s_call B G__law_state (by decide) (by rfl) (a_cons (s_name (pv 8)) a_nil)) a_nil)))) (x_one (x_ret s_bool)) x_nil))))) (x_one (x_ret (k_all B (by rfl) m_all (a_cons (s_lcA (rel := pairOk) (own := [("_law_one", 7), ("_law_some", 9)]) B.cm B.nd (i_zipV (by rfl) m_zip (a_cons (s_name (pv 2)) (a_cons (s_name (pv 4)) (a_cons (s_name (pv 5)) a_nil))) (s_name (pv 6))) (show BlkOk ["_law_urn_here", "_law_first", "_law_desk", "_law_past", "_law_twin", "_law_third", "_law_pasts", "_law_one", "_law_other", "_law_some"] (defScope st__law_right) _ _ from ⟨rfl, by decide +kernel, by decide +kernel, by decide +kernel, by decide +kernel⟩) (fun s1 H1 A1 cl1 fp1 => (t_pairV (B.blk s1 H1 _ _ fp1).cm (t_name (pg_name (i := 7) (B.blk s1 H1 _ _ fp1).nd rfl (by first | exact .inl rfl | exact .inr rfl))) (t_name (pg_name (i := 9) (B.blk s1 H1 _ _ fp1).nd rfl (by first | exact .inl rfl | exact .inr rfl))))) (fun s1 H1 A1 cl1 fp1 => (s_call (B.blk s1 H1 _ _ fp1) G__law_is_undone (by decide) (by rfl) (a_cons (s_name (pv 7)) (a_cons (s_name (pv 9)) a_nil)))) (by decide)) a_nil)))))))))))))
noncomputable def sb_law : Sv := (sSeq (sIf (bNot (mTru (mCall sem__law_many_right (aCons (mVc (mCall sem__law_urn (aCons (mV (mN 0)) (aCons (mV (mK (.int 0))) aNil)))) aNil)))) (sRet (mK (.bool false))) sNil) (sRet (mCal (g1 fAll) (aCons (mV (mLc (iRg1 (aCons (mV (mCal (gII (fun i j => if j > i then j else i)) (aCons (mV (mK (.int 1))) (aCons (mV (mCal (gII (fun i j => if j < i then j else i)) (aCons (mV (mK (.int 2))) (aCons (mV (mCal (gLen) (aCons (mV (mN 0)) aNil))) aNil)))) aNil)))) aNil)) (gNm 1) ttY (mCall sem__law_right (aCons (mVc (mCall sem__law_urn (aCons (mV (mN 0)) (aCons (mV (mN 1)) aNil)))) aNil)) [1])) aNil))))
noncomputable def sem_law : Fs := bodyF 2 1 sb_law
theorem fn_law {f : Addr} {fd : FuncData} (FL : FunD K "law" "law" (defArgs st_law) (defBody st_law) (defScope st_law) [] [] f fd) (G__law_many_right : Kn P w K mg base "_law_many_right" 31 sem__law_many_right) (G__law_right : Kn P w K mg base "_law_right" 33 sem__law_right) (G__law_urn : Kn P w K mg base "_law_urn" 1 sem__law_urn) (m_all : mg "all" = none) (m_len : mg "len" = none) (m_max : mg "max" = none) (m_min : mg "min" = none) (m_range : mg "range" = none) : FnC P w K mg base 34 f fd ["_law_script"] sem_law :=
  fn_def (k := 33) (N := ["_law_script", "_law_k"]) (ps := ["_law_script"]) (sb := sb_law) FL ⟨rfl, rfl, rfl, by decide +kernel, rfl, by decide +kernel, by decide +kernel⟩ (fun cdv f A outer s H E B =>
    (x_cons (x_if (s_notT (s_test (s_call B G__law_many_right (by decide) (by rfl) (a_consC (s_call B G__law_urn (by decide) (by rfl) (a_cons (s_name (pv 0)) (a_cons s_int a_nil))) a_nil)) (fun _ => rfl))) (x_one (x_ret s_bool)) x_nil) (x_one (x_ret (k_all B (by rfl) m_all (a_cons (s_lc (own := [("_law_k", 1)]) B.cm B.nd (i_rng1 (by rfl) m_range (a_cons (k_max B (by rfl) m_max (a_cons s_int (a_cons (k_min B (by rfl) m_min (a_cons s_int (a_cons (k_len B (by rfl) m_len (a_cons (s_name (pv 0)) a_nil)) a_nil))) a_nil))) a_nil)) (show BlkOk ["_law_script", "_law_k"] (defScope st_law) _ _ from ⟨rfl, by decide +kernel, by decide +kernel, by decide +kernel, by decide +kernel⟩) (fun s1 H1 A1 cl1 fp1 => (t_name (pg_name (i := 1) (B.blk s1 H1 _ _ fp1).nd rfl (by first | exact .inl rfl | exact .inr rfl)))) (fun s1 H1 A1 cl1 fp1 => pts_yes) (fun s1 H1 A1 cl1 fp1 => (s_call (B.blk s1 H1 _ _ fp1) G__law_right (by decide) (by rfl) (a_consC (s_call (B.blk s1 H1 _ _ fp1) G__law_urn (by decide) (by rfl) (a_cons (s_name (pv 0)) (a_cons (s_name (pv 1)) a_nil))) a_nil))) (by decide)) a_nil))))))
end
def d_Desk___init__ : He.DefD := ⟨("Desk", some "__init__"), "__init__", "Desk.__init__", defArgs st_Desk___init__, defBody st_Desk___init__, defScope st_Desk___init__, [], []⟩
def d_Desk___eq__ : He.DefD := ⟨("Desk", some "__eq__"), "__eq__", "Desk.__eq__", defArgs st_Desk___eq__, defBody st_Desk___eq__, defScope st_Desk___eq__, [], []⟩
def d_Desk_become : He.DefD := ⟨("Desk", some "become"), "become", "Desk.become", defArgs st_Desk_become, defBody st_Desk_become, defScope st_Desk_become, [], []⟩
def d_Desk_set_number : He.DefD := ⟨("Desk", some "set_number"), "set_number", "Desk.set_number", defArgs st_Desk_set_number, defBody st_Desk_set_number, defScope st_Desk_set_number, [], []⟩
def d_Desk_put : He.DefD := ⟨("Desk", some "put"), "put", "Desk.put", defArgs st_Desk_put, defBody st_Desk_put, defScope st_Desk_put, [], []⟩
def d_Desk_wrap : He.DefD := ⟨("Desk", some "wrap"), "wrap", "Desk.wrap", defArgs st_Desk_wrap, defBody st_Desk_wrap, defScope st_Desk_wrap, [], []⟩
def d_Desk_unwrap : He.DefD := ⟨("Desk", some "unwrap"), "unwrap", "Desk.unwrap", defArgs st_Desk_unwrap, defBody st_Desk_unwrap, defScope st_Desk_unwrap, [], []⟩
def d_Desk_mark : He.DefD := ⟨("Desk", some "mark"), "mark", "Desk.mark", defArgs st_Desk_mark, defBody st_Desk_mark, defScope st_Desk_mark, [], []⟩
def d_Desk_undo : He.DefD := ⟨("Desk", some "undo"), "undo", "Desk.undo", defArgs st_Desk_undo, defBody st_Desk_undo, defScope st_Desk_undo, [], []⟩
def d_Desk_present : He.DefD := ⟨("Desk", some "present"), "present", "Desk.present", defArgs st_Desk_present, defBody st_Desk_present, defScope st_Desk_present, [], []⟩
def d_Desk_marked : He.DefD := ⟨("Desk", some "marked"), "marked", "Desk.marked", defArgs st_Desk_marked, defBody st_Desk_marked, defScope st_Desk_marked, [], []⟩
def d_Desk_changes : He.DefD := ⟨("Desk", some "changes"), "changes", "Desk.changes", defArgs st_Desk_changes, defBody st_Desk_changes, defScope st_Desk_changes, [], []⟩
def d_Desk_clone : He.DefD := ⟨("Desk", some "clone"), "clone", "Desk.clone", defArgs st_Desk_clone, defBody st_Desk_clone, defScope st_Desk_clone, [], []⟩
def d__wall : He.DefD := ⟨("_wall", none), "_wall", "_wall", defArgs st__wall, defBody st__wall, defScope st__wall, [], []⟩
def d_is_label : He.DefD := ⟨("is_label", none), "is_label", "is_label", defArgs st_is_label, defBody st_is_label, defScope st_is_label, [], []⟩
def d_is_number : He.DefD := ⟨("is_number", none), "is_number", "is_number", defArgs st_is_number, defBody st_is_number, defScope st_is_number, [], []⟩
def d_is_span : He.DefD := ⟨("is_span", none), "is_span", "is_span", defArgs st_is_span, defBody st_is_span, defScope st_is_span, [], []⟩
def d_is_call : He.DefD := ⟨("is_call", none), "is_call", "is_call", defArgs st_is_call, defBody st_is_call, defScope st_is_call, [], []⟩
def d_has_number : He.DefD := ⟨("has_number", none), "has_number", "has_number", defArgs st_has_number, defBody st_has_number, defScope st_has_number, [], []⟩
def d_has_form : He.DefD := ⟨("has_form", none), "has_form", "has_form", defArgs st_has_form, defBody st_has_form, defScope st_has_form, [], []⟩
def d_inner : He.DefD := ⟨("inner", none), "inner", "inner", defArgs st_inner, defBody st_inner, defScope st_inner, [], []⟩
def d_is_policy : He.DefD := ⟨("is_policy", none), "is_policy", "is_policy", defArgs st_is_policy, defBody st_is_policy, defScope st_is_policy, [], []⟩
def d_is_index : He.DefD := ⟨("is_index", none), "is_index", "is_index", defArgs st_is_index, defBody st_is_index, defScope st_is_index, [], []⟩
def d_check_part : He.DefD := ⟨("check_part", none), "check_part", "check_part", defArgs st_check_part, defBody st_check_part, defScope st_check_part, [], []⟩
def d_part_at : He.DefD := ⟨("part_at", none), "part_at", "part_at", defArgs st_part_at, defBody st_part_at, defScope st_part_at, [], []⟩
def d_with_inner : He.DefD := ⟨("with_inner", none), "with_inner", "with_inner", defArgs st_with_inner, defBody st_with_inner, defScope st_with_inner, [], []⟩
def d_put_at : He.DefD := ⟨("put_at", none), "put_at", "put_at", defArgs st_put_at, defBody st_put_at, defScope st_put_at, [], []⟩
def d_check_policy : He.DefD := ⟨("check_policy", none), "check_policy", "check_policy", defArgs st_check_policy, defBody st_check_policy, defScope st_check_policy, [], []⟩
def d_replaced : He.DefD := ⟨("replaced", none), "replaced", "replaced", defArgs st_replaced, defBody st_replaced, defScope st_replaced, [], []⟩
def d_with_number : He.DefD := ⟨("with_number", none), "with_number", "with_number", defArgs st_with_number, defBody st_with_number, defScope st_with_number, [], []⟩
def d__law_urn : He.DefD := ⟨("_law_urn", none), "_law_urn", "_law_urn", defArgs st__law_urn, defBody st__law_urn, defScope st__law_urn, [], []⟩
def d__law_next : He.DefD := ⟨("_law_next", none), "_law_next", "_law_next", defArgs st__law_next, defBody st__law_next, defScope st__law_next, [], []⟩
def d__law_of : He.DefD := ⟨("_law_of", none), "_law_of", "_law_of", defArgs st__law_of, defBody st__law_of, defScope st__law_of, [], []⟩
def d__law_span : He.DefD := ⟨("_law_span", none), "_law_span", "_law_span", defArgs st__law_span, defBody st__law_span, defScope st__law_span, [], []⟩
def d__law_call : He.DefD := ⟨("_law_call", none), "_law_call", "_law_call", defArgs st__law_call, defBody st__law_call, defScope st__law_call, [], []⟩
def d__law_label : He.DefD := ⟨("_law_label", none), "_law_label", "_law_label", defArgs st__law_label, defBody st__law_label, defScope st__law_label, [], []⟩
def d__law_policy : He.DefD := ⟨("_law_policy", none), "_law_policy", "_law_policy", defArgs st__law_policy, defBody st__law_policy, defScope st__law_policy, [], []⟩
def d__law_grown : He.DefD := ⟨("_law_grown", none), "_law_grown", "_law_grown", defArgs st__law_grown, defBody st__law_grown, defScope st__law_grown, [], []⟩
def d__law_inner : He.DefD := ⟨("_law_inner", none), "_law_inner", "_law_inner", defArgs st__law_inner, defBody st__law_inner, defScope st__law_inner, [], []⟩
def d__law_all_paths : He.DefD := ⟨("_law_all_paths", none), "_law_all_paths", "_law_all_paths", defArgs st__law_all_paths, defBody st__law_all_paths, defScope st__law_all_paths, [], []⟩
def d__law_part : He.DefD := ⟨("_law_part", none), "_law_part", "_law_part", defArgs st__law_part, defBody st__law_part, defScope st__law_part, [], []⟩
def d__law_put : He.DefD := ⟨("_law_put", none), "_law_put", "_law_put", defArgs st__law_put, defBody st__law_put, defScope st__law_put, [], []⟩
def d__law_number : He.DefD := ⟨("_law_number", none), "_law_number", "_law_number", defArgs st__law_number, defBody st__law_number, defScope st__law_number, [], []⟩
def d__law_made : He.DefD := ⟨("_law_made", none), "_law_made", "_law_made", defArgs st__law_made, defBody st__law_made, defScope st__law_made, [], []⟩
def d__law_done : He.DefD := ⟨("_law_done", none), "_law_done", "_law_done", defArgs st__law_done, defBody st__law_done, defScope st__law_done, [], []⟩
def d__law_led : He.DefD := ⟨("_law_led", none), "_law_led", "_law_led", defArgs st__law_led, defBody st__law_led, defScope st__law_led, [], []⟩
def d__law_state : He.DefD := ⟨("_law_state", none), "_law_state", "_law_state", defArgs st__law_state, defBody st__law_state, defScope st__law_state, [], []⟩
def d__law_is_undone : He.DefD := ⟨("_law_is_undone", none), "_law_is_undone", "_law_is_undone", defArgs st__law_is_undone, defBody st__law_is_undone, defScope st__law_is_undone, [], []⟩
def d__law_right : He.DefD := ⟨("_law_right", none), "_law_right", "_law_right", defArgs st__law_right, defBody st__law_right, defScope st__law_right, [], []⟩
def d__law_many_right : He.DefD := ⟨("_law_many_right", none), "_law_many_right", "_law_many_right", defArgs st__law_many_right, defBody st__law_many_right, defScope st__law_many_right, [], []⟩
def d_law : He.DefD := ⟨("law", none), "law", "law", defArgs st_law, defBody st_law, defScope st_law, [], []⟩
abbrev sti_InvalidPolicy : Stmt := match top 3 with
  | .ClassDef _ _ _ b _ _ _ _ _ _ _ => b.getD 0 (.Pass ⟨0, 0, 0, 0⟩)
  | _ => .Pass ⟨0, 0, 0, 0⟩
def di_InvalidPolicy : He.DefD := ⟨("InvalidPolicy", some "__init__"), "__init__", "InvalidPolicy.__init__", defArgs sti_InvalidPolicy, defBody sti_InvalidPolicy, defScope sti_InvalidPolicy, [], []⟩
abbrev sti_NoPart : Stmt := match top 4 with
  | .ClassDef _ _ _ b _ _ _ _ _ _ _ => b.getD 0 (.Pass ⟨0, 0, 0, 0⟩)
  | _ => .Pass ⟨0, 0, 0, 0⟩
def di_NoPart : He.DefD := ⟨("NoPart", some "__init__"), "__init__", "NoPart.__init__", defArgs sti_NoPart, defBody sti_NoPart, defScope sti_NoPart, [], []⟩
def fn : List He.DefD := [d__wall, d_is_label, d_is_number, d_is_span, d_is_call, d_has_number, d_has_form, d_inner, d_is_policy, d_is_index, d_check_part, d_part_at, d_with_inner, d_put_at, d_check_policy, d_replaced, d_with_number, d__law_urn, d__law_next, d__law_of, d__law_span, d__law_call, d__law_label, d__law_policy, d__law_grown, d__law_inner, d__law_all_paths, d__law_part, d__law_put, d__law_number, d__law_made, d__law_done, d__law_led, d__law_state, d__law_is_undone, d__law_right, d__law_many_right, d_law, di_InvalidPolicy, di_NoPart, d_Desk___init__, d_Desk___eq__, d_Desk_become, d_Desk_set_number, d_Desk_put, d_Desk_wrap, d_Desk_unwrap, d_Desk_mark, d_Desk_undo, d_Desk_present, d_Desk_marked, d_Desk_changes, d_Desk_clone]
def fa : List Fb := [(fun K => (He.Fa.glo "_wall").ok K),
  (fun K => (He.Fa.glo "is_label").ok K),
  (fun K => (He.Fa.glo "is_number").ok K),
  (fun K => (He.Fa.glo "is_span").ok K),
  (fun K => (He.Fa.glo "is_call").ok K),
  (fun K => (He.Fa.glo "has_number").ok K),
  (fun K => (He.Fa.glo "has_form").ok K),
  (fun K => (He.Fa.glo "inner").ok K),
  (fun K => (He.Fa.glo "is_policy").ok K),
  (fun K => (He.Fa.glo "is_index").ok K),
  (fun K => (He.Fa.glo "check_part").ok K),
  (fun K => (He.Fa.glo "part_at").ok K),
  (fun K => (He.Fa.glo "with_inner").ok K),
  (fun K => (He.Fa.glo "put_at").ok K),
  (fun K => (He.Fa.glo "check_policy").ok K),
  (fun K => (He.Fa.glo "replaced").ok K),
  (fun K => (He.Fa.glo "with_number").ok K),
  (fun K => (He.Fa.glo "_law_urn").ok K),
  (fun K => (He.Fa.glo "_law_next").ok K),
  (fun K => (He.Fa.glo "_law_of").ok K),
  (fun K => (He.Fa.glo "_law_span").ok K),
  (fun K => (He.Fa.glo "_law_call").ok K),
  (fun K => (He.Fa.glo "_law_label").ok K),
  (fun K => (He.Fa.glo "_law_policy").ok K),
  (fun K => (He.Fa.glo "_law_grown").ok K),
  (fun K => (He.Fa.glo "_law_inner").ok K),
  (fun K => (He.Fa.glo "_law_all_paths").ok K),
  (fun K => (He.Fa.glo "_law_part").ok K),
  (fun K => (He.Fa.glo "_law_put").ok K),
  (fun K => (He.Fa.glo "_law_number").ok K),
  (fun K => (He.Fa.glo "_law_made").ok K),
  (fun K => (He.Fa.glo "_law_done").ok K),
  (fun K => (He.Fa.glo "_law_led").ok K),
  (fun K => (He.Fa.glo "_law_state").ok K),
  (fun K => (He.Fa.glo "_law_is_undone").ok K),
  (fun K => (He.Fa.glo "_law_right").ok K),
  (fun K => (He.Fa.glo "_law_many_right").ok K),
  (fun K => (He.Fa.glo "law").ok K),
  (fun K => (He.Fa.free "abs").ok K),
  (fun K => (He.Fa.free "all").ok K),
  (fun K => (He.Fa.free "bool").ok K),
  (fun K => (He.Fa.free "enumerate").ok K),
  (fun K => (He.Fa.free "int").ok K),
  (fun K => (He.Fa.free "isinstance").ok K),
  (fun K => (He.Fa.free "len").ok K),
  (fun K => (He.Fa.free "list").ok K),
  (fun K => (He.Fa.free "max").ok K),
  (fun K => (He.Fa.free "min").ok K),
  (fun K => (He.Fa.free "range").ok K),
  (fun K => (He.Fa.free "repr").ok K),
  (fun K => (He.Fa.free "str").ok K),
  (fun K => (He.Fa.free "tuple").ok K),
  (fun K => (He.Fa.free "zip").ok K),
  (fun K => (He.Fa.str "BOTH" "both").ok K),
  (fun K => (He.Fa.str "CALL" "call").ok K),
  (fun K => (He.Fa.int "GREATEST_NUMBER" 1000000000).ok K),
  (fun K => (He.Fa.int "LONGEST_LABEL" 8).ok K),
  (fun K => (He.Fa.int "MOST_DEPTH" 20).ok K),
  (fun K => (He.Fa.int "MOST_PARTS" 40).ok K),
  (fun K => (He.Fa.int "MOST_PAUSES" 5).ok K),
  (fun K => (He.Fa.str "RETRY" "retry").ok K),
  (fun K => (He.Fa.str "SIGNS" "abcdefghijklmnopqrstuvwxyz0123456789").ok K),
  (fun K => (He.Fa.int "SPAN_PARTS" 2).ok K),
  (fun K => (He.Fa.str "THEN" "then").ok K),
  (fun K => (He.Fa.str "TIMEOUT" "timeout").ok K),
  (fun K => (He.Fa.str "WAIT" "wait").ok K),
  (fun K => (He.Fa.cls "Desk").ok K),
  (fun K => (He.Fa.exc "NothingToUndo").ok K),
  (fun K => (He.Fa.glo "Desk").ok K),
  (fun K => (He.Fa.glo "InvalidPolicy").ok K),
  (fun K => (He.Fa.glo "NoPart").ok K),
  (fun K => (He.Fa.glo "NothingToUndo").ok K),
  (isB "Desk" ["Desk"] true),
  (fun K => decide (PySem.W.kitAny K (.type "tuple") [.ref (He.ga K "Desk")] = some false)),
  (fun K => (He.Fa.cls "Desk").ok K && isiCB "Desk" K),
  (fun K => (He.Fa.meth "Desk" "__eq__").ok K),
  (fun K => (He.Fa.meth "Desk" "become").ok K),
  (fun K => (He.Fa.meth "Desk" "changes").ok K),
  (fun K => (He.Fa.meth "Desk" "clone").ok K),
  (fun K => (He.Fa.meth "Desk" "mark").ok K),
  (fun K => (He.Fa.meth "Desk" "marked").ok K),
  (fun K => (He.Fa.meth "Desk" "present").ok K),
  (fun K => (He.Fa.meth "Desk" "put").ok K),
  (fun K => (He.Fa.meth "Desk" "set_number").ok K),
  (fun K => (He.Fa.meth "Desk" "undo").ok K),
  (fun K => (He.Fa.meth "Desk" "unwrap").ok K),
  (fun K => (He.Fa.meth "Desk" "wrap").ok K),
  (fun K => (He.Fa.mkr "Desk").ok K),
  (fun K => PySem.W.notFirst K (He.ga K "Desk") (.type "tuple")),
  (fun K => (He.Fa.noat "Desk" "earlier_pairs").ok K),
  (fun K => (He.Fa.noat "Desk" "marked_policy").ok K),
  (fun K => (He.Fa.noat "Desk" "shown_policy").ok K),
  sysB,
  (tabB "SIZES" [("call", 5), ("wait", 2), ("then", 3), ("fallback", 4), ("retry", 3), ("timeout", 3), ("race", 4), ("hedge", 4), ("both", 3)]),
  (tupB "NUMBERED" ["wait", "retry", "fallback", "timeout", "race", "hedge"]),
  (Cfvalue.txtB "InvalidPolicy"),
  (Cfvalue.txtB "NoPart")]
abbrev R : PySem.W.OpenRow := PySem.W.OpenLaw.row PySem.Challenge.rw_callpolicy_k61_copies_of_desks
def ts : List He.Tab := [(fun K => He.ga K "SIZES", ["call", "wait", "then", "fallback", "retry", "timeout", "race", "hedge", "both"])]
abbrev hk : PySem.W.Hook := hookXT 4 fa fn ts
def ob (s : PySem.W.SharedT) : AlX := obsXTG 4 fa fn ts (HandSHeadRun.getT s)
theorem ob_eq (s : PySem.W.SharedT) : ob s = hk.obs s.abs := obsXTG_eq (HandSHeadRun.getT_eq s)
def loose : List Str := "_wall" :: "PolicyError" :: "InvalidPolicy" :: "NoPart" :: "NothingToUndo" :: "CALL" :: "WAIT" :: "THEN" :: "FALLBACK" :: "RETRY" :: "TIMEOUT" :: "RACE" :: "HEDGE" :: "BOTH" :: "SIZES" :: "NUMBERED" :: "SIGNS" :: "LONGEST_LABEL" :: "GREATEST_NUMBER" :: "MOST_PAUSES" :: "MOST_PARTS" :: "MOST_DEPTH" :: "SPAN_PARTS" :: "is_label" :: "is_number" :: "is_span" :: "is_call" :: "has_number" :: "has_form" :: "inner" :: "is_policy" :: "is_index" :: "check_part" :: "part_at" :: "with_inner" :: "put_at" :: "check_policy" :: "replaced" :: "with_number" :: "Desk" :: "_law_urn" :: "_law_next" :: "_law_of" :: "_law_span" :: "_law_call" :: "_law_label" :: "_law_policy" :: "_law_grown" :: "_law_inner" :: "_law_all_paths" :: "_law_part" :: "_law_put" :: "_law_number" :: "_law_made" :: "_law_done" :: "_law_led" :: "_law_state" :: "_law_is_undone" :: "_law_right" :: "_law_many_right" :: ([] : List Str)
theorem run_f (w : World) : HandSHeadRun.RunEq R (PySem.W.view R.prog [64]) hk ob 4000 loose (setF w "special-get-raises" false) := by
  intro os
  kernel_rfl
theorem run_t (w : World) : HandSHeadRun.RunEq R (PySem.W.view R.prog [64]) hk ob 4000 loose (setF w "special-get-raises" true) := by
  intro os
  kernel_rfl
theorem run (w : World) : HandSHeadRun.RunEq R (PySem.W.view R.prog [64]) hk ob 4000 loose w := by
  intro os
  rw [← setF_eq w "special-get-raises"]
  generalize w.params.followText "special-get-raises" = b
  cases b
  · exact run_f w os
  · exact run_t w os
theorem facts {P : Program} {w : World} {K : PySem.W.Frag} {h : Heap} {mg : Str → Option Value} {f : Addr} (X : K.In h) (G : h.Ns mainGlobals mg) (hfa : mg ("law" : Str) = some (.ref f)) (cT : SaysXT fa fn ts w K) :
    ∃ fd : FuncData, (∀ (s : Shared) (v : Value), BindsTo s fd ⟨[v], []⟩ [("_law_script", v)]) ∧ ∀ base : Heap, K.In base → base.Ns mainGlobals mg → FnC P w K mg base 34 f fd ["_law_script"] sem_law := by
  have c := cT.x
  have m_abs : mg "abs" = none := He.free_ok X G (c.fact 38 (f := fun K => (He.Fa.free "abs").ok K) rfl)
  have m_all : mg "all" = none := He.free_ok X G (c.fact 39 (f := fun K => (He.Fa.free "all").ok K) rfl)
  have m_bool : mg "bool" = none := He.free_ok X G (c.fact 40 (f := fun K => (He.Fa.free "bool").ok K) rfl)
  have m_enumerate : mg "enumerate" = none := He.free_ok X G (c.fact 41 (f := fun K => (He.Fa.free "enumerate").ok K) rfl)
  have m_int : mg "int" = none := He.free_ok X G (c.fact 42 (f := fun K => (He.Fa.free "int").ok K) rfl)
  have m_isinstance : mg "isinstance" = none := He.free_ok X G (c.fact 43 (f := fun K => (He.Fa.free "isinstance").ok K) rfl)
  have m_len : mg "len" = none := He.free_ok X G (c.fact 44 (f := fun K => (He.Fa.free "len").ok K) rfl)
  have m_list : mg "list" = none := He.free_ok X G (c.fact 45 (f := fun K => (He.Fa.free "list").ok K) rfl)
  have m_max : mg "max" = none := He.free_ok X G (c.fact 46 (f := fun K => (He.Fa.free "max").ok K) rfl)
  have m_min : mg "min" = none := He.free_ok X G (c.fact 47 (f := fun K => (He.Fa.free "min").ok K) rfl)
  have m_range : mg "range" = none := He.free_ok X G (c.fact 48 (f := fun K => (He.Fa.free "range").ok K) rfl)
  have m_repr : mg "repr" = none := He.free_ok X G (c.fact 49 (f := fun K => (He.Fa.free "repr").ok K) rfl)
  have m_str : mg "str" = none := He.free_ok X G (c.fact 50 (f := fun K => (He.Fa.free "str").ok K) rfl)
  have m_tuple : mg "tuple" = none := He.free_ok X G (c.fact 51 (f := fun K => (He.Fa.free "tuple").ok K) rfl)
  have m_zip : mg "zip" = none := He.free_ok X G (c.fact 52 (f := fun K => (He.Fa.free "zip").ok K) rfl)
  have c_BOTH := He.str_ok X G (c.fact 53 (f := fun K => (He.Fa.str "BOTH" "both").ok K) rfl)
  have c_CALL := He.str_ok X G (c.fact 54 (f := fun K => (He.Fa.str "CALL" "call").ok K) rfl)
  have c_GREATEST_NUMBER := He.int_ok X G (c.fact 55 (f := fun K => (He.Fa.int "GREATEST_NUMBER" 1000000000).ok K) rfl)
  have c_LONGEST_LABEL := He.int_ok X G (c.fact 56 (f := fun K => (He.Fa.int "LONGEST_LABEL" 8).ok K) rfl)
  have c_MOST_DEPTH := He.int_ok X G (c.fact 57 (f := fun K => (He.Fa.int "MOST_DEPTH" 20).ok K) rfl)
  have c_MOST_PARTS := He.int_ok X G (c.fact 58 (f := fun K => (He.Fa.int "MOST_PARTS" 40).ok K) rfl)
  have c_MOST_PAUSES := He.int_ok X G (c.fact 59 (f := fun K => (He.Fa.int "MOST_PAUSES" 5).ok K) rfl)
  have c_RETRY := He.str_ok X G (c.fact 60 (f := fun K => (He.Fa.str "RETRY" "retry").ok K) rfl)
  have c_SIGNS := He.str_ok X G (c.fact 61 (f := fun K => (He.Fa.str "SIGNS" "abcdefghijklmnopqrstuvwxyz0123456789").ok K) rfl)
  have c_SPAN_PARTS := He.int_ok X G (c.fact 62 (f := fun K => (He.Fa.int "SPAN_PARTS" 2).ok K) rfl)
  have c_THEN := He.str_ok X G (c.fact 63 (f := fun K => (He.Fa.str "THEN" "then").ok K) rfl)
  have c_TIMEOUT := He.str_ok X G (c.fact 64 (f := fun K => (He.Fa.str "TIMEOUT" "timeout").ok K) rfl)
  have c_WAIT := He.str_ok X G (c.fact 65 (f := fun K => (He.Fa.str "WAIT" "wait").ok K) rfl)
  have cls_Desk : Cls K (He.ga K "Desk") := He.cls_ok (c.fact 66 (f := (fun K => (He.Fa.cls "Desk").ok K)) rfl)
  have exc_NothingToUndo : PySem.W.excIn K (He.ga K "NothingToUndo") He.veBase "ValueError.__new__" = true ∧ PySem.W.keepIn K (.ref (He.ga K "NothingToUndo")) = true ∧ PySem.W.subIn K (.ref (He.ga K "NothingToUndo")) (.type "BaseException") = some true ∧ PySem.W.typeIn K (.ref (He.ga K "NothingToUndo")) = some (.type "type") := He.exc_ok (c.fact 67 (f := (fun K => (He.Fa.exc "NothingToUndo").ok K)) rfl)
  have g_Desk : mg "Desk" = some (.ref (He.ga K "Desk")) := He.glo_ok X G (c.fact 68 (f := (fun K => (He.Fa.glo "Desk").ok K)) rfl)
  have g_InvalidPolicy : mg "InvalidPolicy" = some (.ref (He.ga K "InvalidPolicy")) := He.glo_ok X G (c.fact 69 (f := (fun K => (He.Fa.glo "InvalidPolicy").ok K)) rfl)
  have g_NoPart : mg "NoPart" = some (.ref (He.ga K "NoPart")) := He.glo_ok X G (c.fact 70 (f := (fun K => (He.Fa.glo "NoPart").ok K)) rfl)
  have g_NothingToUndo : mg "NothingToUndo" = some (.ref (He.ga K "NothingToUndo")) := He.glo_ok X G (c.fact 71 (f := (fun K => (He.Fa.glo "NothingToUndo").ok K)) rfl)
  have isS_Desk : PySem.W.kitAny K (.ref (He.ga K "Desk")) [.ref (He.ga K "Desk")] = some true := of_decide_eq_true (c.fact 72 (f := (isB "Desk" ["Desk"] true)) rfl)
  have isT_Desk : PySem.W.kitAny K (.type "tuple") [.ref (He.ga K "Desk")] = some false := of_decide_eq_true (c.fact 73 (f := (fun K => decide (PySem.W.kitAny K (.type "tuple") [.ref (He.ga K "Desk")] = some false))) rfl)
  have isic_Desk : IsiC K (He.ga K "Desk") := (isiCB_ok (He.cls_ok (He.ba (c.fact 74 (f := (fun K => (He.Fa.cls "Desk").ok K && isiCB "Desk" K)) rfl)).1) (He.ba (c.fact 74 (f := (fun K => (He.Fa.cls "Desk").ok K && isiCB "Desk" K)) rfl)).2)
  have meth_Desk___eq__ : Meth K (He.ga K "Desk") "__eq__" (He.ma K (He.ga K "Desk") "__eq__") := He.meth_ok (c.fact 75 (f := (fun K => (He.Fa.meth "Desk" "__eq__").ok K)) rfl)
  have meth_Desk_become : Meth K (He.ga K "Desk") "become" (He.ma K (He.ga K "Desk") "become") := He.meth_ok (c.fact 76 (f := (fun K => (He.Fa.meth "Desk" "become").ok K)) rfl)
  have meth_Desk_changes : Meth K (He.ga K "Desk") "changes" (He.ma K (He.ga K "Desk") "changes") := He.meth_ok (c.fact 77 (f := (fun K => (He.Fa.meth "Desk" "changes").ok K)) rfl)
  have meth_Desk_clone : Meth K (He.ga K "Desk") "clone" (He.ma K (He.ga K "Desk") "clone") := He.meth_ok (c.fact 78 (f := (fun K => (He.Fa.meth "Desk" "clone").ok K)) rfl)
  have meth_Desk_mark : Meth K (He.ga K "Desk") "mark" (He.ma K (He.ga K "Desk") "mark") := He.meth_ok (c.fact 79 (f := (fun K => (He.Fa.meth "Desk" "mark").ok K)) rfl)
  have meth_Desk_marked : Meth K (He.ga K "Desk") "marked" (He.ma K (He.ga K "Desk") "marked") := He.meth_ok (c.fact 80 (f := (fun K => (He.Fa.meth "Desk" "marked").ok K)) rfl)
  have meth_Desk_present : Meth K (He.ga K "Desk") "present" (He.ma K (He.ga K "Desk") "present") := He.meth_ok (c.fact 81 (f := (fun K => (He.Fa.meth "Desk" "present").ok K)) rfl)
  have meth_Desk_put : Meth K (He.ga K "Desk") "put" (He.ma K (He.ga K "Desk") "put") := He.meth_ok (c.fact 82 (f := (fun K => (He.Fa.meth "Desk" "put").ok K)) rfl)
  have meth_Desk_set_number : Meth K (He.ga K "Desk") "set_number" (He.ma K (He.ga K "Desk") "set_number") := He.meth_ok (c.fact 83 (f := (fun K => (He.Fa.meth "Desk" "set_number").ok K)) rfl)
  have meth_Desk_undo : Meth K (He.ga K "Desk") "undo" (He.ma K (He.ga K "Desk") "undo") := He.meth_ok (c.fact 84 (f := (fun K => (He.Fa.meth "Desk" "undo").ok K)) rfl)
  have meth_Desk_unwrap : Meth K (He.ga K "Desk") "unwrap" (He.ma K (He.ga K "Desk") "unwrap") := He.meth_ok (c.fact 85 (f := (fun K => (He.Fa.meth "Desk" "unwrap").ok K)) rfl)
  have meth_Desk_wrap : Meth K (He.ga K "Desk") "wrap" (He.ma K (He.ga K "Desk") "wrap") := He.meth_ok (c.fact 86 (f := (fun K => (He.Fa.meth "Desk" "wrap").ok K)) rfl)
  have mkr_Desk : Mk K (He.ga K "Desk") (He.ma K (He.ga K "Desk") "__init__") := He.mkr_ok (c.fact 87 (f := (fun K => (He.Fa.mkr "Desk").ok K)) rfl)
  have nf_Desk : PySem.W.notFirst K (He.ga K "Desk") (.type "tuple") = true := (c.fact 88 (f := (fun K => PySem.W.notFirst K (He.ga K "Desk") (.type "tuple"))) rfl)
  have noat_Desk_earlier_pairs : PySem.W.findIn K (.ref (He.ga K "Desk")) "earlier_pairs" = some none := He.noat_ok (c.fact 89 (f := (fun K => (He.Fa.noat "Desk" "earlier_pairs").ok K)) rfl)
  have noat_Desk_marked_policy : PySem.W.findIn K (.ref (He.ga K "Desk")) "marked_policy" = some none := He.noat_ok (c.fact 90 (f := (fun K => (He.Fa.noat "Desk" "marked_policy").ok K)) rfl)
  have noat_Desk_shown_policy : PySem.W.findIn K (.ref (He.ga K "Desk")) "shown_policy" = some none := He.noat_ok (c.fact 91 (f := (fun K => (He.Fa.noat "Desk" "shown_policy").ok K)) rfl)
  have sysK : SysK K := sysB_ok (c.fact 92 (f := sysB) rfl)
  have tab_SIZES : TabC K w mg "SIZES" [("call", 5), ("wait", 2), ("then", 3), ("fallback", 4), ("retry", 3), ("timeout", 3), ("race", 4), ("hedge", 4), ("both", 3)] := tabB_ok X G (c.fact 93 (f := (tabB "SIZES" [("call", 5), ("wait", 2), ("then", 3), ("fallback", 4), ("retry", 3), ("timeout", 3), ("race", 4), ("hedge", 4), ("both", 3)])) rfl) (cT.tab 0 (t := (fun K => He.ga K "SIZES", ["call", "wait", "then", "fallback", "retry", "timeout", "race", "hedge", "both"])) rfl)
  have tup_NUMBERED : TupC K mg "NUMBERED" ["wait", "retry", "fallback", "timeout", "race", "hedge"] := tupB_ok X G (c.fact 94 (f := (tupB "NUMBERED" ["wait", "retry", "fallback", "timeout", "race", "hedge"])) rfl)
  have txt_InvalidPolicy : Cfvalue.Txt K (He.ga K "InvalidPolicy") (He.ma K (He.ga K "InvalidPolicy") "__init__") "InvalidPolicy.__init__" := (by obtain ⟨fd, F⟩ := c.def_ 38 (d := di_InvalidPolicy) rfl; exact Cfvalue.txt_ok (c.fact 95 (f := (Cfvalue.txtB "InvalidPolicy")) rfl) F)
  have txt_NoPart : Cfvalue.Txt K (He.ga K "NoPart") (He.ma K (He.ga K "NoPart") "__init__") "NoPart.__init__" := (by obtain ⟨fd, F⟩ := c.def_ 39 (d := di_NoPart) rfl; exact Cfvalue.txt_ok (c.fact 96 (f := (Cfvalue.txtB "NoPart")) rfl) F)
  have D__wall : Df K mg "_wall" st__wall := by obtain ⟨fd, F⟩ := c.def_ 0 (d := d__wall) rfl; exact ⟨_, fd, F, He.glo_ok X G (c.fact 0 (f := fun K => (He.Fa.glo "_wall").ok K) rfl)⟩
  have D_is_label : Df K mg "is_label" st_is_label := by obtain ⟨fd, F⟩ := c.def_ 1 (d := d_is_label) rfl; exact ⟨_, fd, F, He.glo_ok X G (c.fact 1 (f := fun K => (He.Fa.glo "is_label").ok K) rfl)⟩
  have D_is_number : Df K mg "is_number" st_is_number := by obtain ⟨fd, F⟩ := c.def_ 2 (d := d_is_number) rfl; exact ⟨_, fd, F, He.glo_ok X G (c.fact 2 (f := fun K => (He.Fa.glo "is_number").ok K) rfl)⟩
  have D_is_span : Df K mg "is_span" st_is_span := by obtain ⟨fd, F⟩ := c.def_ 3 (d := d_is_span) rfl; exact ⟨_, fd, F, He.glo_ok X G (c.fact 3 (f := fun K => (He.Fa.glo "is_span").ok K) rfl)⟩
  have D_is_call : Df K mg "is_call" st_is_call := by obtain ⟨fd, F⟩ := c.def_ 4 (d := d_is_call) rfl; exact ⟨_, fd, F, He.glo_ok X G (c.fact 4 (f := fun K => (He.Fa.glo "is_call").ok K) rfl)⟩
  have D_has_number : Df K mg "has_number" st_has_number := by obtain ⟨fd, F⟩ := c.def_ 5 (d := d_has_number) rfl; exact ⟨_, fd, F, He.glo_ok X G (c.fact 5 (f := fun K => (He.Fa.glo "has_number").ok K) rfl)⟩
  have D_has_form : Df K mg "has_form" st_has_form := by obtain ⟨fd, F⟩ := c.def_ 6 (d := d_has_form) rfl; exact ⟨_, fd, F, He.glo_ok X G (c.fact 6 (f := fun K => (He.Fa.glo "has_form").ok K) rfl)⟩
  have D_inner : Df K mg "inner" st_inner := by obtain ⟨fd, F⟩ := c.def_ 7 (d := d_inner) rfl; exact ⟨_, fd, F, He.glo_ok X G (c.fact 7 (f := fun K => (He.Fa.glo "inner").ok K) rfl)⟩
  have D_is_policy : Df K mg "is_policy" st_is_policy := by obtain ⟨fd, F⟩ := c.def_ 8 (d := d_is_policy) rfl; exact ⟨_, fd, F, He.glo_ok X G (c.fact 8 (f := fun K => (He.Fa.glo "is_policy").ok K) rfl)⟩
  have D_is_index : Df K mg "is_index" st_is_index := by obtain ⟨fd, F⟩ := c.def_ 9 (d := d_is_index) rfl; exact ⟨_, fd, F, He.glo_ok X G (c.fact 9 (f := fun K => (He.Fa.glo "is_index").ok K) rfl)⟩
  have D_check_part : Df K mg "check_part" st_check_part := by obtain ⟨fd, F⟩ := c.def_ 10 (d := d_check_part) rfl; exact ⟨_, fd, F, He.glo_ok X G (c.fact 10 (f := fun K => (He.Fa.glo "check_part").ok K) rfl)⟩
  have D_part_at : Df K mg "part_at" st_part_at := by obtain ⟨fd, F⟩ := c.def_ 11 (d := d_part_at) rfl; exact ⟨_, fd, F, He.glo_ok X G (c.fact 11 (f := fun K => (He.Fa.glo "part_at").ok K) rfl)⟩
  have D_with_inner : Df K mg "with_inner" st_with_inner := by obtain ⟨fd, F⟩ := c.def_ 12 (d := d_with_inner) rfl; exact ⟨_, fd, F, He.glo_ok X G (c.fact 12 (f := fun K => (He.Fa.glo "with_inner").ok K) rfl)⟩
  have D_put_at : Df K mg "put_at" st_put_at := by obtain ⟨fd, F⟩ := c.def_ 13 (d := d_put_at) rfl; exact ⟨_, fd, F, He.glo_ok X G (c.fact 13 (f := fun K => (He.Fa.glo "put_at").ok K) rfl)⟩
  have D_check_policy : Df K mg "check_policy" st_check_policy := by obtain ⟨fd, F⟩ := c.def_ 14 (d := d_check_policy) rfl; exact ⟨_, fd, F, He.glo_ok X G (c.fact 14 (f := fun K => (He.Fa.glo "check_policy").ok K) rfl)⟩
  have D_replaced : Df K mg "replaced" st_replaced := by obtain ⟨fd, F⟩ := c.def_ 15 (d := d_replaced) rfl; exact ⟨_, fd, F, He.glo_ok X G (c.fact 15 (f := fun K => (He.Fa.glo "replaced").ok K) rfl)⟩
  have D_with_number : Df K mg "with_number" st_with_number := by obtain ⟨fd, F⟩ := c.def_ 16 (d := d_with_number) rfl; exact ⟨_, fd, F, He.glo_ok X G (c.fact 16 (f := fun K => (He.Fa.glo "with_number").ok K) rfl)⟩
  have D__law_urn : Df K mg "_law_urn" st__law_urn := by obtain ⟨fd, F⟩ := c.def_ 17 (d := d__law_urn) rfl; exact ⟨_, fd, F, He.glo_ok X G (c.fact 17 (f := fun K => (He.Fa.glo "_law_urn").ok K) rfl)⟩
  have D__law_next : Df K mg "_law_next" st__law_next := by obtain ⟨fd, F⟩ := c.def_ 18 (d := d__law_next) rfl; exact ⟨_, fd, F, He.glo_ok X G (c.fact 18 (f := fun K => (He.Fa.glo "_law_next").ok K) rfl)⟩
  have D__law_of : Df K mg "_law_of" st__law_of := by obtain ⟨fd, F⟩ := c.def_ 19 (d := d__law_of) rfl; exact ⟨_, fd, F, He.glo_ok X G (c.fact 19 (f := fun K => (He.Fa.glo "_law_of").ok K) rfl)⟩
  have D__law_span : Df K mg "_law_span" st__law_span := by obtain ⟨fd, F⟩ := c.def_ 20 (d := d__law_span) rfl; exact ⟨_, fd, F, He.glo_ok X G (c.fact 20 (f := fun K => (He.Fa.glo "_law_span").ok K) rfl)⟩
  have D__law_call : Df K mg "_law_call" st__law_call := by obtain ⟨fd, F⟩ := c.def_ 21 (d := d__law_call) rfl; exact ⟨_, fd, F, He.glo_ok X G (c.fact 21 (f := fun K => (He.Fa.glo "_law_call").ok K) rfl)⟩
  have D__law_label : Df K mg "_law_label" st__law_label := by obtain ⟨fd, F⟩ := c.def_ 22 (d := d__law_label) rfl; exact ⟨_, fd, F, He.glo_ok X G (c.fact 22 (f := fun K => (He.Fa.glo "_law_label").ok K) rfl)⟩
  have D__law_policy : Df K mg "_law_policy" st__law_policy := by obtain ⟨fd, F⟩ := c.def_ 23 (d := d__law_policy) rfl; exact ⟨_, fd, F, He.glo_ok X G (c.fact 23 (f := fun K => (He.Fa.glo "_law_policy").ok K) rfl)⟩
  have D__law_grown : Df K mg "_law_grown" st__law_grown := by obtain ⟨fd, F⟩ := c.def_ 24 (d := d__law_grown) rfl; exact ⟨_, fd, F, He.glo_ok X G (c.fact 24 (f := fun K => (He.Fa.glo "_law_grown").ok K) rfl)⟩
  have D__law_inner : Df K mg "_law_inner" st__law_inner := by obtain ⟨fd, F⟩ := c.def_ 25 (d := d__law_inner) rfl; exact ⟨_, fd, F, He.glo_ok X G (c.fact 25 (f := fun K => (He.Fa.glo "_law_inner").ok K) rfl)⟩
  have D__law_all_paths : Df K mg "_law_all_paths" st__law_all_paths := by obtain ⟨fd, F⟩ := c.def_ 26 (d := d__law_all_paths) rfl; exact ⟨_, fd, F, He.glo_ok X G (c.fact 26 (f := fun K => (He.Fa.glo "_law_all_paths").ok K) rfl)⟩
  have D__law_part : Df K mg "_law_part" st__law_part := by obtain ⟨fd, F⟩ := c.def_ 27 (d := d__law_part) rfl; exact ⟨_, fd, F, He.glo_ok X G (c.fact 27 (f := fun K => (He.Fa.glo "_law_part").ok K) rfl)⟩
  have D__law_put : Df K mg "_law_put" st__law_put := by obtain ⟨fd, F⟩ := c.def_ 28 (d := d__law_put) rfl; exact ⟨_, fd, F, He.glo_ok X G (c.fact 28 (f := fun K => (He.Fa.glo "_law_put").ok K) rfl)⟩
  have D__law_number : Df K mg "_law_number" st__law_number := by obtain ⟨fd, F⟩ := c.def_ 29 (d := d__law_number) rfl; exact ⟨_, fd, F, He.glo_ok X G (c.fact 29 (f := fun K => (He.Fa.glo "_law_number").ok K) rfl)⟩
  have D__law_made : Df K mg "_law_made" st__law_made := by obtain ⟨fd, F⟩ := c.def_ 30 (d := d__law_made) rfl; exact ⟨_, fd, F, He.glo_ok X G (c.fact 30 (f := fun K => (He.Fa.glo "_law_made").ok K) rfl)⟩
  have D__law_done : Df K mg "_law_done" st__law_done := by obtain ⟨fd, F⟩ := c.def_ 31 (d := d__law_done) rfl; exact ⟨_, fd, F, He.glo_ok X G (c.fact 31 (f := fun K => (He.Fa.glo "_law_done").ok K) rfl)⟩
  have D__law_led : Df K mg "_law_led" st__law_led := by obtain ⟨fd, F⟩ := c.def_ 32 (d := d__law_led) rfl; exact ⟨_, fd, F, He.glo_ok X G (c.fact 32 (f := fun K => (He.Fa.glo "_law_led").ok K) rfl)⟩
  have D__law_state : Df K mg "_law_state" st__law_state := by obtain ⟨fd, F⟩ := c.def_ 33 (d := d__law_state) rfl; exact ⟨_, fd, F, He.glo_ok X G (c.fact 33 (f := fun K => (He.Fa.glo "_law_state").ok K) rfl)⟩
  have D__law_is_undone : Df K mg "_law_is_undone" st__law_is_undone := by obtain ⟨fd, F⟩ := c.def_ 34 (d := d__law_is_undone) rfl; exact ⟨_, fd, F, He.glo_ok X G (c.fact 34 (f := fun K => (He.Fa.glo "_law_is_undone").ok K) rfl)⟩
  have D__law_right : Df K mg "_law_right" st__law_right := by obtain ⟨fd, F⟩ := c.def_ 35 (d := d__law_right) rfl; exact ⟨_, fd, F, He.glo_ok X G (c.fact 35 (f := fun K => (He.Fa.glo "_law_right").ok K) rfl)⟩
  have D__law_many_right : Df K mg "_law_many_right" st__law_many_right := by obtain ⟨fd, F⟩ := c.def_ 36 (d := d__law_many_right) rfl; exact ⟨_, fd, F, He.glo_ok X G (c.fact 36 (f := fun K => (He.Fa.glo "_law_many_right").ok K) rfl)⟩
  have D_Desk___init__ : DfI K mg "Desk" "Desk.__init__" st_Desk___init__ := by obtain ⟨fd, F⟩ := c.def_ 40 (d := d_Desk___init__) rfl; exact ⟨g_Desk, fd, F, mkr_Desk⟩
  have D_Desk___eq__ : DfM K "Desk" "__eq__" "Desk.__eq__" st_Desk___eq__ := by obtain ⟨fd, F⟩ := c.def_ 41 (d := d_Desk___eq__) rfl; exact ⟨cls_Desk, fd, F, meth_Desk___eq__⟩
  have D_Desk_become : DfM K "Desk" "become" "Desk.become" st_Desk_become := by obtain ⟨fd, F⟩ := c.def_ 42 (d := d_Desk_become) rfl; exact ⟨cls_Desk, fd, F, meth_Desk_become⟩
  have D_Desk_set_number : DfM K "Desk" "set_number" "Desk.set_number" st_Desk_set_number := by obtain ⟨fd, F⟩ := c.def_ 43 (d := d_Desk_set_number) rfl; exact ⟨cls_Desk, fd, F, meth_Desk_set_number⟩
  have D_Desk_put : DfM K "Desk" "put" "Desk.put" st_Desk_put := by obtain ⟨fd, F⟩ := c.def_ 44 (d := d_Desk_put) rfl; exact ⟨cls_Desk, fd, F, meth_Desk_put⟩
  have D_Desk_wrap : DfM K "Desk" "wrap" "Desk.wrap" st_Desk_wrap := by obtain ⟨fd, F⟩ := c.def_ 45 (d := d_Desk_wrap) rfl; exact ⟨cls_Desk, fd, F, meth_Desk_wrap⟩
  have D_Desk_unwrap : DfM K "Desk" "unwrap" "Desk.unwrap" st_Desk_unwrap := by obtain ⟨fd, F⟩ := c.def_ 46 (d := d_Desk_unwrap) rfl; exact ⟨cls_Desk, fd, F, meth_Desk_unwrap⟩
  have D_Desk_mark : DfM K "Desk" "mark" "Desk.mark" st_Desk_mark := by obtain ⟨fd, F⟩ := c.def_ 47 (d := d_Desk_mark) rfl; exact ⟨cls_Desk, fd, F, meth_Desk_mark⟩
  have D_Desk_undo : DfM K "Desk" "undo" "Desk.undo" st_Desk_undo := by obtain ⟨fd, F⟩ := c.def_ 48 (d := d_Desk_undo) rfl; exact ⟨cls_Desk, fd, F, meth_Desk_undo⟩
  have D_Desk_present : DfM K "Desk" "present" "Desk.present" st_Desk_present := by obtain ⟨fd, F⟩ := c.def_ 49 (d := d_Desk_present) rfl; exact ⟨cls_Desk, fd, F, meth_Desk_present⟩
  have D_Desk_marked : DfM K "Desk" "marked" "Desk.marked" st_Desk_marked := by obtain ⟨fd, F⟩ := c.def_ 50 (d := d_Desk_marked) rfl; exact ⟨cls_Desk, fd, F, meth_Desk_marked⟩
  have D_Desk_changes : DfM K "Desk" "changes" "Desk.changes" st_Desk_changes := by obtain ⟨fd, F⟩ := c.def_ 51 (d := d_Desk_changes) rfl; exact ⟨cls_Desk, fd, F, meth_Desk_changes⟩
  have D_Desk_clone : DfM K "Desk" "clone" "Desk.clone" st_Desk_clone := by obtain ⟨fd, F⟩ := c.def_ 52 (d := d_Desk_clone) rfl; exact ⟨cls_Desk, fd, F, meth_Desk_clone⟩
  obtain ⟨fdL, FL⟩ := c.def_ 37 (d := d_law) rfl
  have e := hfa.symm.trans (He.glo_ok X G (c.fact 37 (f := fun K => (He.Fa.glo "law").ok K) rfl))
  cases e
  refine ⟨fdL, fun s v => FunD.bindsA (ps := ["_law_script"]) FL (fun _ _ _ _ _ _ us hl => match us, hl with | [_], _ => rfl) s [v] rfl, fun base _ _ => ?_⟩
  have G__wall := kn__wall (P := P) (w := w) (mg := mg) (base := base) D__wall
  have G_is_label := kn_is_label (P := P) (w := w) (mg := mg) (base := base) D_is_label m_all m_isinstance m_len m_str c_LONGEST_LABEL c_SIGNS
  have G_is_number := kn_is_number (P := P) (w := w) (mg := mg) (base := base) D_is_number m_bool m_int m_isinstance c_GREATEST_NUMBER
  have G_inner := kn_inner (P := P) (w := w) (mg := mg) (base := base) D_inner c_BOTH c_CALL c_THEN c_WAIT
  have G_is_index := kn_is_index (P := P) (w := w) (mg := mg) (base := base) D_is_index m_bool m_int m_isinstance
  have G_with_inner := kn_with_inner (P := P) (w := w) (mg := mg) (base := base) D_with_inner m_len m_tuple
  have G_Desk___eq__ := kn_Desk___eq__ (P := P) (w := w) (mg := mg) (base := base) D_Desk___eq__ m_isinstance cls_Desk g_Desk isS_Desk isT_Desk isic_Desk noat_Desk_marked_policy noat_Desk_shown_policy
  have G_Desk_become := kn_Desk_become (P := P) (w := w) (mg := mg) (base := base) D_Desk_become cls_Desk noat_Desk_earlier_pairs noat_Desk_marked_policy noat_Desk_shown_policy
  have G_Desk_undo := kn_Desk_undo (P := P) (w := w) (mg := mg) (base := base) D_Desk_undo cls_Desk exc_NothingToUndo g_NothingToUndo noat_Desk_earlier_pairs noat_Desk_marked_policy noat_Desk_shown_policy
  have G_Desk_present := kn_Desk_present (P := P) (w := w) (mg := mg) (base := base) D_Desk_present cls_Desk noat_Desk_shown_policy
  have G_Desk_marked := kn_Desk_marked (P := P) (w := w) (mg := mg) (base := base) D_Desk_marked cls_Desk noat_Desk_marked_policy
  have G_Desk_changes := kn_Desk_changes (P := P) (w := w) (mg := mg) (base := base) D_Desk_changes m_len cls_Desk noat_Desk_earlier_pairs
  have G__law_urn := kn__law_urn (P := P) (w := w) (mg := mg) (base := base) D__law_urn m_abs m_int m_len
  have G__law_next := kn__law_next (P := P) (w := w) (mg := mg) (base := base) D__law_next
  have G__law_label := kn__law_label (P := P) (w := w) (mg := mg) (base := base) D__law_label m_int
  have G__law_inner := kn__law_inner (P := P) (w := w) (mg := mg) (base := base) D__law_inner
  have G_is_span := kn_is_span (P := P) (w := w) (mg := mg) (base := base) D_is_span G_is_number m_all m_isinstance m_len m_tuple c_SPAN_PARTS
  have G_has_number := kn_has_number (P := P) (w := w) (mg := mg) (base := base) D_has_number G_is_number m_all m_isinstance m_len m_tuple c_MOST_PAUSES c_RETRY c_WAIT
  have G_check_part := kn_check_part (P := P) (w := w) (mg := mg) (base := base) D_check_part G_inner G_is_index m_isinstance m_len m_tuple g_NoPart txt_NoPart
  have G_Desk_mark := kn_Desk_mark (P := P) (w := w) (mg := mg) (base := base) D_Desk_mark G_Desk_become cls_Desk noat_Desk_shown_policy
  have G__law_of := kn__law_of (P := P) (w := w) (mg := mg) (base := base) D__law_of G__law_next m_len
  have G__law_span := kn__law_span (P := P) (w := w) (mg := mg) (base := base) D__law_span G__law_next m_min
  have G__law_part := kn__law_part (P := P) (w := w) (mg := mg) (base := base) D__law_part G__law_inner
  have G__law_state := kn__law_state (P := P) (w := w) (mg := mg) (base := base) D__law_state G_Desk_marked G_Desk_present
  have G_is_call := kn_is_call (P := P) (w := w) (mg := mg) (base := base) D_is_call G_is_label G_is_span m_all m_bool m_isinstance
  have G_part_at := kn_part_at (P := P) (w := w) (mg := mg) (base := base) D_part_at G_check_part G_inner
  have G__law_call := kn__law_call (P := P) (w := w) (mg := mg) (base := base) D__law_call G__law_next G__law_span
  have G__law_number := kn__law_number (P := P) (w := w) (mg := mg) (base := base) D__law_number G__law_next G__law_of m_range m_tuple
  have G__law_is_undone := kn__law_is_undone (P := P) (w := w) (mg := mg) (base := base) D__law_is_undone G_Desk_changes G_Desk_undo G__law_state m_repr sysK
  have G_has_form := kn_has_form (P := P) (w := w) (mg := mg) (base := base) D_has_form G_has_number G_is_call m_isinstance m_len m_str m_tuple c_CALL tab_SIZES tup_NUMBERED
  have G_is_policy := kn_is_policy (P := P) (w := w) (mg := mg) (base := base) D_is_policy G_has_form G_inner c_CALL c_MOST_DEPTH c_MOST_PARTS
  have G_check_policy := kn_check_policy (P := P) (w := w) (mg := mg) (base := base) D_check_policy G_is_policy g_InvalidPolicy txt_InvalidPolicy
  have G_Desk___init__ := kn_Desk___init__ (P := P) (w := w) (mg := mg) (base := base) D_Desk___init__ G_is_policy cls_Desk g_InvalidPolicy noat_Desk_earlier_pairs noat_Desk_marked_policy noat_Desk_shown_policy txt_InvalidPolicy
  have G_Desk_clone := kn_Desk_clone (P := P) (w := w) (mg := mg) (base := base) D_Desk_clone G_Desk___init__ m_list cls_Desk noat_Desk_earlier_pairs noat_Desk_marked_policy noat_Desk_shown_policy
  have G__law_grown := kn__law_grown (P := P) (w := w) (mg := mg) (base := base) D__law_grown G__law_call G__law_label G__law_next G__law_of m_range m_tuple
  have G__law_policy := kn__law_policy (P := P) (w := w) (mg := mg) (base := base) D__law_policy G__law_grown G__law_of
  have G_put_at := kn_put_at (P := P) (w := w) (mg := mg) (base := base) D_put_at G_inner G_with_inner m_list
  have G__law_all_paths := kn__law_all_paths (P := P) (w := w) (mg := mg) (base := base) D__law_all_paths G__law_inner m_enumerate
  have G__law_put := kn__law_put (P := P) (w := w) (mg := mg) (base := base) D__law_put G__law_inner m_len m_list m_tuple
  have G_replaced := kn_replaced (P := P) (w := w) (mg := mg) (base := base) D_replaced G_check_part G_check_policy G_put_at
  have G__law_made := kn__law_made (P := P) (w := w) (mg := mg) (base := base) D__law_made G__law_all_paths G__law_next G__law_number G__law_of G__law_part G__law_put m_str
  have G_with_number := kn_with_number (P := P) (w := w) (mg := mg) (base := base) D_with_number G_part_at G_replaced g_NoPart tup_NUMBERED txt_NoPart
  have G_Desk_put := kn_Desk_put (P := P) (w := w) (mg := mg) (base := base) D_Desk_put G_Desk_become G_replaced cls_Desk noat_Desk_marked_policy noat_Desk_shown_policy
  have G_Desk_wrap := kn_Desk_wrap (P := P) (w := w) (mg := mg) (base := base) D_Desk_wrap G_Desk_become G_part_at G_replaced c_TIMEOUT cls_Desk noat_Desk_marked_policy noat_Desk_shown_policy
  have G_Desk_unwrap := kn_Desk_unwrap (P := P) (w := w) (mg := mg) (base := base) D_Desk_unwrap G_Desk_become G_part_at G_replaced c_TIMEOUT cls_Desk g_NoPart noat_Desk_marked_policy noat_Desk_shown_policy txt_NoPart
  have G_Desk_set_number := kn_Desk_set_number (P := P) (w := w) (mg := mg) (base := base) D_Desk_set_number G_Desk_become G_with_number cls_Desk noat_Desk_marked_policy noat_Desk_shown_policy
  have G__law_done := kn__law_done (P := P) (w := w) (mg := mg) (base := base) D__law_done G_Desk_put G_Desk_set_number G_Desk_unwrap G_Desk_wrap
  have G__law_many_right := kn__law_many_right (P := P) (w := w) (mg := mg) (base := base) D__law_many_right G_Desk___init__ G_Desk_changes G_Desk_mark G_Desk_set_number G__law_is_undone G__law_next G__law_state m_len m_range
  have G__law_led := kn__law_led (P := P) (w := w) (mg := mg) (base := base) D__law_led G_Desk_changes G_Desk_mark G_Desk_present G_Desk_undo G__law_done G__law_made G__law_next G__law_state m_range
  have G__law_right := kn__law_right (P := P) (w := w) (mg := mg) (base := base) D__law_right G_Desk___eq__ G_Desk___init__ G_Desk_changes G_Desk_clone G__law_is_undone G__law_led G__law_policy G__law_state m_all m_len m_repr m_zip nf_Desk sysK
  have G_law := fn_law (P := P) (w := w) (mg := mg) (base := base) FL G__law_many_right G__law_right G__law_urn m_all m_len m_max m_min m_range
  exact G_law
end K61
open PySem PySem.W PySem.Calls PyProof.Rows in
theorem K61.holds_of (hsem : ∀ ns : List Int, ns.length ≤ 63 → ∃ st, K61.sem_law [.s ns] [Cp.heapC []] = .ok (.d (.bool true)) st) : PySem.Challenge.rw_callpolicy_k61_copies_of_desks.Holds := by
  w_on; o_law
  refine HandSHeadRun.head_any (r := OpenLaw.row PySem.Challenge.rw_callpolicy_k61_copies_of_desks) (q := view (OpenLaw.row PySem.Challenge.rw_callpolicy_k61_copies_of_desks).prog [64]) (H := K61.hk) (ob := K61.ob) (M := 4000) (loose := K61.loose) (d := HandSHeadRun.topDef (OpenLaw.row PySem.Challenge.rw_callpolicy_k61_copies_of_desks).prog 64) (kwd := []) K61.ob_eq
    (by kernel_rfl) (fun s => by kernel_rfl) K61.run (by kernel_rfl) (by kernel_rfl) (by kernel_rfl) (by rfl) (by first | assumption | decide +kernel) (by decide +kernel) ⟨rfl, rfl, rfl, rfl, rfl, by decide +kernel⟩ ?hw ?hc
  case hw => w_witness2
  case hc =>
    refine Cp.law_walkE (l := PySem.Challenge.rw_callpolicy_k61_copies_of_desks) (n := 63) (k := 34) (x := "_law_script") (sem := K61.sem_law) rfl (by decide) (by kernel_rfl) (Cp.law_room (by decide)) ?F hsem
    intro w mg fa h Y G hmg0
    obtain ⟨K, KX, c⟩ := Y
    have hmg : mg ("law" : PySem.Str) = some (.ref fa) := by
      have e : (HandSHeadRun.topDef (OpenLaw.row PySem.Challenge.rw_callpolicy_k61_copies_of_desks).prog 64).name = ("law" : PySem.Str) := by kernel_rfl
      rw [← e]
      exact hmg0
    obtain ⟨fd, hb, hF⟩ := K61.facts (P := (PySem.Challenge.rw_callpolicy_k61_copies_of_desks).prog) (w := w) KX G hmg c
    exact ⟨K, fd, KX, hb, hF⟩
namespace K61
open PySem L2 Cp
theorem eU : sem__law_urn = semU_urn := rfl
theorem eN : sem__law_next = semU_next := rfl
theorem eO : sem__law_of = semU_of := rfl
theorem eGr : ∀ n, sem__law_grown n = semP_grown n
  | 0 => rfl
  | n + 1 => by show bodyF 11 4 (sb__law_grown (sem__law_grown n)) = bodyF 11 4 (sbP_grown (semP_grown n)); rw [eGr n]; all_goals rfl
theorem ePo : sem__law_policy = semP_policy := by unfold sem__law_policy sb__law_policy; rw [eGr]; all_goals rfl
theorem eLp : ∀ n, sem__law_put n = semS_lput n
  | 0 => rfl
  | n + 1 => by show bodyF 4 3 (sb__law_put (sem__law_put n)) = bodyF 4 3 (sbS_lput (semS_lput n)); rw [eLp n]; all_goals rfl
theorem eAp : ∀ n, sem__law_all_paths n = semS_all_paths n
  | 0 => rfl
  | n + 1 => by show bodyF 5 1 (sb__law_all_paths (sem__law_all_paths n)) = bodyF 5 1 (sbS_all_paths (semS_all_paths n)); rw [eAp n]; all_goals rfl
theorem ePt : sem__law_part = semS_part := rfl
theorem ePu : ∀ n, sem_put_at n = semS_put_at n
  | 0 => rfl
  | n + 1 => by show bodyF 4 3 (sb_put_at (sem_put_at n)) = bodyF 4 3 (sbS_put_at (semS_put_at n)); rw [ePu n]; all_goals rfl
theorem eRe : sem_replaced = semS_replaced := by unfold sem_replaced sb_replaced; rw [ePu]; all_goals rfl
theorem eWn : sem_with_number = semS_with_number := by unfold sem_with_number sb_with_number; rw [eRe]; all_goals rfl
theorem eIp : sem_is_policy = semS_is_policy := rfl
theorem ePr : sem_part_at = semS_part_at := rfl
def dkF (p m : PyData) (e : Nat) : List (Str × Fv) := [(Str.ofString "shown_policy", .d p), (Str.ofString "marked_policy", .d m), (Str.ofString "earlier_pairs", .ob e)]
structure DkAt (O : List Ho) (st : Sto) (j e : Nat) (p m : PyData) (xs : List PyData) : Prop where
  i : insAt st j "Desk" = some (dkF p m e)
  l : olAt st e = some (xs.map Fv.d)
  fr : ∀ k, k ≠ j → k ≠ e → (objsOf st)[k]? = O[k]?
  ln : (objsOf st).length = O.length
section
variable {O : List Ho} {st : Sto} {P : Rv → Sto → Prop} {E : Er → Sto → Prop} {j e : Nat} {p m : PyData} {xs : List PyData}
theorem DkAt.pos (h : DkAt O st j e p m xs) : 0 < st.length := objsOf_pos (insAt_get h.i)
theorem DkAt.ne (h : DkAt O st j e p m xs) : j ≠ e := ob_ne h.i h.l
@[simp] theorem lk1 : (dkF p m e).lookup (Str.ofString "shown_policy") = some (.d p) := rfl
@[simp] theorem lk2 : (dkF p m e).lookup (Str.ofString "marked_policy") = some (.d m) := rfl
@[simp] theorem lk3 : (dkF p m e).lookup (Str.ofString "earlier_pairs") = some (.ob e) := rfl
@[simp] theorem pt1 (a : PyData) : putFv (Str.ofString "shown_policy") (.d a) (dkF p m e) = dkF a m e := rfl
@[simp] theorem pt2 (a : PyData) : putFv (Str.ofString "marked_policy") (.d a) (dkF p m e) = dkF p a e := rfl
@[simp] theorem lm1 : (dkF p m e).lookup (Str.ofString "become") = none := rfl
@[simp] theorem lm2 : (dkF p m e).lookup (Str.ofString "set_number") = none := rfl
@[simp] theorem lm3 : (dkF p m e).lookup (Str.ofString "put") = none := rfl
@[simp] theorem lm4 : (dkF p m e).lookup (Str.ofString "wrap") = none := rfl
@[simp] theorem lm5 : (dkF p m e).lookup (Str.ofString "unwrap") = none := rfl
@[simp] theorem lm6 : (dkF p m e).lookup (Str.ofString "mark") = none := rfl
@[simp] theorem lm7 : (dkF p m e).lookup (Str.ofString "undo") = none := rfl
@[simp] theorem lm8 : (dkF p m e).lookup (Str.ofString "present") = none := rfl
@[simp] theorem lm9 : (dkF p m e).lookup (Str.ofString "marked") = none := rfl
@[simp] theorem lm10 : (dkF p m e).lookup (Str.ofString "changes") = none := rfl
@[simp] theorem ln1 : (dkF p m e).length = 3 := rfl
theorem DkAt.set (h : DkAt O st j e p m xs) {i : Nat} (hi : i ≠ 0) (c : Cl) : DkAt O (st.set i c) j e p m xs :=
  ⟨insAt_of (by rw [objsOf_set hi]; exact insAt_get h.i), olAt_of (by rw [objsOf_set hi]; exact olAt_get h.l), by rw [objsOf_set hi]; exact h.fr, by rw [objsOf_set hi]; exact h.ln⟩
theorem DkAt.app (h : DkAt O st j e p m xs) (t : Sto) : DkAt O (st ++ t) j e p m xs :=
  ⟨insAt_of (by rw [objsOf_app h.pos]; exact insAt_get h.i), olAt_of (by rw [objsOf_app h.pos]; exact olAt_get h.l), by rw [objsOf_app h.pos]; exact h.fr, by rw [objsOf_app h.pos]; exact h.ln⟩
theorem DkAt.tk (h : DkAt O st j e p m xs) {n : Nat} (hn : 0 < n) : DkAt O (st.take n) j e p m xs :=
  ⟨insAt_of (by rw [objsOf_take hn]; exact insAt_get h.i), olAt_of (by rw [objsOf_take hn]; exact olAt_get h.l), by rw [objsOf_take hn]; exact h.fr, by rw [objsOf_take hn]; exact h.ln⟩
theorem DkAt.shown (h : DkAt O st j e p m xs) (a : PyData) : DkAt O (putO st j (.ins "Desk" (dkF a m e))) j e a m xs :=
  ⟨insAt_put h.i, by rw [olAt_put_ne h.pos h.ne]; exact h.l, fun k k1 k2 => by rw [objsOf_put h.pos, List.getElem?_set_ne (Ne.symm k1)]; exact h.fr k k1 k2, by rw [objsOf_put h.pos, List.length_set]; exact h.ln⟩
theorem DkAt.marked (h : DkAt O st j e p m xs) (a : PyData) : DkAt O (putO st j (.ins "Desk" (dkF p a e))) j e p a xs :=
  ⟨insAt_put h.i, by rw [olAt_put_ne h.pos h.ne]; exact h.l, fun k k1 k2 => by rw [objsOf_put h.pos, List.getElem?_set_ne (Ne.symm k1)]; exact h.fr k k1 k2, by rw [objsOf_put h.pos, List.length_set]; exact h.ln⟩
theorem DkAt.list (h : DkAt O st j e p m xs) (ys : List PyData) : DkAt O (putO st e (.lst (ys.map Fv.d))) j e p m ys :=
  ⟨by rw [insAt_put_ne h.pos h.ne.symm]; exact h.i, olAt_put h.l, fun k k1 k2 => by rw [objsOf_put h.pos, List.getElem?_set_ne (Ne.symm k2)]; exact h.fr k k1 k2, by rw [objsOf_put h.pos, List.length_set]; exact h.ln⟩
theorem w_become (h : DkAt O st j e p m xs) (hl : xs.length < 5000) (a b : PyData) (hP : ∀ c, DkAt O (st.set 0 c) j e a b (xs ++ [.tuple [p, m]]) → P (.d .none) (st.set 0 c)) : WVe E (sem_Desk_become [.o (.ob j), .d a, .d b] st) P := by
  unfold sem_Desk_become sb_Desk_become
  rw [W_body]
  have h1 := h.list (xs ++ [.tuple [p, m]])
  rw [List.map_append] at h1
  refine ⟨rfl, ?_⟩
  refine seq_cut (fun ρ s => s = putO st e (.lst (xs.map Fv.d ++ [.d (.tuple [p, m])])) ∧ ρ = [some (.o (.ob j)), some (.d a), some (.d b)]) ?_ ?_
  · simp [h.i, h.l, szl]
    omega
  rintro ρ s ⟨rfl, rfl⟩
  simp at h1
  have h2 := h1.shown a
  have h3 := h2.marked b
  simp [h1.i, h2.i]
  have e3 : ∀ (s : Sto) (x y z : Ho), ∃ c, putO (putO (putO s e x) j y) j z = s.set 0 c := fun s x y z => by
    unfold putO; rw [List.set_set, List.set_set]; exact ⟨_, rfl⟩
  obtain ⟨c, hc⟩ := e3 st (.lst (xs.map Fv.d ++ [.d (.tuple [p, m])])) (.ins "Desk" (dkF a m e)) (.ins "Desk" (dkF a b e))
  rw [hc] at h3 ⊢
  exact hP c h3
theorem w_present (h : DkAt O st j e p m xs) (hP : P (.d p) st) : WVe E (sem_Desk_present [.o (.ob j)] st) P := by
  unfold sem_Desk_present sb_Desk_present
  rw [W_body]
  refine ⟨rfl, ?_⟩
  simp [h.i]
  exact hP
theorem w_marked (h : DkAt O st j e p m xs) (hP : P (.d m) st) : WVe E (sem_Desk_marked [.o (.ob j)] st) P := by
  unfold sem_Desk_marked sb_Desk_marked
  rw [W_body]
  refine ⟨rfl, ?_⟩
  simp [h.i]
  exact hP
theorem w_changes (h : DkAt O st j e p m xs) (hl : xs.length < 5000) (hP : P (.d (.int xs.length)) st) : WVe E (sem_Desk_changes [.o (.ob j)] st) P := by
  unfold sem_Desk_changes sb_Desk_changes
  rw [W_body]
  refine ⟨rfl, ?_⟩
  have hg : gLenO st [.o (.ob e)] = some (.d (.int xs.length)) := by
    unfold gLenO
    simp only [h.l]
    simp
  simp [h.i, hg]
  exact hP
theorem w_mark (h : DkAt O st j e p m xs) (hl : xs.length < 5000) (hP : ∀ c, DkAt O (st.set 0 c) j e p p (xs ++ [.tuple [p, m]]) → P (.d .none) (st.set 0 c)) : WVe E (sem_Desk_mark [.o (.ob j)] st) P := by
  unfold sem_Desk_mark sb_Desk_mark
  rw [W_body]
  refine ⟨rfl, ?_⟩
  simp [h.i, -List.lookup_eq_none_iff]
  refine w_become h hl p p fun c hc => ?_
  simp
  exact hP c hc
theorem w_undo {a b : PyData} (h : DkAt O st j e p m (xs ++ [.tuple [a, b]])) (hs : ∀ d ∈ xs ++ [.tuple [a, b]], okS d ∧ d.depth ≤ 60) (hP : ∀ c, DkAt O (st.set 0 c) j e a b xs → P (.d .none) (st.set 0 c)) : WVe E (sem_Desk_undo [.o (.ob j)] st) P := by
  unfold sem_Desk_undo sb_Desk_undo
  rw [W_body]
  refine ⟨rfl, ?_⟩
  have h1 := h.list xs
  have h2 := h1.shown a
  have h3 := h2.marked b
  have e3 : ∀ (s : Sto) (x y z : Ho), ∃ c, putO (putO (putO s e x) j y) j z = s.set 0 c := fun s x y z => by
    unfold putO; rw [List.set_set, List.set_set]; exact ⟨_, rfl⟩
  refine seq_cut (fun ρ s => s = st ∧ ρ = [some (.o (.ob j))]) ?_ ?_
  · have hc : gEqLE st (.o (.ob e)) (.d (.list [])) = some false := by
      unfold gEqLE
      simp only [h.l]
      simp
    simp [h.i, hc]
  rintro ρ s ⟨rfl, rfl⟩
  simp [h.i, h.l]
  obtain ⟨c, hc⟩ := e3 s (.lst (xs.map Fv.d)) (.ins "Desk" (dkF a m e)) (.ins "Desk" (dkF a b e))
  rw [h1.i, WO_some, pt1, ln1, h2.i, WO_some, pt2, hc]
  rw [hc] at h3
  exact ⟨by omega, by rw [ln1]; omega, hP c h3⟩
end
end K61
namespace K61
open PySem L2 Cp
/-! ### policies edited -/
theorem size_sum {q : List Nat} {p r : Pol} (x : Pol) (h : p.at q = some r) : (p.put q x).size + r.size = p.size + x.size := by
  refine at_ind (C := fun q p r => (p.put q x).size + r.size = p.size + x.size) ?_ ?_ ?_ ?_ ?_ ?_ ?_ q h
  · intro p; rw [put_nil]; omega
  all_goals intros; simp_all [Pol.put, Pol.size]; omega
theorem labs_sum {q : List Nat} {p r : Pol} (h : p.at q = some r) : ∃ A B, p.labs = A ++ r.labs ++ B ∧ ∀ x, (p.put q x).labs = A ++ x.labs ++ B := by
  refine at_ind (C := fun q p r => ∃ A B, p.labs = A ++ r.labs ++ B ∧ ∀ x, (p.put q x).labs = A ++ x.labs ++ B) ?_ ?_ ?_ ?_ ?_ ?_ ?_ q h
  · intro p; exact ⟨[], [], by simp, fun x => by rw [put_nil]; simp⟩
  · rintro k a b q r _ ⟨A, B, h1, h2⟩; exact ⟨A, B ++ b.labs, by simp [Pol.labs, h1], fun x => by simp [Pol.put, Pol.labs, h2]⟩
  · rintro k a b q r _ ⟨A, B, h1, h2⟩; exact ⟨a.labs ++ A, B, by simp [Pol.labs, h1], fun x => by simp [Pol.put, Pol.labs, h2]⟩
  · rintro k n a b q r _ ⟨A, B, h1, h2⟩; exact ⟨A, B ++ b.labs, by simp [Pol.labs, h1], fun x => by simp [Pol.put, Pol.labs, h2]⟩
  · rintro k n a b q r _ ⟨A, B, h1, h2⟩; exact ⟨a.labs ++ A, B, by simp [Pol.labs, h1], fun x => by simp [Pol.put, Pol.labs, h2]⟩
  · rintro ps a q r _ ⟨A, B, h1, h2⟩; exact ⟨A, B, by simp [Pol.labs, h1], fun x => by simp [Pol.put, Pol.labs, h2]⟩
  · rintro n a q r _ ⟨A, B, h1, h2⟩; exact ⟨A, B, by simp [Pol.labs, h1], fun x => by simp [Pol.put, Pol.labs, h2]⟩
theorem depth_size : ∀ p : Pol, p.depth ≤ p.size
  | .call _ _ _ _ => by simp [Pol.depth, Pol.size]
  | .wait _ => by simp [Pol.depth, Pol.size]
  | .two _ a b => by have := depth_size a; have := depth_size b; simp [Pol.depth, Pol.size]; omega
  | .num _ _ a b => by have := depth_size a; have := depth_size b; simp [Pol.depth, Pol.size]; omega
  | .retry _ a => by have := depth_size a; simp [Pol.depth, Pol.size]; omega
  | .tmo _ a => by have := depth_size a; simp [Pol.depth, Pol.size]; omega
theorem size_pos (p : Pol) : 1 ≤ p.size := Nat.le_trans (dp_pos p) (depth_size p)
def putL (k : Nat) : Str := Str.ofString "put" ++ txI (k : Int)
theorem putL_ok : (List.range 12).all (fun k => isLabB (putL k)) = true := by decide +kernel
theorem putL_new : (stems.all fun s => (List.range 40).all fun k => (List.range 12).all fun n => decide (labK s (k + 1) ≠ putL n)) = true := by decide +kernel
theorem putL_inj : ((List.range 12).all fun k => (List.range 12).all fun n => decide (putL k = putL n → k = n)) = true := by decide +kernel
/-- what the turns keep of a policy -/
structure Kt (t : Nat) (p : Pol) : Prop where
  nd : p.All Pol.Node
  sz : p.size ≤ 6 + t
  lb : p.labs.Nodup
  fr : ∀ l ∈ p.labs, ∀ k, t ≤ k → k < 12 → l ≠ putL k
theorem Kt.valid {t : Nat} {p : Pol} (h : Kt t p) (ht : t ≤ 12) : p.Valid :=
  ⟨h.nd, by have := h.sz; omega, by have := h.sz; have := depth_size p; omega, h.lb⟩
theorem Kt.up {t t' : Nat} {p : Pol} (h : Kt t p) (ht : t ≤ t') : Kt t' p := ⟨h.nd, by have := h.sz; omega, h.lb, fun l hl k hk => h.fr l hl k (by omega)⟩
/-- the policy behind a put keeps what the turns keep -/
theorem kt_put {t : Nat} {p r x : Pol} {q : List Nat} (h : Kt t p) (ha : p.at q = some r) (ht : t < 12) (hn : x.All Pol.Node) (hs : x.size ≤ r.size + 1)
    (hl : x.labs = r.labs ∨ x.labs = [] ∨ x.labs = [putL t]) : Kt (t + 1) (p.put q x) := by
  obtain ⟨A, B, h1, h2⟩ := labs_sum ha
  have hs2 := size_sum x ha
  have hsz := h.sz
  have hlb := h.lb
  have hfr := h.fr
  rw [h1] at hlb hfr
  refine ⟨put_node q ha h.nd hn, by omega, ?_, ?_⟩
  · rw [h2]
    rcases hl with e | e | e
    · rw [e]; exact hlb
    · rw [e]
      refine hlb.sublist ?_
      exact List.Sublist.append (List.Sublist.append (List.Sublist.refl _) (List.nil_sublist _)) (List.Sublist.refl _)
    · rw [e]
      have hAB : (A ++ B).Nodup := hlb.sublist (by
        rw [List.append_assoc]
        exact List.Sublist.append (List.Sublist.refl _) (List.sublist_append_right _ _))
      have hnot : putL t ∉ A ++ B := fun hm => hfr (putL t) (by
        rcases List.mem_append.mp hm with hm | hm
        · simp [hm]
        · simp [hm]) t (Nat.le_refl _) ht rfl
      rw [List.append_assoc]
      simp only [List.singleton_append]
      rw [List.nodup_append] at hAB ⊢
      obtain ⟨n1, n2, n3⟩ := hAB
      refine ⟨n1, List.nodup_cons.mpr ⟨fun hm => hnot (List.mem_append_right _ hm), n2⟩, fun a ha b hb e => ?_⟩
      rcases List.mem_cons.mp hb with rfl | hb
      · subst e; exact hnot (List.mem_append_left _ ha)
      · exact n3 a ha b hb e
  · intro l hl' k hk hk2
    rw [h2] at hl'
    rcases hl with e | e | e
    · rw [e] at hl'; exact hfr l hl' k (by omega) hk2
    · rw [e] at hl'
      refine hfr l ?_ k (by omega) hk2
      simp at hl' ⊢
      exact hl'.elim .inl fun h => .inr (.inr h)
    · rw [e] at hl'
      rcases List.mem_append.mp hl' with hl' | hl'
      · rcases List.mem_append.mp hl' with hl' | hl'
        · exact hfr l (by simp [hl']) k (by omega) hk2
        · rw [List.mem_singleton.mp hl']
          intro e2
          have := of_decide_eq_true (List.all_eq_true.mp (List.all_eq_true.mp putL_inj t (List.mem_range.mpr ht)) k (List.mem_range.mpr hk2)) e2
          omega
      · exact hfr l (by simp [hl']) k (by omega) hk2
/-- a part with another number -/
inductive Nb : Pol → PyData → Pol → Prop
  | w (n m : Int) : 0 ≤ m → m ≤ 1000000000 → Nb (.wait n) (.int m) (.wait m)
  | n (k : Num) (n m : Option Int) (a b : Pol) : NuOk m → Nb (.num k n a b) (nuD m) (.num k m a b)
  | t (n m : Option Int) (a : Pol) : NuOk m → Nb (.tmo n a) (nuD m) (.tmo m a)
  | r (ps qs : List Int) (a : Pol) : qs.length ≤ 5 → (∀ x ∈ qs, 0 ≤ x ∧ x ≤ 1000000000) → Nb (.retry ps a) (.tuple (qs.map PyData.int)) (.retry qs a)
theorem Nb.ok {r x : Pol} {d : PyData} (h : Nb r d x) (hr : r.All Pol.Node) : x.All Pol.Node ∧ x.size = r.size ∧ x.labs = r.labs := by
  cases h with
  | w n m h0 h1 => exact ⟨⟨h0, h1⟩, rfl, rfl⟩
  | n k n m a b h0 => exact ⟨⟨h0, hr.2⟩, rfl, rfl⟩
  | t n m a h0 => exact ⟨⟨h0, hr.2⟩, rfl, rfl⟩
  | r ps qs a h0 h1 => exact ⟨⟨⟨h0, h1⟩, hr.2⟩, rfl, rfl⟩
section
variable {O : List Ho} {st : Sto} {P : Rv → Sto → Prop} {E : Er → Sto → Prop} {p r x : Pol} {q : List Nat}
theorem w_with_nb {d : PyData} (ha : p.at q = some r) (hq : q.length < 25) (hn : Nb r d x) (hvl : (p.put q x).Valid) (h : P (.d (p.put q x).pd) st) : WVe E (semS_with_number [.d p.pd, .d (paD q), .d d] st) P := by
  unfold semS_with_number sbS_with_number
  rw [W_body]
  simp
  refine w_part_at _ (qpath_paD q) (fun r' hr => ?_) (fun e => by rw [path_at ha] at e; cases e)
  rw [path_at ha] at hr
  cases hr
  have key : ∀ E' : Er → Sto → Prop, WVe E' (semS_replaced [.d p.pd, .d (paD q), .d x.pd] st) fun r s' => back st.length r s' P := fun _ => w_replaced ha hq hvl (by simpa using h)
  generalize semS_replaced = sem at key ⊢
  cases hn with
  | w n m h0 h1 =>
    have hc : cutD [PyData.str (Str.ofString "wait"), PyData.int n] (some 2) none = [] := rfl
    simp [Pol.pd, gIn, itemsD, flatD, eqF, szl, hc] at key ⊢
    exact key _
  | n k n m a b h0 =>
    cases k <;> simp [Pol.pd, Num.s, gIn, itemsD, flatD, eqF, szl, cut4] at key ⊢ <;> exact key _
  | r ps qs a h0 h1 =>
    simp [Pol.pd, gIn, itemsD, flatD, eqF, szl, cut3] at key ⊢
    exact key _
  | t n m a h0 =>
    simp [Pol.pd, gIn, itemsD, flatD, eqF, szl, cut3] at key ⊢
    exact key _
/-! ### the desk's edits -/
variable {j e : Nat} {m : PyData} {xs : List PyData}
theorem w_set_number {d : PyData} (hk : DkAt O st j e p.pd m xs) (hl : xs.length < 5000) (ha : p.at q = some r) (hq : q.length < 25) (hn : Nb r d x) (hvl : (p.put q x).Valid) (hP : ∀ c, DkAt O (st.set 0 c) j e (p.put q x).pd m (xs ++ [.tuple [p.pd, m]]) → P (.d .none) (st.set 0 c)) : WVe E (sem_Desk_set_number [.o (.ob j), .d (paD q), .d d] st) P := by
  unfold sem_Desk_set_number sb_Desk_set_number
  rw [W_body, eWn]
  refine ⟨rfl, ?_⟩
  simp [hk.i, -List.lookup_eq_none_iff]
  refine w_with_nb ha hq hn hvl ?_
  simp [hk.i]
  refine w_become hk hl _ _ fun c hc => ?_
  simp
  exact hP c hc
theorem w_put (hk : DkAt O st j e p.pd m xs) (hl : xs.length < 5000) (ha : p.at q = some r) (hq : q.length < 25) (hvl : (p.put q x).Valid) (hP : ∀ c, DkAt O (st.set 0 c) j e (p.put q x).pd m (xs ++ [.tuple [p.pd, m]]) → P (.d .none) (st.set 0 c)) : WVe E (sem_Desk_put [.o (.ob j), .d (paD q), .d x.pd] st) P := by
  unfold sem_Desk_put sb_Desk_put
  rw [W_body, eRe]
  refine ⟨rfl, ?_⟩
  simp [hk.i, -List.lookup_eq_none_iff]
  refine w_replaced ha hq hvl ?_
  simp [hk.i]
  refine w_become hk hl _ _ fun c hc => ?_
  simp
  exact hP c hc
theorem w_wrap {n : Option Int} (hk : DkAt O st j e p.pd m xs) (hl : xs.length < 5000) (ha : p.at q = some r) (hq : q.length < 25) (hvl : (p.put q (.tmo n r)).Valid) (hP : ∀ c, DkAt O (st.set 0 c) j e (p.put q (.tmo n r)).pd m (xs ++ [.tuple [p.pd, m]]) → P (.d .none) (st.set 0 c)) : WVe E (sem_Desk_wrap [.o (.ob j), .d (paD q), .d (nuD n)] st) P := by
  unfold sem_Desk_wrap sb_Desk_wrap
  rw [W_body, eRe, ePr]
  refine ⟨rfl, ?_⟩
  refine seq_cut (fun ρ s => s = st ∧ ρ = [some (.o (.ob j)), some (.d (paD q)), some (.d (nuD n)), some (.d r.pd)]) ?_ ?_
  · simp [hk.i, -List.lookup_eq_none_iff]
    refine w_part_at _ (qpath_paD q) (fun r' hr => ?_) (fun e => by rw [path_at ha] at e; cases e)
    rw [path_at ha] at hr
    cases hr
    simp
  rintro ρ s ⟨rfl, rfl⟩
  simp [hk.i, -List.lookup_eq_none_iff]
  refine ⟨by rw [szl]; omega, ?_⟩
  refine w_replaced (x := .tmo n r) ha hq hvl ?_
  simp [hk.i]
  refine w_become hk hl _ _ fun c hc => ?_
  simp
  exact hP c hc
theorem w_unwrap {n : Option Int} (hk : DkAt O st j e p.pd m xs) (hl : xs.length < 5000) (ha : p.at q = some (.tmo n x)) (hq : q.length < 25) (hvl : (p.put q x).Valid) (hP : ∀ c, DkAt O (st.set 0 c) j e (p.put q x).pd m (xs ++ [.tuple [p.pd, m]]) → P (.d .none) (st.set 0 c)) : WVe E (sem_Desk_unwrap [.o (.ob j), .d (paD q)] st) P := by
  unfold sem_Desk_unwrap sb_Desk_unwrap
  rw [W_body, eRe, ePr]
  refine ⟨rfl, ?_⟩
  refine seq_cut (fun ρ s => s = st ∧ ρ = [some (.o (.ob j)), some (.d (paD q)), some (.d (Pol.tmo n x).pd)]) ?_ ?_
  · simp [hk.i, -List.lookup_eq_none_iff]
    refine w_part_at _ (qpath_paD q) (fun r' hr => ?_) (fun e => by rw [path_at ha] at e; cases e)
    rw [path_at ha] at hr
    cases hr
    simp
  rintro ρ s ⟨rfl, rfl⟩
  simp [hk.i, -List.lookup_eq_none_iff, Pol.pd]
  refine w_replaced ha hq hvl ?_
  simp [hk.i]
  refine w_become hk hl _ _ fun c hc => ?_
  simp
  exact hP c hc
end
end K61
namespace K61
open PySem L2 Cp
section
variable {O : List Ho} {st : Sto} {P : Rv → Sto → Prop} {E : Er → Sto → Prop} {p r x : Pol} {q : List Nat} {i : Nat} {u : Cl} {m : Int}
theorem w_num3 {c : Int} (hc : 0 ≤ c ∧ c ≤ 1000000000) (hd : Int) (hh : 0 ≤ hd ∧ hd ≤ 1000000000) (hu : st[i]? = some u) (hU : Urn m u) (hm : m < 2 ^ 200) (h : ∀ n u', NuOk n → Urn (m + 1) u' → P (.d (nuD n)) (st.set i u')) : WVe noE (semU_of [.c i, .d (.list [.none, .int c, .int hd])] st) P := by
  refine w_of (xs := [.none, .int c, .int hd]) hu hU hm (by simp) (by simp [szl]) fun x u' hx hU' => ?_
  simp at hx
  rcases hx with rfl | rfl | rfl
  · exact h none u' trivial hU'
  · exact h (some c) u' hc hU'
  · exact h (some hd) u' hh hU'
theorem w_num4 (hu : st[i]? = some u) (hU : Urn m u) (hm : m < 2 ^ 200) (h : ∀ n u', NuOk n → Urn (m + 1) u' → P (.d (nuD n)) (st.set i u')) : WVe noE (semU_of [.c i, .d (.list [.none, .int 0, .int 3, .int 1000000000])] st) P := by
  refine w_of (xs := [.none, .int 0, .int 3, .int 1000000000]) hu hU hm (by simp) (by decide) fun x u' hx hU' => ?_
  simp at hx
  rcases hx with rfl | rfl | rfl | rfl
  · exact h none u' trivial hU'
  · exact h (some 0) u' ⟨by decide, by decide⟩ hU'
  · exact h (some 3) u' ⟨by decide, by decide⟩ hU'
  · exact h (some 1000000000) u' ⟨by decide, by decide⟩ hU'
theorem w_number (hn : isNumD r.pd = true) (hu : st[i]? = some u) (hU : Urn m u) (hm : m < 2 ^ 190) (h : ∀ v x u', Nb r v x → Urn (m + 6) u' → P (.d v) (st.set i u')) : WVe noE (sem__law_number [.c i, .d (.str (Str.ofString r.kind))] st) P := by
  have hi : i < st.length := (List.getElem?_eq_some_iff.mp hu).1
  have hset : ∀ c, (st.set i c)[i]? = some c := fun c => List.getElem?_set_self hi
  unfold sem__law_number sb__law_number
  rw [W_body, eO, eN]
  refine ⟨rfl, ?_⟩
  cases r with
  | call l g b hh => simp [isNumD, Pol.pd] at hn
  | two k a b => cases k <;> simp [isNumD, Pol.pd, Two.s] at hn
  | wait n =>
    simp [Pol.kind]
    refine w_next hu hU (by omega) (by decide) (by decide) fun v u1 h0 h1 hU1 => ?_
    simp
    exact h _ _ u1 (.w n v h0 (by omega)) (hU1.mono (by omega))
  | num k n a b =>
    cases k <;> simp [Pol.kind, Num.s, szl] <;> (try refine ⟨by decide +kernel, ?_⟩) <;> refine w_num4 hu hU (by omega) fun v u1 hv hU1 => ?_ <;> simp <;> exact h _ _ u1 (.n _ n v a b hv) (hU1.mono (by omega))
  | tmo n a =>
    simp [Pol.kind, szl]
    (try refine ⟨by decide +kernel, ?_⟩)
    refine w_num4 hu hU (by omega) fun v u1 hv hU1 => ?_
    simp
    exact h _ _ u1 (.t n v a hv) (hU1.mono (by omega))
  | retry ps a =>
    simp [Pol.kind]
    refine w_next hu hU (by omega) (by decide) (by decide) fun c u1 c0 c4 hU1 => ?_
    simp
    refine ⟨rOk_of2 (by decide) (by decide) (by omega) (by omega), ?_⟩
    refine lcGo_by (I := fun x s acc => ∃ (ps : List Int) (u5 : Cl), acc = ps.map PyData.int ∧ ps.length = x ∧ (∀ y ∈ ps, 0 ≤ y ∧ y ≤ 1000000000) ∧ s = st.set i u5 ∧ Urn (m + 1 + x) u5) _ 0 [] ⟨[], u1, rfl, rfl, fun _ z => (nomatch z), rfl, hU1.mono (by omega)⟩ (fun _ _ _ _ => trivial) ?_ ?_
    · rintro x d s acc hd' ⟨qs, u5, rfl, hl, hps, rfl, hU5⟩
      have hx2 : x < 4 := by
        have := (List.getElem?_eq_some_iff.mp hd').1
        have e : (rngD 0 c).length = c.toNat := by unfold rngD; simp
        omega
      simp [wipeE]
      refine w_next (hset u5) hU5 (by omega) (by decide) (by decide) fun y u6 y0 y1 hU6 => ?_
      simp [szl]
      refine ⟨by omega, qs ++ [y], by simp, by simp; omega, fun z hz => ?_, u6, rfl, hU6.mono (by omega)⟩
      rcases List.mem_append.mp hz with hz | hz
      · exact hps z hz
      · simp at hz; omega
    · rintro s acc ⟨qs, u5, rfl, hl, hps, rfl, hU5⟩
      have hlen : qs.length ≤ 4 := by
        have e : (rngD 0 c).length = c.toNat := by unfold rngD; simp
        omega
      exact h _ _ u5 (.r ps qs a (by omega) hps) (hU5.mono (by omega))
theorem str12 (t : Nat) (h : t < 12) : fStr (.int (t : Int)) = some (.d (.str (txI (t : Int)))) := by
  rw [fStr_i, if_pos (log_small (k := 40) (by omega) (by decide))]
/-- an edit that can be made, and the policy behind it -/
def Deed (p : Pol) (d : PyData) (p' : Pol) : Prop := ∃ q r x w v, p.at q = some r ∧ q.length < 25 ∧ p' = p.put q x ∧ d = .tuple [.str (Str.ofString w), paD q, v, p'.pd] ∧
  ((w = "number" ∧ Nb r v x) ∨ (w = "put" ∧ v = x.pd) ∨ (w = "wrap" ∧ ∃ n, v = nuD n ∧ x = .tmo n r) ∨ (w = "unwrap" ∧ v = .none ∧ ∃ n, r = .tmo n x))
theorem nb_pd {v : PyData} (h : Nb r v x) : ∃ o ds, r.pd = .tuple (.str (Str.ofString r.kind) :: o :: ds) ∧ x.pd = .tuple (.str (Str.ofString r.kind) :: v :: ds) ∧ cutD (.str (Str.ofString r.kind) :: o :: ds) (some 2) none = ds ∧ ds.length ≤ 2 := by
  cases h with
  | w n m h0 h1 => exact ⟨_, _, rfl, rfl, rfl, by simp⟩
  | n k n m a b h0 => cases k <;> exact ⟨_, _, rfl, rfl, rfl, by simp⟩
  | t n m a h0 => exact ⟨_, _, rfl, rfl, rfl, by simp⟩
  | r ps qs a h0 h1 => exact ⟨_, _, rfl, rfl, rfl, by simp⟩
theorem kind_in (r : Pol) : gIn true (.str (Str.ofString r.kind)) (.tuple [.str (Str.ofString "call"), .str (Str.ofString "then"), .str (Str.ofString "both")]) = some (isNumD r.pd) := by
  cases r with
  | two k a b => cases k <;> rfl
  | num k n a b => cases k <;> rfl
  | _ => rfl
theorem fst_pd (r : Pol) : ∃ ds, r.pd = .tuple (.str (Str.ofString r.kind) :: ds) := inn_pd r
theorem w_made {t : Nat} (ht : t < 12) (hk : Kt t p) (hu : st[i]? = some u) (hU : Urn m u) (hm : m < 2 ^ 180) (h : ∀ d p' u', Deed p d p' → Kt (t + 1) p' → Urn (m + 20) u' → P (.d d) (st.set i u')) : WVe noE (sem__law_made [.c i, .d p.pd, .d (.int (t : Int))] st) P := by
  have hi : i < st.length := (List.getElem?_eq_some_iff.mp hu).1
  have hset : ∀ c, (st.set i c)[i]? = some c := fun c => List.getElem?_set_self hi
  have hsz := hk.sz
  have hdp := depth_size p
  have hpl := p.paths_len
  unfold sem__law_made sb__law_made
  rw [W_body, eAp, eO, eN, ePt, eLp]
  refine ⟨rfl, ?_⟩
  refine seq_cut (fun ρ s => ∃ (q : List Nat) (r : Pol) (w : Int) (u' : Cl), p.at q = some r ∧ Urn (m + 2) u' ∧ s = st.set i u' ∧ ρ = [some (.c i), some (.d p.pd), some (.d (.int (t : Int))), some (.d (paD q)), some (.d (.int w)), none, none, none]) ?_ ?_
  · simp
    refine w_all_paths 25 (by omega) (by omega) (by omega) ?_
    simp
    refine w_of hu hU (by omega) (by simp only [ne_eq, List.map_eq_nil_iff]; intro e; rw [e] at hpl; have := size_pos p; simp at hpl; omega) (by rw [szl, List.length_map]; omega) fun d u1 hd hU1 => ?_
    obtain ⟨q, hq, rfl⟩ := List.mem_map.mp hd
    obtain ⟨r, hr⟩ := paths_at p q hq
    simp
    refine w_next (hset u1) hU1 (by omega) (by decide) (by decide) fun w u2 w0 w1 hU2 => ?_
    simp
    exact ⟨q, ⟨r, hr⟩, w, u2, hU2.mono (by omega), rfl, rfl, rfl⟩
  rintro ρ s ⟨q, r, w, u1, ha, hU1, rfl, rfl⟩
  have hq : q.length < 25 := by have := at_depth ha; have := dp_pos r; omega
  have hrn := at_node q ha hk.nd
  obtain ⟨ds, hds⟩ := fst_pd r
  have ek : ∀ E' st' ρ' Q, WVe E' (mBin fIx (mN 5) (mK (.int 0)) (some (.c i) :: some (.d p.pd) :: some (.d (.int (t : Int))) :: some (.d (paD q)) :: some (.d (.int w)) :: some (.d r.pd) :: ρ') st') Q = Q (.d (.str (Str.ofString r.kind))) st' := fun E' st' ρ' Q => by rw [hds]; simp
  refine seq_cut (fun ρ s => s = st.set i u1 ∧ ρ = [some (.c i), some (.d p.pd), some (.d (.int (t : Int))), some (.d (paD q)), some (.d (.int w)), some (.d r.pd), none, none]) ?_ ?_
  · simp
    refine w_part (walk_path ha) ?_
    simp
  rintro ρ s ⟨rfl, rfl⟩
  refine seq_cut (fun ρ s => s = st.set i u1 ∧ ρ = [some (.c i), some (.d p.pd), some (.d (.int (t : Int))), some (.d (paD q)), some (.d (.int w)), some (.d r.pd), none, none]) ?_ ?_
  · simp [ek, kind_in]
    intro hw
    refine ⟨by rw [szl]; omega, fun hn => ?_⟩
    refine w_number hn (hset u1) hU1 (by omega) fun v x u2 hnb hU2 => ?_
    obtain ⟨o, es, e1, e2, e3, hel⟩ := nb_pd hnb
    rw [e1]
    simp [e3, szl]
    rw [← e2]
    refine ⟨by omega, ?_⟩
    refine w_lput 25 hq ha fun t' => ?_
    simp
    rw [putX_put q x ha]
    obtain ⟨o1, o2, o3⟩ := hnb.ok hrn
    exact h _ _ u2 ⟨q, r, x, "number", v, ha, hq, rfl, rfl, .inl ⟨rfl, hnb⟩⟩ (kt_put hk ha ht o1 (by omega) (.inl o3)) (hU2.mono (by omega))
  rintro ρ s ⟨rfl, rfl⟩
  refine seq_cut (fun ρ s => s = st.set i u1 ∧ ρ = [some (.c i), some (.d p.pd), some (.d (.int (t : Int))), some (.d (paD q)), some (.d (.int w)), some (.d r.pd), none, none]) ?_ ?_
  · simp [str12 t ht]
    intro hw
    have hll : (txI (t : Int)).length ≤ 10 := of_decide_eq_true (List.all_eq_true.mp (show ((List.range 12).all fun k => decide ((txI (k : Int)).length ≤ 10)) = true by decide +kernel) t (List.mem_range.mpr ht))
    have hp3 : (Str.ofString "put").length = 3 := by decide +kernel
    refine ⟨by rw [szl]; omega, by rw [szl]; omega, by rw [szl]; omega, by rw [szl]; omega, by rw [szl]; omega, ?_⟩
    refine w_of (hset u1) hU1 (by omega) (by simp) (by simp [szl]) fun d u2 hd hU2 => ?_
    have hx : ∃ x : Pol, d = x.pd ∧ x.All Pol.Node ∧ x.size ≤ r.size + 1 ∧ (x.labs = r.labs ∨ x.labs = [] ∨ x.labs = [putL t]) := by
      have hrs := size_pos r
      simp at hd
      rcases hd with rfl | rfl | rfl
      · exact ⟨.wait 3, rfl, ⟨by decide, by decide⟩, by simp only [Pol.size]; omega, .inr (.inl rfl)⟩
      · refine ⟨.call (putL t) (some (0, 2)) none true, rfl, ⟨?_, ⟨by decide, by decide, by decide⟩, trivial, .inl rfl⟩, by simp only [Pol.size]; omega, .inr (.inr rfl)⟩
        exact isLabB_ok (List.all_eq_true.mp putL_ok t (List.mem_range.mpr ht))
      · exact ⟨.tmo none r, rfl, ⟨trivial, hrn⟩, by simp only [Pol.size]; omega, .inl rfl⟩
    obtain ⟨x, rfl, o1, o2, o3⟩ := hx
    simp [szl]
    refine w_lput 25 hq ha fun t' => ?_
    simp
    rw [putX_put q x ha]
    exact h _ _ u2 ⟨q, r, x, "put", x.pd, ha, hq, rfl, rfl, .inr (.inl ⟨rfl, rfl⟩)⟩ (kt_put hk ha ht o1 o2 o3) (hU2.mono (by omega))
  rintro ρ s ⟨rfl, rfl⟩
  refine seq_cut (fun ρ s => s = st.set i u1 ∧ ρ = [some (.c i), some (.d p.pd), some (.d (.int (t : Int))), some (.d (paD q)), some (.d (.int w)), some (.d r.pd), none, none]) ?_ ?_
  · simp [ek]
    intro hw hkd
    have hr : ∃ n x, r = .tmo n x := by
      cases r with
      | tmo n x => exact ⟨n, x, rfl⟩
      | two k a b => cases k <;> simp [Pol.kind, Two.s, Num.s] at hkd
      | num k n a b => cases k <;> simp [Pol.kind, Two.s, Num.s] at hkd
      | call l g b hh => simp [Pol.kind, Two.s, Num.s] at hkd
      | wait n => simp [Pol.kind, Two.s, Num.s] at hkd
      | retry ps a => simp [Pol.kind, Two.s, Num.s] at hkd
    obtain ⟨n, x, rfl⟩ := hr
    simp [Pol.pd]
    refine w_lput 25 hq ha fun t' => ?_
    simp [szl]
    rw [putX_put q x ha]
    exact h _ _ u1 ⟨q, _, x, "unwrap", .none, ha, hq, rfl, rfl, .inr (.inr (.inr ⟨rfl, rfl, n, rfl⟩))⟩ (kt_put hk ha ht hrn.2 (by simp only [Pol.size]; omega) (.inl rfl)) (hU1.mono (by omega))
  rintro ρ s ⟨rfl, rfl⟩
  simp
  refine ⟨by rw [szl]; omega, ?_⟩
  refine w_num3 ⟨by decide, by decide⟩ 7 ⟨by decide, by decide⟩ (hset u1) hU1 (by omega) fun n u2 hn hU2 => ?_
  simp [szl]
  have key := fun (Q : Rv → Sto → Prop) => w_lput 25 (P := Q) (st := st.set i u2) (x := (Pol.tmo n r).pd) hq ha
  refine key _ fun t' => ?_
  simp
  rw [putX_put q (.tmo n r) ha]
  exact h _ _ u2 ⟨q, r, .tmo n r, "wrap", nuD n, ha, hq, rfl, rfl, .inr (.inr (.inl ⟨rfl, n, rfl, rfl⟩))⟩ (kt_put hk ha ht ⟨hn, hrn⟩ (by simp only [Pol.size]; omega) (.inl rfl)) (hU2.mono (by omega))
/-! ### the record told -/
variable {j e : Nat} {md : PyData} {xs : List PyData}
theorem w_done {d : PyData} {p' : Pol} (hk : DkAt O st j e p.pd md xs) (hl : xs.length < 5000) (hd : Deed p d p') (hv : p'.Valid) (hP : ∀ c, DkAt O (st.set 0 c) j e p'.pd md (xs ++ [.tuple [p.pd, md]]) → P (.d .none) (st.set 0 c)) : WVe noE (sem__law_done [.o (.ob j), .d d] st) P := by
  obtain ⟨q, r, x, w, v, ha, hq, rfl, rfl, hc⟩ := hd
  unfold sem__law_done sb__law_done
  rw [W_body]
  refine ⟨rfl, ?_⟩
  have hcut : cutD [PyData.str (Str.ofString w), paD q, v, (p.put q x).pd] none (some 3) = [.str (Str.ofString w), paD q, v] := rfl
  refine seq_cut (fun ρ s => s = st ∧ ρ = [some (.o (.ob j)), some (.d (.tuple [.str (Str.ofString w), paD q, v, (p.put q x).pd])), some (.d (.str (Str.ofString w))), some (.d (paD q)), some (.d v)]) ?_ ?_
  · simp [hcut]
  rintro ρ s ⟨rfl, rfl⟩
  rcases hc with ⟨rfl, hn⟩ | ⟨rfl, rfl⟩ | ⟨rfl, n, rfl, rfl⟩ | ⟨rfl, rfl, n, rfl⟩
  · simp [hk.i, -List.lookup_eq_none_iff]
    refine w_set_number hk hl ha hq hn hv fun c hc => ?_
    simp
    exact hP c hc
  · simp [hk.i, -List.lookup_eq_none_iff]
    refine w_put hk hl ha hq hv fun c hc => ?_
    simp
    exact hP c hc
  · simp [hk.i, -List.lookup_eq_none_iff]
    refine w_wrap hk hl ha hq hv fun c hc => ?_
    simp
    exact hP c hc
  · simp [hk.i, -List.lookup_eq_none_iff]
    refine w_unwrap hk hl ha hq hv fun c hc => ?_
    simp
    exact hP c hc
end
end K61
namespace K61
open PySem L2 Cp
/-- the objects below n stay, but those of a list -/
def Kp (n : Nat) (ne : List Nat) (st s : Sto) : Prop := ∀ i, i < n → i ∉ ne → (objsOf s)[i]? = (objsOf st)[i]?
section
variable {st : Sto} {P : Rv → Sto → Prop} {E : Er → Sto → Prop} {p r x : Pol} {j e : Nat} {m : PyData} {xs : List PyData}
abbrev Dk (st : Sto) (j e : Nat) (p m : PyData) (xs : List PyData) : Prop := DkAt (objsOf st) st j e p m xs
theorem Dk.of {p m : PyData} (i : insAt st j "Desk" = some (dkF p m e)) (l : olAt st e = some (xs.map Fv.d)) : Dk st j e p m xs := ⟨i, l, fun _ _ _ => rfl, rfl⟩
theorem DkAt.tt {O : List Ho} {p m : PyData} (h : DkAt O st j e p m xs) : Dk st j e p m xs := Dk.of h.i h.l
theorem DkAt.lt {O : List Ho} {p m : PyData} (h : DkAt O st j e p m xs) : j < (objsOf st).length ∧ e < (objsOf st).length := ⟨(List.getElem?_eq_some_iff.mp (insAt_get h.i)).1, (List.getElem?_eq_some_iff.mp (olAt_get h.l)).1⟩
theorem DkAt.kp {O : List Ho} {pp m : PyData} {s : Sto} (h : DkAt O st j e pp m xs) (h1 : (objsOf s)[j]? = (objsOf st)[j]?) (h2 : (objsOf s)[e]? = (objsOf st)[e]?) : Dk s j e pp m xs :=
  Dk.of (insAt_of (by rw [h1]; exact insAt_get h.i)) (olAt_of (by rw [h2]; exact olAt_get h.l))
@[simp] theorem pt3 {pp mm : PyData} (a : Nat) : putFv (Str.ofString "earlier_pairs") (.ob a) (dkF pp mm e) = dkF pp mm a := rfl
theorem w_init {n : Nat} (hv : p.Valid) (hi : insAt st j "Desk" = some []) (hn : (objsOf st).length = n) (hP : ∀ c, Dk (st.set 0 c) j n p.pd p.pd [] → Kp n [j] st (st.set 0 c) → (objsOf (st.set 0 c)).length = n + 1 → P (.d .none) (st.set 0 c)) : WVe E (sem_Desk___init__ [.o (.ob j), .d p.pd] st) P := by
  have hp : 0 < st.length := objsOf_pos (insAt_get hi)
  unfold sem_Desk___init__ sb_Desk___init__
  rw [W_body, eIp]
  refine ⟨rfl, ?_⟩
  refine seq_cut (fun ρ s => s = st ∧ ρ = [some (.o (.ob j)), some (.d p.pd)]) ?_ ?_
  · simp
    refine wv_E (w_is_policy hv fun t => ?_)
    simp
  rintro ρ s ⟨rfl, rfl⟩
  have g1 : insAt (putO s j (.ins "Desk" [(Str.ofString "shown_policy", .d p.pd)])) j "Desk" = some [(Str.ofString "shown_policy", .d p.pd)] := insAt_put hi
  generalize hs1 : putO s j (.ins "Desk" [(Str.ofString "shown_policy", .d p.pd)]) = s1 at g1
  have l1 : s1.length = s.length := by rw [← hs1, length_putO]
  have o1 : (objsOf s1).length = n := by rw [← hs1, objsOf_put hp, List.length_set]; exact hn
  have g2 : insAt (putO s1 j (.ins "Desk" [(Str.ofString "shown_policy", .d p.pd), (Str.ofString "marked_policy", .d p.pd)])) j "Desk" = some [(Str.ofString "shown_policy", .d p.pd), (Str.ofString "marked_policy", .d p.pd)] := insAt_put g1
  generalize hs2 : putO s1 j (.ins "Desk" [(Str.ofString "shown_policy", .d p.pd), (Str.ofString "marked_policy", .d p.pd)]) = s2 at g2
  have l2 : s2.length = s.length := by rw [← hs2, length_putO, l1]
  have o2 : (objsOf s2).length = n := by rw [← hs2, objsOf_put (by omega), List.length_set]; exact o1
  have h2 := insAt_get g2
  have hj : j < n := by rw [← o2]; exact (List.getElem?_eq_some_iff.mp h2).1
  have g3 : insAt (newO s2 (.lst [])) j "Desk" = some [(Str.ofString "shown_policy", .d p.pd), (Str.ofString "marked_policy", .d p.pd)] := insAt_of (by
    rw [objsOf_new (by omega), List.getElem?_append_left (by omega)]; exact h2)
  have q3 : olAt (newO s2 (.lst [])) n = some [] := olAt_of (by
    rw [objsOf_new (by omega), List.getElem?_append_right (by omega), o2, Nat.sub_self]; all_goals rfl)
  have k4 : Dk (putO (newO s2 (.lst [])) j (.ins "Desk" (dkF p.pd p.pd n))) j n p.pd p.pd [] :=
    Dk.of (insAt_put g3) (by rw [olAt_put_ne (by rw [length_newO]; omega) (by omega)]; exact q3)
  have hob : objsOf (putO (newO s2 (.lst [])) j (.ins "Desk" (dkF p.pd p.pd n))) = ((objsOf s2 ++ [Ho.lst []]).set j (.ins "Desk" (dkF p.pd p.pd n))) := by
    rw [objsOf_put (by rw [length_newO]; omega), objsOf_new (by omega)]
  have hob2 : objsOf s2 = ((objsOf s).set j (.ins "Desk" [(Str.ofString "shown_policy", .d p.pd)])).set j (.ins "Desk" [(Str.ofString "shown_policy", .d p.pd), (Str.ofString "marked_policy", .d p.pd)]) := by
    rw [← hs2, objsOf_put (by omega), ← hs1, objsOf_put hp]
  have hkp : Kp n [j] s (putO (newO s2 (.lst [])) j (.ins "Desk" (dkF p.pd p.pd n))) := fun i hi hne => by
    have hne : j ≠ i := fun e => hne (by rw [e]; exact List.mem_singleton_self _)
    rw [hob, List.getElem?_set_ne hne, List.getElem?_append_left (by rw [o2]; exact hi), hob2, List.getElem?_set_ne hne, List.getElem?_set_ne hne]
  have hln : (objsOf (putO (newO s2 (.lst [])) j (.ins "Desk" (dkF p.pd p.pd n)))).length = n + 1 := by
    rw [hob, List.length_set, List.length_append, o2]; all_goals rfl
  obtain ⟨c, hc⟩ : ∃ c, putO (newO s2 (.lst [])) j (.ins "Desk" (dkF p.pd p.pd n)) = s.set 0 c := by
    rw [← hs2, ← hs1]
    unfold putO newO
    rw [List.set_set, List.set_set, List.set_set]
    exact ⟨_, rfl⟩
  rw [hc] at k4 hkp hln
  simp [hi, putFv, hs1, g1, hs2, g2, o2, g3]
  unfold dkF at hc
  rw [hc]
  exact hP c k4 hkp hln
theorem w_clone (hv : p.Valid) (h : Dk st j e p.pd m xs)
    (hP : ∀ c e2, Dk (st.set 0 c) (objsOf st).length e2 p.pd m xs → (objsOf st).length < e2 → Kp (objsOf st).length [] st (st.set 0 c) → P (.o (.ob (objsOf st).length)) (st.set 0 c)) : WVe E (sem_Desk_clone [.o (.ob j)] st) P := by
  have hp := h.pos
  obtain ⟨hj, he⟩ := h.lt
  have kI := fun (Q : Rv → Sto → Prop) (E' : Er → Sto → Prop) => w_init (P := Q) (E := E') (p := p) (j := (objsOf st).length) (n := (objsOf st).length + 1) (st := newO st (.ins "Desk" [])) hv
    (insAt_of (by rw [objsOf_new hp, List.getElem?_append_right (Nat.le_refl _), Nat.sub_self]; all_goals rfl)) (by rw [objsOf_new hp, List.length_append]; all_goals rfl)
  unfold sem_Desk_clone sb_Desk_clone
  rw [W_body]
  refine ⟨rfl, ?_⟩
  generalize hn : (objsOf st).length = n at hP kI hj he ⊢
  refine seq_cut (fun ρ s => (∃ c, s = st.set 0 c) ∧ ρ = [some (.o (.ob j)), some (.o (.ob n))] ∧ Dk s n (n + 1) p.pd p.pd [] ∧ Kp n [] st s ∧ (objsOf s).length = n + 2) ?_ ?_
  · simp [h.i, hn]
    refine kI _ _ fun c h1 h2 h3 => ?_
    have e1 : (newO st (.ins "Desk" [])).set 0 c = st.set 0 c := by unfold newO; rw [List.set_set]
    rw [e1] at h1 h2 h3 ⊢
    rw [List.take_of_length_le (by simp)]
    refine ⟨rfl, ⟨c, rfl⟩, h1, fun i hi hne => ?_, h3⟩
    have := h2 i (by omega) (by simp; omega)
    rw [this, objsOf_new hp, List.getElem?_append_left (by omega)]
  rintro ρ s ⟨⟨c, rfl⟩, rfl, h1, h2, h3⟩
  have hd := h.kp (h2 j hj (by simp)) (h2 e he (by simp))
  generalize hs : st.set 0 c = s at h1 h2 h3 hd ⊢
  have hsp := hd.pos
  have g1 := (h1.marked m).tt
  have k1 : Kp n [] st (putO s n (.ins "Desk" (dkF p.pd m (n + 1)))) := fun i hi hne => by
    rw [objsOf_put hsp, List.getElem?_set_ne (by omega)]; exact h2 i hi hne
  refine seq_cut (fun ρ s' => s' = putO s n (.ins "Desk" (dkF p.pd m (n + 1))) ∧ ρ = [some (.o (.ob j)), some (.o (.ob n))]) ?_ ?_
  · simp [hd.i, h1.i]
  rintro ρ s' ⟨rfl, rfl⟩
  have o1 : (objsOf (putO s n (.ins "Desk" (dkF p.pd m (n + 1))))).length = n + 2 := by rw [objsOf_put hsp, List.length_set]; exact h3
  have hc1 : ∃ c, putO s n (.ins "Desk" (dkF p.pd m (n + 1))) = st.set 0 c := by rw [← hs]; unfold putO; rw [List.set_set]; exact ⟨_, rfl⟩
  generalize putO s n (.ins "Desk" (dkF p.pd m (n + 1))) = s1 at g1 k1 o1 hc1 ⊢
  have hd1 := h.kp (k1 j hj (by simp)) (k1 e he (by simp))
  have hp1 := hd1.pos
  have g2 : Dk (newO s1 (.lst (xs.map Fv.d))) n (n + 1) p.pd m [] := by
    refine g1.kp ?_ ?_
    · rw [objsOf_new hp1, List.getElem?_append_left (by omega)]
    · rw [objsOf_new hp1, List.getElem?_append_left (by omega)]
  have g3 : Dk (putO (newO s1 (.lst (xs.map Fv.d))) n (.ins "Desk" (dkF p.pd m (n + 2)))) n (n + 2) p.pd m xs := by
    refine Dk.of (insAt_put g2.i) ?_
    rw [olAt_put_ne (by rw [length_newO]; exact hp1) (by omega)]
    exact olAt_of (by rw [objsOf_new hp1, List.getElem?_append_right (by omega), o1, Nat.sub_self]; all_goals rfl)
  have k3 : Kp n [] st (putO (newO s1 (.lst (xs.map Fv.d))) n (.ins "Desk" (dkF p.pd m (n + 2)))) := fun i hi hne => by
    rw [objsOf_put (by rw [length_newO]; exact hp1), List.getElem?_set_ne (by omega), objsOf_new hp1, List.getElem?_append_left (by omega)]; exact k1 i hi hne
  have hc3 : ∃ c, putO (newO s1 (.lst (xs.map Fv.d))) n (.ins "Desk" (dkF p.pd m (n + 2))) = st.set 0 c := by
    obtain ⟨c1, rfl⟩ := hc1
    unfold putO newO; rw [List.set_set, List.set_set]; exact ⟨_, rfl⟩
  refine seq_cut (fun ρ s' => s' = putO (newO s1 (.lst (xs.map Fv.d))) n (.ins "Desk" (dkF p.pd m (n + 2))) ∧ ρ = [some (.o (.ob j)), some (.o (.ob n))]) ?_ ?_
  · have hg : Cp.g1 fList s1 [.o (.ob e)] = some (.n (.l xs)) := by
      unfold Cp.g1
      simp only [view_ol hd1.l]
      all_goals rfl
    simp [hd1.i, hg, o1, g2.i]
  rintro ρ s' ⟨rfl, rfl⟩
  obtain ⟨c3, hc3⟩ := hc3
  rw [hc3] at g3 k3 ⊢
  simp
  exact hP c3 (n + 2) g3 (by omega) k3
end
end K61
/-! V61: two valid policies that are shown alike are the same (V60's lemmas without forms). -/
namespace Cp.Sh
open PySem L2 Cp
def tl (x : Str) : List Nat := x.cps.toList
theorem tl_app (x y : Str) : tl (x ++ y) = tl x ++ tl y := by
  show (x.cps ++ y.cps).toList = _
  simp [tl]
theorem tl_t2 (a b : PyData) : tl (PyData.tuple [a, b]).shown = 40 :: (tl a.shown ++ (44 :: 32 :: (tl b.shown ++ [41]))) := by
  have e : (PyData.tuple [a, b]).shown = "(" ++ (a.shown ++ ", " ++ b.shown) ++ ")" := rfl
  rw [e, tl_app, tl_app, tl_app, tl_app]
  have e1 : tl ("(" : Str) = [40] := by decide +kernel
  have e2 : tl (", " : Str) = [44, 32] := by decide +kernel
  have e3 : tl (")" : Str) = [41] := by decide +kernel
  rw [e1, e2, e3]
  simp
theorem tl_t3 (a b c : PyData) : tl (PyData.tuple [a, b, c]).shown = 40 :: (tl a.shown ++ (44 :: 32 :: (tl b.shown ++ (44 :: 32 :: (tl c.shown ++ [41]))))) := by
  have e : (PyData.tuple [a, b, c]).shown = "(" ++ (a.shown ++ ", " ++ (b.shown ++ ", " ++ c.shown)) ++ ")" := rfl
  rw [e]
  simp only [tl_app]
  have e1 : tl ("(" : Str) = [40] := by decide +kernel
  have e2 : tl (", " : Str) = [44, 32] := by decide +kernel
  have e3 : tl (")" : Str) = [41] := by decide +kernel
  rw [e1, e2, e3]
  simp
theorem tl_t4 (a b c d : PyData) : tl (PyData.tuple [a, b, c, d]).shown = 40 :: (tl a.shown ++ (44 :: 32 :: (tl b.shown ++ (44 :: 32 :: (tl c.shown ++ (44 :: 32 :: (tl d.shown ++ [41]))))))) := by
  have e : (PyData.tuple [a, b, c, d]).shown = "(" ++ (a.shown ++ ", " ++ (b.shown ++ ", " ++ (c.shown ++ ", " ++ d.shown))) ++ ")" := rfl
  rw [e]
  simp only [tl_app]
  have e1 : tl ("(" : Str) = [40] := by decide +kernel
  have e2 : tl (", " : Str) = [44, 32] := by decide +kernel
  have e3 : tl (")" : Str) = [41] := by decide +kernel
  rw [e1, e2, e3]
  simp
def dgt (c : Nat) : Prop := 48 ≤ c ∧ c ≤ 57
def ndS (l : List Nat) : Prop := ∀ c r, l = c :: r → ¬dgt c
theorem dg_cut : ∀ {xs ys X Y : List Nat}, (∀ c ∈ xs, dgt c) → (∀ c ∈ ys, dgt c) → ndS X → ndS Y → xs ++ X = ys ++ Y → xs = ys ∧ X = Y
  | [], [], X, Y, _, _, _, _, h => ⟨rfl, h⟩
  | [], y :: ys, X, Y, _, hy, hX, _, h => absurd (hy y (by simp)) (hX y _ h)
  | x :: xs, [], X, Y, hx, _, _, hY, h => absurd (hx x (by simp)) (hY x _ h.symm)
  | x :: xs, y :: ys, X, Y, hx, hy, hX, hY, h => by
    simp only [List.cons_append, List.cons.injEq] at h
    obtain ⟨rfl, h⟩ := h
    obtain ⟨rfl, rfl⟩ := dg_cut (fun c hc => hx c (List.mem_cons_of_mem _ hc)) (fun c hc => hy c (List.mem_cons_of_mem _ hc)) hX hY h
    exact ⟨rfl, rfl⟩
def dgs (n : Nat) : List Nat := (Nat.toDigits 10 n).map Char.toNat
theorem dgs_all (n : Nat) : ∀ c ∈ dgs n, dgt c := fun c hc => by
  obtain ⟨d, hd, rfl⟩ := List.mem_map.mp hc
  exact PyProof.Rows.digit_range (Nat.isDigit_of_mem_toDigits (by decide) (by decide) hd)
theorem dgs_inj {n m : Nat} (h : dgs n = dgs m) : n = m := by
  have h1 := PySem.W.KIN.val_back n
  have h2 := PySem.W.KIN.val_back m
  unfold dgs at h
  rw [h] at h1
  rw [← h1, h2]
theorem dgs_ne (n : Nat) : dgs n ≠ [] := fun h => by
  have := PyProof.Rows.tDigits_len_ge 10 n
  have h2 : (dgs n).length = 0 := by rw [h]; all_goals rfl
  unfold dgs at h2
  rw [List.length_map] at h2
  omega
theorem tl_int (n : Nat) : tl (PyData.int (n : Int)).shown = dgs n := PySem.W.KIN.signs_num n
theorem tl_none : tl PyData.none.shown = [78, 111, 110, 101] := by decide +kernel
theorem ndS_c {c : Nat} {r : List Nat} (h : c < 48) : ndS (c :: r) := fun d s e hd => by
  cases e
  exact absurd hd.1 (by omega)
/-- numbers or None, followed by no digit -/
theorem nu_cut {n m : Option Int} {X Y : List Nat} (hn : ∀ k, n = some k → 0 ≤ k) (hm : ∀ k, m = some k → 0 ≤ k) (hX : ndS X) (hY : ndS Y) (h : tl (nuD n).shown ++ X = tl (nuD m).shown ++ Y) : n = m ∧ X = Y := by
  have hN : ∀ (k : Nat) {X Y : List Nat}, ¬ ([78, 111, 110, 101] ++ X = dgs k ++ Y) := fun k X Y e => by
    cases hd : dgs k with
    | nil => exact dgs_ne k hd
    | cons c r =>
      rw [hd] at e
      simp only [List.cons_append, List.cons.injEq] at e
      have := dgs_all k c (by rw [hd]; simp)
      rw [← e.1] at this
      exact absurd this.2 (by decide)
  rcases n with _ | n <;> rcases m with _ | m
  · have h : tl PyData.none.shown ++ X = tl PyData.none.shown ++ Y := h
    exact ⟨rfl, List.append_cancel_left h⟩
  · obtain ⟨k, rfl⟩ : ∃ k : Nat, m = (k : Int) := ⟨m.toNat, by have := hm m rfl; omega⟩
    have h : tl PyData.none.shown ++ X = tl (PyData.int (k : Int)).shown ++ Y := h
    rw [tl_none, tl_int] at h
    exact absurd h (hN k)
  · obtain ⟨k, rfl⟩ : ∃ k : Nat, n = (k : Int) := ⟨n.toNat, by have := hn n rfl; omega⟩
    have h : tl (PyData.int (k : Int)).shown ++ X = tl PyData.none.shown ++ Y := h
    rw [tl_none, tl_int] at h
    exact absurd h.symm (hN k)
  · obtain ⟨k, rfl⟩ : ∃ k : Nat, n = (k : Int) := ⟨n.toNat, by have := hn n rfl; omega⟩
    obtain ⟨j, rfl⟩ : ∃ k : Nat, m = (k : Int) := ⟨m.toNat, by have := hm m rfl; omega⟩
    have h : tl (PyData.int (k : Int)).shown ++ X = tl (PyData.int (j : Int)).shown ++ Y := h
    rw [tl_int, tl_int] at h
    obtain ⟨h1, h2⟩ := dg_cut (dgs_all k) (dgs_all j) hX hY h
    rw [dgs_inj h1]
    exact ⟨rfl, h2⟩
/-- what comes behind the first of two pauses or more -/
def rest : List Int → List Nat
  | [] => [41]
  | x :: r => 44 :: 32 :: (tl (PyData.int x).shown ++ rest r)
theorem join_rest : ∀ (x : Int) (r : List Int), tl (Str.join ", " (PyData.shownAll ((x :: r).map PyData.int))) ++ [41] = tl (PyData.int x).shown ++ rest r
  | x, [] => rfl
  | x, y :: r => by
    have e : Str.join ", " (PyData.shownAll ((x :: y :: r).map PyData.int)) = (PyData.int x).shown ++ ", " ++ Str.join ", " (PyData.shownAll ((y :: r).map PyData.int)) := rfl
    rw [e, tl_app, tl_app]
    have e2 : tl (", " : Str) = [44, 32] := by decide +kernel
    rw [e2, List.append_assoc, List.append_assoc, join_rest y r]
    all_goals rfl
theorem tl_ps (ps : List Int) : tl (PyData.tuple (ps.map PyData.int)).shown = match ps with
    | [] => [40, 41]
    | [x] => 40 :: (tl (PyData.int x).shown ++ [44, 41])
    | x :: r => 40 :: (tl (PyData.int x).shown ++ rest r) := by
  have e : (PyData.tuple (ps.map PyData.int)).shown = ("(" : Str) ++ Str.join ", " (PyData.shownAll (ps.map PyData.int)) ++ (if (PyData.shownAll (ps.map PyData.int)).length == 1 then ",)" else ")" : String) := rfl
  have e1 : tl ("(" : Str) = [40] := by decide +kernel
  have e2 : tl (")" : Str) = [41] := by decide +kernel
  have e3 : tl (",)" : Str) = [44, 41] := by decide +kernel
  match ps with
  | [] =>
    rw [e, tl_app, tl_app, e1]
    decide +kernel
  | [x] =>
    rw [e, tl_app, tl_app, e1]
    show 40 :: (tl (PyData.int x).shown ++ tl (",)" : Str)) = _
    rw [e3]
  | x :: y :: r =>
    rw [e, tl_app, tl_app, e1]
    have hl : ((PyData.shownAll ((x :: y :: r).map PyData.int)).length == 1) = false := rfl
    rw [hl]
    show 40 :: (tl (Str.join ", " (PyData.shownAll ((x :: y :: r).map PyData.int))) ++ tl (")" : Str)) = _
    rw [e2, join_rest x (y :: r)]
theorem rest_cut : ∀ {ps qs : List Int} {X Y : List Nat}, (∀ x ∈ ps, 0 ≤ x) → (∀ x ∈ qs, 0 ≤ x) → rest ps ++ X = rest qs ++ Y → ps = qs ∧ X = Y
  | [], [], X, Y, _, _, h => ⟨rfl, by simpa [rest] using h⟩
  | [], y :: qs, X, Y, _, _, h => by simp [rest] at h
  | x :: ps, [], X, Y, _, _, h => by simp [rest] at h
  | x :: ps, y :: qs, X, Y, hp, hq, h => by
    simp only [rest, List.cons_append, List.cons.injEq, true_and, List.append_assoc] at h
    have hnd : ∀ (ps : List Int) (X : List Nat), ndS (rest ps ++ X) := fun ps X => by cases ps <;> exact ndS_c (by decide)
    obtain ⟨h1, h2⟩ := nu_cut (n := some x) (m := some y) (fun k hk => by cases hk; exact hp x (by simp)) (fun k hk => by cases hk; exact hq y (by simp)) (hnd ps X) (hnd qs Y) h
    cases h1
    obtain ⟨rfl, rfl⟩ := rest_cut (fun z hz => hp z (List.mem_cons_of_mem _ hz)) (fun z hz => hq z (List.mem_cons_of_mem _ hz)) h2
    exact ⟨rfl, rfl⟩
theorem ps_cut {ps qs : List Int} {X Y : List Nat} (hp : ∀ x ∈ ps, 0 ≤ x) (hq : ∀ x ∈ qs, 0 ≤ x) (h : tl (PyData.tuple (ps.map PyData.int)).shown ++ X = tl (PyData.tuple (qs.map PyData.int)).shown ++ Y) : ps = qs ∧ X = Y := by
  rw [tl_ps, tl_ps] at h
  have hne : ∀ (x : Int) {X Y : List Nat}, 0 ≤ x → ¬ (41 :: X = tl (PyData.int x).shown ++ Y) := fun x X Y hx e => by
    obtain ⟨k, rfl⟩ : ∃ k : Nat, x = (k : Int) := ⟨x.toNat, by omega⟩
    rw [tl_int] at e
    cases hd : dgs k with
    | nil => exact dgs_ne k hd
    | cons c r =>
      rw [hd] at e
      simp only [List.cons_append, List.cons.injEq] at e
      have := dgs_all k c (by rw [hd]; simp)
      rw [← e.1] at this
      exact absurd this.1 (by decide)
  have hnd : ∀ (ps : List Int) (X : List Nat), ndS (rest ps ++ X) := fun ps X => by cases ps <;> exact ndS_c (by decide)
  have cut : ∀ {x y : Int} {X Y : List Nat}, 0 ≤ x → 0 ≤ y → ndS X → ndS Y → tl (PyData.int x).shown ++ X = tl (PyData.int y).shown ++ Y → x = y ∧ X = Y := fun {x y X Y} hx hy hX hY h => by
    obtain ⟨h1, h2⟩ := nu_cut (n := some x) (m := some y) (fun k hk => by cases hk; exact hx) (fun k hk => by cases hk; exact hy) hX hY h
    cases h1
    exact ⟨rfl, h2⟩
  match ps, qs, h with
  | [], [], h => exact ⟨rfl, by simpa using h⟩
  | [], [y], h =>
    simp only [List.cons_append, List.nil_append, List.cons.injEq, true_and, List.append_assoc] at h
    exact absurd h (hne y (hq y (by simp)))
  | [], y :: y' :: r, h =>
    simp only [List.cons_append, List.nil_append, List.cons.injEq, true_and, List.append_assoc] at h
    exact absurd h (hne y (hq y (by simp)))
  | [x], [], h =>
    simp only [List.cons_append, List.nil_append, List.cons.injEq, true_and, List.append_assoc] at h
    exact absurd h.symm (hne x (hp x (by simp)))
  | x :: x' :: r, [], h =>
    simp only [List.cons_append, List.nil_append, List.cons.injEq, true_and, List.append_assoc] at h
    exact absurd h.symm (hne x (hp x (by simp)))
  | [x], [y], h =>
    simp only [List.cons_append, List.nil_append, List.cons.injEq, true_and, List.append_assoc] at h
    obtain ⟨rfl, h2⟩ := cut (hp x (by simp)) (hq y (by simp)) (ndS_c (by decide)) (ndS_c (by decide)) h
    exact ⟨rfl, by simpa using h2⟩
  | [x], y :: y' :: r, h =>
    simp only [List.cons_append, List.nil_append, List.cons.injEq, true_and, List.append_assoc] at h
    obtain ⟨rfl, h2⟩ := cut (hp x (by simp)) (hq y (by simp)) (ndS_c (by decide)) (hnd _ _) h
    simp [rest] at h2
  | x :: x' :: r, [y], h =>
    simp only [List.cons_append, List.nil_append, List.cons.injEq, true_and, List.append_assoc] at h
    obtain ⟨rfl, h2⟩ := cut (hp x (by simp)) (hq y (by simp)) (hnd _ _) (ndS_c (by decide)) h
    simp [rest] at h2
  | x :: x' :: r, y :: y' :: r', h =>
    simp only [List.cons_append, List.nil_append, List.cons.injEq, true_and, List.append_assoc] at h
    obtain ⟨rfl, h2⟩ := cut (hp x (by simp)) (hq y (by simp)) (hnd _ _) (hnd _ _) h
    obtain ⟨h3, h4⟩ := rest_cut (fun z hz => hp z (List.mem_cons_of_mem _ hz)) (fun z hz => hq z (List.mem_cons_of_mem _ hz)) h2
    rw [h3]
    exact ⟨rfl, h4⟩
theorem nu_nn {n : Option Int} (h : NuOk n) : ∀ k, n = some k → 0 ≤ k := fun k hk => by subst hk; exact h.1
theorem pd_w (n : Int) : (Pol.wait n).pd = .tuple [.str (Str.ofString "wait"), nuD (some n)] := rfl
theorem pd_t (k : Two) (a b : Pol) : (Pol.two k a b).pd = .tuple [.str k.s, a.pd, b.pd] := rfl
theorem pd_n (k : Num) (n : Option Int) (a b : Pol) : (Pol.num k n a b).pd = .tuple [.str k.s, nuD n, a.pd, b.pd] := rfl
theorem pd_r (ps : List Int) (a : Pol) : (Pol.retry ps a).pd = .tuple [.str (Str.ofString "retry"), .tuple (ps.map PyData.int), a.pd] := rfl
theorem pd_m (n : Option Int) (a : Pol) : (Pol.tmo n a).pd = .tuple [.str (Str.ofString "timeout"), nuD n, a.pd] := rfl
theorem pd_c (l : Str) (g b : Span) (h : Bool) : (Pol.call l g b h).pd = .tuple [.str (Str.ofString "call"), .str l, spD g, spD b, .bool h] := rfl
theorem tl_t5 (a b c d f : PyData) : tl (PyData.tuple [a, b, c, d, f]).shown = 40 :: (tl a.shown ++ (44 :: 32 :: (tl b.shown ++ (44 :: 32 :: (tl c.shown ++ (44 :: 32 :: (tl d.shown ++ (44 :: 32 :: (tl f.shown ++ [41]))))))))) := by
  have e : (PyData.tuple [a, b, c, d, f]).shown = "(" ++ (a.shown ++ ", " ++ (b.shown ++ ", " ++ (c.shown ++ ", " ++ (d.shown ++ ", " ++ f.shown)))) ++ ")" := rfl
  rw [e]
  simp only [tl_app]
  have e1 : tl ("(" : Str) = [40] := by decide +kernel
  have e2 : tl (", " : Str) = [44, 32] := by decide +kernel
  have e3 : tl (")" : Str) = [41] := by decide +kernel
  rw [e1, e2, e3]
  simp
/-- the word of a kind -/
def kw (k : String) : List Nat := tl (PyData.str (Str.ofString k)).shown
def K9 : List String := ["call", "wait", "then", "both", "fallback", "race", "hedge", "retry", "timeout"]
theorem k9_all : (K9.all fun a => K9.all fun b => a == b || !(kw a).isPrefixOf (kw b)) = true := by decide +kernel
theorem kind_k9 (p : Pol) : p.kind ∈ K9 := by
  cases p with
  | two k a b => cases k <;> simp [Pol.kind, Two.s, K9]
  | num k n a b => cases k <;> simp [Pol.kind, Num.s, K9]
  | _ => simp [Pol.kind, K9]
theorem kw_cut {a b : String} (ha : a ∈ K9) (hb : b ∈ K9) {X Y : List Nat} (h : kw a ++ X = kw b ++ Y) : a = b ∧ X = Y := by
  have key : ∀ {a b : String}, a ∈ K9 → b ∈ K9 → kw a <+: kw b → a = b := fun {a b} ha hb hp => by
    have := List.all_eq_true.mp (List.all_eq_true.mp k9_all a ha) b hb
    rw [Bool.or_eq_true] at this
    rcases this with h | h
    · exact beq_iff_eq.mp h
    · rw [Bool.not_eq_true', ← Bool.not_eq_true, List.isPrefixOf_iff_prefix] at h
      exact absurd hp h
  have e : a = b := by
    rcases Nat.le_total (kw a).length (kw b).length with hl | hl
    · exact key ha hb (List.prefix_of_prefix_length_le (List.prefix_append _ X) (by rw [h]; exact List.prefix_append _ Y) hl)
    · exact (key hb ha (List.prefix_of_prefix_length_le (List.prefix_append _ Y) (by rw [← h]; exact List.prefix_append _ X) hl)).symm
  subst e
  exact ⟨rfl, List.append_cancel_left h⟩
theorem head_pd (p : Pol) : ∃ R, tl p.pd.shown = 40 :: (kw p.kind ++ R) := by
  cases p with
  | call l g b h => exact ⟨_, by rw [pd_c, tl_t5]; all_goals rfl⟩
  | wait n => exact ⟨_, by rw [pd_w, tl_t2]; all_goals rfl⟩
  | two k a b => exact ⟨_, by rw [pd_t, tl_t3]; all_goals rfl⟩
  | num k n a b => exact ⟨_, by rw [pd_n, tl_t4]; all_goals rfl⟩
  | retry ps a => exact ⟨_, by rw [pd_r, tl_t3]; all_goals rfl⟩
  | tmo n a => exact ⟨_, by rw [pd_m, tl_t3]; all_goals rfl⟩
theorem kind_eq {p q : Pol} {X Y : List Nat} (h : tl p.pd.shown ++ X = tl q.pd.shown ++ Y) : p.kind = q.kind := by
  obtain ⟨R, e⟩ := head_pd p
  obtain ⟨R', e'⟩ := head_pd q
  rw [e, e'] at h
  simp only [List.cons_append, List.cons.injEq, true_and, List.append_assoc] at h
  exact (kw_cut (kind_k9 p) (kind_k9 q) h).1
theorem sig_plain : (SIG.cps.toList.all fun c => Builtin.Str.reprChar 39 c == [c] && (c != 39 && c != 44)) = true := by decide +kernel
theorem fold_plain : ∀ (l : List Nat) (acc : Array Nat), (∀ c ∈ l, Builtin.Str.reprChar 39 c = [c]) → (l.foldl (fun out c => out ++ (Builtin.Str.reprChar 39 c).toArray) acc).toList = acc.toList ++ l
  | [], acc, _ => by simp
  | c :: r, acc, h => by
    rw [List.foldl_cons, fold_plain r _ (fun d hd => h d (List.mem_cons_of_mem _ hd)), h c List.mem_cons_self]
    simp
theorem tl_lab {l : Str} (h : IsLab l) : tl (PyData.str l).shown = 39 :: (tl l ++ [39]) ∧ ∀ c ∈ tl l, c ≠ 39 := by
  have hp : ∀ c ∈ tl l, Builtin.Str.reprChar 39 c = [c] ∧ c ≠ 39 := fun c hc => by
    have := List.all_eq_true.mp sig_plain c (h.sg c hc)
    simp only [Bool.and_eq_true, beq_iff_eq, bne_iff_ne] at this
    exact ⟨this.1, this.2.1⟩
  refine ⟨?_, fun c hc => (hp c hc).2⟩
  show (reprText l).cps.toList = _
  have hq : reprQuote l = 39 := by
    unfold reprQuote
    rw [if_neg]
    intro hh
    rw [Bool.and_eq_true] at hh
    have hc : (39 : Nat) ∈ tl l := by
      have := Array.contains_iff_mem.mp hh.1
      exact Array.mem_toList_iff.mpr this
    exact (hp 39 hc).2 rfl
  unfold reprText
  rw [hq]
  show (((l.cps.foldl (fun out c => out ++ (Builtin.Str.reprChar 39 c).toArray) #[39]).push 39)).toList = _
  rw [Array.toList_push, ← Array.foldl_toList, fold_plain l.cps.toList _ (fun c hc => (hp c hc).1)]
  all_goals rfl
theorem q_cut : ∀ {A B X Y : List Nat}, (∀ c ∈ A, c ≠ 39) → (∀ c ∈ B, c ≠ 39) → A ++ 39 :: X = B ++ 39 :: Y → A = B ∧ X = Y
  | [], [], X, Y, _, _, h => ⟨rfl, by simpa using h⟩
  | [], b :: B, X, Y, _, hB, h => by
    simp only [List.nil_append, List.cons_append, List.cons.injEq] at h
    exact absurd h.1.symm (hB b List.mem_cons_self)
  | a :: A, [], X, Y, hA, _, h => by
    simp only [List.nil_append, List.cons_append, List.cons.injEq] at h
    exact absurd h.1 (hA a List.mem_cons_self)
  | a :: A, b :: B, X, Y, hA, hB, h => by
    simp only [List.cons_append, List.cons.injEq] at h
    obtain ⟨rfl, h2⟩ := h
    obtain ⟨rfl, h3⟩ := q_cut (fun c hc => hA c (List.mem_cons_of_mem _ hc)) (fun c hc => hB c (List.mem_cons_of_mem _ hc)) h2
    exact ⟨rfl, h3⟩
theorem tl_inj {x y : Str} (h : tl x = tl y) : x = y := by
  obtain ⟨a⟩ := x
  obtain ⟨b⟩ := y
  have : a = b := Array.toList_inj.mp h
  rw [this]
theorem lab_cut {l k : Str} (hl : IsLab l) (hk : IsLab k) {X Y : List Nat} (h : tl (PyData.str l).shown ++ X = tl (PyData.str k).shown ++ Y) : l = k ∧ X = Y := by
  obtain ⟨e1, n1⟩ := tl_lab hl
  obtain ⟨e2, n2⟩ := tl_lab hk
  rw [e1, e2] at h
  simp only [List.cons_append, List.append_assoc, List.cons.injEq, true_and, List.nil_append] at h
  obtain ⟨h1, h2⟩ := q_cut n1 n2 h
  exact ⟨tl_inj h1, h2⟩
theorem sp_cut {g b : Span} (hg : SpOk g) (hb : SpOk b) {X Y : List Nat} (hX : ndS X) (hY : ndS Y) (h : tl (spD g).shown ++ X = tl (spD b).shown ++ Y) : g = b ∧ X = Y := by
  have e2 : ∀ a b : Int, tl (spD (some (a, b))).shown = 40 :: (tl (PyData.int a).shown ++ (44 :: 32 :: (tl (PyData.int b).shown ++ [41]))) := fun a b => tl_t2 _ _
  have hn : tl (spD none).shown = [78, 111, 110, 101] := tl_none
  match g, b, hg, hb, h with
  | none, none, _, _, h => exact ⟨rfl, List.append_cancel_left h⟩
  | none, some (a, b), _, _, h =>
    rw [hn, e2] at h
    simp at h
  | some (a, b), none, _, _, h =>
    rw [hn, e2] at h
    simp at h
  | some (a, b), some (c, d), hg, hb, h =>
    rw [e2, e2] at h
    simp only [List.cons_append, List.append_assoc, List.cons.injEq, true_and] at h
    have ha : 0 ≤ a ∧ 0 ≤ b := by unfold SpOk at hg; omega
    have hc : 0 ≤ c ∧ 0 ≤ d := by unfold SpOk at hb; omega
    obtain ⟨h1, h2⟩ := nu_cut (n := some a) (m := some c) (fun k hk => by cases hk; exact ha.1) (fun k hk => by cases hk; exact hc.1) (ndS_c (by decide)) (ndS_c (by decide)) h
    cases h1
    simp only [List.cons.injEq, true_and] at h2
    obtain ⟨h3, h4⟩ := nu_cut (n := some b) (m := some d) (fun k hk => by cases hk; exact ha.2) (fun k hk => by cases hk; exact hc.2) (ndS_c (by decide)) (ndS_c (by decide)) h2
    cases h3
    exact ⟨rfl, by simpa using h4⟩
theorem bl_cut {a b : Bool} {X Y : List Nat} (h : tl (PyData.bool a).shown ++ X = tl (PyData.bool b).shown ++ Y) : a = b ∧ X = Y := by
  have h1 : tl (PyData.bool true).shown = [84, 114, 117, 101] := by decide +kernel
  have h0 : tl (PyData.bool false).shown = [70, 97, 108, 115, 101] := by decide +kernel
  cases a <;> cases b <;> first | exact ⟨rfl, List.append_cancel_left h⟩ | (rw [h1, h0] at h; simp at h) | (rw [h0, h1] at h; simp at h)
theorem shown_cut (p : Pol) : ∀ {q : Pol} {X Y : List Nat}, p.All Pol.Node → q.All Pol.Node → tl p.pd.shown ++ X = tl q.pd.shown ++ Y → p = q ∧ X = Y := by
  induction p with
  | call l g b h =>
    intro q X Y hp hq e
    have hk := kind_eq e
    cases q with
    | call l' g' b' h' =>
      obtain ⟨hp1, hp2, hp3, _⟩ := hp
      obtain ⟨hq1, hq2, hq3, _⟩ := hq
      rw [pd_c, pd_c, tl_t5, tl_t5] at e
      simp only [List.cons_append, List.append_assoc, List.cons.injEq, true_and, List.append_cancel_left_eq] at e
      obtain ⟨rfl, e1⟩ := lab_cut hp1 hq1 e
      simp only [List.cons.injEq, true_and] at e1
      obtain ⟨rfl, e2⟩ := sp_cut hp2 hq2 (ndS_c (by decide)) (ndS_c (by decide)) e1
      simp only [List.cons.injEq, true_and] at e2
      obtain ⟨rfl, e3⟩ := sp_cut hp3 hq3 (ndS_c (by decide)) (ndS_c (by decide)) e2
      simp only [List.cons.injEq, true_and] at e3
      obtain ⟨rfl, e4⟩ := bl_cut e3
      exact ⟨rfl, by simpa using e4⟩
    | two k _ _ => cases k <;> simp [Pol.kind, Two.s] at hk
    | num k _ _ _ => cases k <;> simp [Pol.kind, Num.s] at hk
    | _ => simp [Pol.kind] at hk
  | wait n =>
    intro q X Y hp hq e
    have hk := kind_eq e
    cases q with
    | wait m =>
      rw [pd_w, pd_w, tl_t2, tl_t2] at e
      simp only [List.cons_append, List.append_assoc, List.cons.injEq, true_and, List.append_cancel_left_eq] at e
      obtain ⟨h1, h2⟩ := nu_cut (fun k hk => by cases hk; exact hp.1) (fun k hk => by cases hk; exact hq.1) (ndS_c (by decide)) (ndS_c (by decide)) e
      cases h1
      exact ⟨rfl, by simpa using h2⟩
    | two k _ _ => cases k <;> simp [Pol.kind, Two.s] at hk
    | num k _ _ _ => cases k <;> simp [Pol.kind, Num.s] at hk
    | _ => simp [Pol.kind] at hk
  | two k a b iha ihb =>
    intro q X Y hp hq e
    have hk := kind_eq e
    cases q with
    | two k' c d =>
      obtain rfl : k = k' := by cases k <;> cases k' <;> first | rfl | simp [Pol.kind, Two.s] at hk
      rw [pd_t, pd_t, tl_t3, tl_t3] at e
      simp only [List.cons_append, List.append_assoc, List.cons.injEq, true_and, List.append_cancel_left_eq] at e
      obtain ⟨rfl, e2⟩ := iha hp.2.1 hq.2.1 e
      simp only [List.cons_append, List.append_assoc, List.cons.injEq, true_and] at e2
      obtain ⟨rfl, e3⟩ := ihb hp.2.2 hq.2.2 e2
      exact ⟨rfl, by simpa using e3⟩
    | num k' _ _ _ => cases k <;> cases k' <;> simp [Pol.kind, Num.s, Two.s] at hk
    | _ => cases k <;> simp [Pol.kind, Two.s] at hk
  | num k n a b iha ihb =>
    intro q X Y hp hq e
    have hk := kind_eq e
    cases q with
    | num k' m c d =>
      obtain rfl : k = k' := by cases k <;> cases k' <;> first | rfl | simp [Pol.kind, Num.s] at hk
      rw [pd_n, pd_n, tl_t4, tl_t4] at e
      simp only [List.cons_append, List.append_assoc, List.cons.injEq, true_and, List.append_cancel_left_eq] at e
      obtain ⟨rfl, e1⟩ := nu_cut (nu_nn hp.1) (nu_nn hq.1) (ndS_c (by decide)) (ndS_c (by decide)) e
      simp only [List.cons_append, List.append_assoc, List.cons.injEq, true_and] at e1
      obtain ⟨rfl, e2⟩ := iha hp.2.1 hq.2.1 e1
      simp only [List.cons_append, List.append_assoc, List.cons.injEq, true_and] at e2
      obtain ⟨rfl, e3⟩ := ihb hp.2.2 hq.2.2 e2
      exact ⟨rfl, by simpa using e3⟩
    | two k' _ _ => cases k <;> cases k' <;> simp [Pol.kind, Num.s, Two.s] at hk
    | _ => cases k <;> simp [Pol.kind, Num.s] at hk
  | retry ps a iha =>
    intro q X Y hp hq e
    have hk := kind_eq e
    cases q with
    | retry qs b =>
      rw [pd_r, pd_r, tl_t3, tl_t3] at e
      simp only [List.cons_append, List.append_assoc, List.cons.injEq, true_and, List.append_cancel_left_eq] at e
      obtain ⟨rfl, e1⟩ := ps_cut (fun x hx => (hp.1.2 x hx).1) (fun x hx => (hq.1.2 x hx).1) e
      simp only [List.cons_append, List.append_assoc, List.cons.injEq, true_and] at e1
      obtain ⟨rfl, e2⟩ := iha hp.2 hq.2 e1
      exact ⟨rfl, by simpa using e2⟩
    | two k' _ _ => cases k' <;> simp [Pol.kind, Two.s] at hk
    | num k' _ _ _ => cases k' <;> simp [Pol.kind, Num.s] at hk
    | _ => simp [Pol.kind] at hk
  | tmo n a iha =>
    intro q X Y hp hq e
    have hk := kind_eq e
    cases q with
    | tmo m b =>
      rw [pd_m, pd_m, tl_t3, tl_t3] at e
      simp only [List.cons_append, List.append_assoc, List.cons.injEq, true_and, List.append_cancel_left_eq] at e
      obtain ⟨rfl, e1⟩ := nu_cut (nu_nn hp.1) (nu_nn hq.1) (ndS_c (by decide)) (ndS_c (by decide)) e
      simp only [List.cons_append, List.append_assoc, List.cons.injEq, true_and] at e1
      obtain ⟨rfl, e2⟩ := iha hp.2 hq.2 e1
      exact ⟨rfl, by simpa using e2⟩
    | two k' _ _ => cases k' <;> simp [Pol.kind, Two.s] at hk
    | num k' _ _ _ => cases k' <;> simp [Pol.kind, Num.s] at hk
    | _ => simp [Pol.kind] at hk
theorem pair_inj {p q m n : Pol} (hp : p.All Pol.Node) (hq : q.All Pol.Node) (hm : m.All Pol.Node) (hn : n.All Pol.Node) (e : (PyData.tuple [p.pd, m.pd]).shown = (PyData.tuple [q.pd, n.pd]).shown) : p = q ∧ m = n := by
  have e : tl (PyData.tuple [p.pd, m.pd]).shown = tl (PyData.tuple [q.pd, n.pd]).shown := by rw [e]
  rw [tl_t2, tl_t2] at e
  simp only [List.cons.injEq, true_and] at e
  obtain ⟨rfl, e1⟩ := shown_cut p hp hq e
  simp only [List.cons.injEq, true_and] at e1
  exact ⟨rfl, (shown_cut m hm hn e1).1⟩
end Cp.Sh
/-! V61b: policies that are equal as data are the same. -/
namespace Cp.Sh
open PySem L2 Cp
theorem q_int {i j : Int} (h : PyData.eqv (.int i) (.int j) = true) : i = j := by
  have h : (i == j) = true := by rw [PyData.eqv] at h; exact h
  exact beq_iff_eq.mp h
theorem q_nu {n m : Option Int} (h : PyData.eqv (nuD n) (nuD m) = true) : n = m := by
  cases n with
  | none =>
    cases m with
    | none => rfl
    | some j => simp [nuD, PyData.eqv] at h
  | some i =>
    cases m with
    | none => simp [nuD, PyData.eqv] at h
    | some j => rw [q_int h]
theorem q_sp {g b : Span} (h : PyData.eqv (spD g) (spD b) = true) : g = b := by
  cases g with
  | none =>
    cases b with
    | none => rfl
    | some c => simp [spD, PyData.eqv] at h
  | some a =>
    cases b with
    | none => simp [spD, PyData.eqv] at h
    | some c =>
      simp only [spD, eqvTup, eqvT, Bool.and_eq_true] at h
      obtain ⟨a1, a2⟩ := a
      obtain ⟨c1, c2⟩ := c
      have e1 : a1 = c1 := q_int h.1
      have e2 : a2 = c2 := q_int h.2.1
      rw [e1, e2]
theorem q_ints : ∀ {xs ys : List Int}, PyData.eqvAll (xs.map PyData.int) (ys.map PyData.int) = true → xs = ys
  | [], [], _ => rfl
  | [], y :: ys, h => by simp [PyData.eqvAll] at h
  | x :: xs, [], h => by simp [PyData.eqvAll] at h
  | x :: xs, y :: ys, h => by
    simp only [List.map_cons, eqvT, Bool.and_eq_true] at h
    rw [q_int h.1, q_ints h.2]
theorem k9_inj : (K9.all fun a => K9.all fun b => a == b || !(Str.ofString a == Str.ofString b)) = true := by decide +kernel
theorem q_kind {p q : Pol} (h : PyData.eqv p.pd q.pd = true) : p.kind = q.kind := by
  have e : ∀ p : Pol, ∃ ds, p.pd = .tuple (.str (Str.ofString p.kind) :: ds) := fun p => by
    cases p with
    | _ => exact ⟨_, rfl⟩
  obtain ⟨ds, e1⟩ := e p
  obtain ⟨es, e2⟩ := e q
  rw [e1, e2, eqvTup, eqvT, Bool.and_eq_true, eqv_str, decide_eq_true_eq] at h
  have := List.all_eq_true.mp (List.all_eq_true.mp k9_inj p.kind (kind_k9 p)) q.kind (kind_k9 q)
  rw [Bool.or_eq_true] at this
  rcases this with z | z
  · exact beq_iff_eq.mp z
  · rw [h.1] at z
    simp at z
theorem eqv_pol (p : Pol) : ∀ {q : Pol}, PyData.eqv p.pd q.pd = true → p = q := by
  induction p with
  | call l g b h =>
    intro q e
    have hk := q_kind e
    cases q with
    | call l' g' b' h' =>
      rw [pd_c, pd_c] at e
      simp only [eqvTup, eqvT, Bool.and_eq_true, eqv_str, decide_eq_true_eq] at e
      obtain ⟨_, rfl, e1, e2, e3, _⟩ := e
      rw [q_sp e1, q_sp e2]
      cases h <;> cases h' <;> first | rfl | simp [PyData.eqv] at e3
    | two k _ _ => cases k <;> simp [Pol.kind, Two.s] at hk
    | num k _ _ _ => cases k <;> simp [Pol.kind, Num.s] at hk
    | _ => simp [Pol.kind] at hk
  | wait n =>
    intro q e
    have hk := q_kind e
    cases q with
    | wait m =>
      rw [pd_w, pd_w] at e
      simp only [eqvTup, eqvT, Bool.and_eq_true] at e
      cases q_nu e.2.1
      rfl
    | two k _ _ => cases k <;> simp [Pol.kind, Two.s] at hk
    | num k _ _ _ => cases k <;> simp [Pol.kind, Num.s] at hk
    | _ => simp [Pol.kind] at hk
  | two k a b iha ihb =>
    intro q e
    have hk := q_kind e
    cases q with
    | two k' c d =>
      obtain rfl : k = k' := by cases k <;> cases k' <;> first | rfl | simp [Pol.kind, Two.s] at hk
      rw [pd_t, pd_t] at e
      simp only [eqvTup, eqvT, Bool.and_eq_true] at e
      rw [iha e.2.1, ihb e.2.2.1]
    | num k' _ _ _ => cases k <;> cases k' <;> simp [Pol.kind, Num.s, Two.s] at hk
    | _ => cases k <;> simp [Pol.kind, Two.s] at hk
  | num k n a b iha ihb =>
    intro q e
    have hk := q_kind e
    cases q with
    | num k' m c d =>
      obtain rfl : k = k' := by cases k <;> cases k' <;> first | rfl | simp [Pol.kind, Num.s] at hk
      rw [pd_n, pd_n] at e
      simp only [eqvTup, eqvT, Bool.and_eq_true] at e
      rw [q_nu e.2.1, iha e.2.2.1, ihb e.2.2.2.1]
    | two k' _ _ => cases k <;> cases k' <;> simp [Pol.kind, Num.s, Two.s] at hk
    | _ => cases k <;> simp [Pol.kind, Num.s] at hk
  | retry ps a iha =>
    intro q e
    have hk := q_kind e
    cases q with
    | retry qs b =>
      rw [pd_r, pd_r] at e
      simp only [eqvTup, eqvT, Bool.and_eq_true] at e
      rw [q_ints e.2.1, iha e.2.2.1]
    | two k' _ _ => cases k' <;> simp [Pol.kind, Two.s] at hk
    | num k' _ _ _ => cases k' <;> simp [Pol.kind, Num.s] at hk
    | _ => simp [Pol.kind] at hk
  | tmo n a iha =>
    intro q e
    have hk := q_kind e
    cases q with
    | tmo m b =>
      rw [pd_m, pd_m] at e
      simp only [eqvTup, eqvT, Bool.and_eq_true] at e
      rw [q_nu e.2.1, iha e.2.2.1]
    | two k' _ _ => cases k' <;> simp [Pol.kind, Two.s] at hk
    | num k' _ _ _ => cases k' <;> simp [Pol.kind, Num.s] at hk
    | _ => simp [Pol.kind] at hk
theorem pair_okS {p m : Pol} (hp : p.Valid) (hm : m.Valid) : okS (.tuple [p.pd, m.pd]) := ⟨Pol.okS hp.nd, Pol.okS hm.nd, trivial⟩
theorem pair_dep {p m : Pol} (hp : p.Valid) (hm : m.Valid) : (PyData.tuple [p.pd, m.pd]).depth ≤ 50 := by
  have h1 := p.pd_depth
  have h2 := m.pd_depth
  have h3 := hp.dp
  have h4 := hm.dp
  show PyData.depthAll [p.pd, m.pd] + 1 ≤ 50
  have := depthAll_le (B := 45) (ds := [p.pd, m.pd]) fun d hd => by
    rcases List.mem_cons.mp hd with rfl | hd
    · omega
    · rw [List.mem_singleton.mp hd]; omega
  omega
theorem eqv_pair {p q m n : Pol} (hp : p.Valid) (hq : q.Valid) (hm : m.Valid) (hn : n.Valid) : PyData.eqv (.tuple [p.pd, m.pd]) (.tuple [q.pd, n.pd]) = decide ((PyData.tuple [p.pd, m.pd]).shown = (PyData.tuple [q.pd, n.pd]).shown) := by
  cases e : PyData.eqv (.tuple [p.pd, m.pd]) (.tuple [q.pd, n.pd]) with
  | true =>
    rw [eqvTup, eqvT, eqvT, Bool.and_eq_true, Bool.and_eq_true] at e
    rw [eqv_pol p e.1, eqv_pol m e.2.1]
    simp
  | false =>
    refine (decide_eq_false fun h => ?_).symm
    obtain ⟨rfl, rfl⟩ := pair_inj hp.nd hq.nd hm.nd hn.nd h
    rw [eqv_refl (canLay_ok (pair_okS hp hm))] at e
    cases e
theorem gEq_pair {p q m n : Pol} (hp : p.Valid) (hq : q.Valid) (hm : m.Valid) (hn : n.Valid) : gEq (.tuple [p.pd, m.pd]) (.tuple [q.pd, n.pd]) = some (decide ((PyData.tuple [p.pd, m.pd]).shown = (PyData.tuple [q.pd, n.pd]).shown)) := by
  rw [gEq_at (pair_okS hp hm) (pair_okS hq hn) (Nat.le_trans (pair_dep hp hm) (by decide)) (Nat.le_trans (pair_dep hq hn) (by decide)), eqv_pair hp hq hm hn]
theorem rep_pair {p m : Pol} (hp : p.Valid) (hm : m.Valid) : fRepr (.tuple [p.pd, m.pd]) = some (.d (.str (PyData.tuple [p.pd, m.pd]).shown)) ∧ Sgn (PyData.tuple [p.pd, m.pd]).shown := by
  refine ⟨fRepr_at (pair_okS hp hm) ?_ (Nat.le_trans (pair_dep hp hm) (by decide)), shown_sgn (pair_okS hp hm)⟩
  have h1 := Pol.siz_le hp.nd
  have h2 := Pol.siz_le hm.nd
  have h3 := hp.sz
  have h4 := hm.sz
  show (siz p.pd + 2 + (siz m.pd + 2 + 0)) + 3 ≤ 16777216
  omega
end Cp.Sh
namespace K61
open PySem L2 Cp Cp.Sh
def reD (h : List (Pol × Pol)) : List PyData := h.map fun x => .tuple [x.1.pd, x.2.pd]
theorem reD_app (h : List (Pol × Pol)) (a b : Pol) : reD h ++ [.tuple [a.pd, b.pd]] = reD (h ++ [(a, b)]) := by unfold reD; simp
theorem reD_len (h : List (Pol × Pol)) : (reD h).length = h.length := List.length_map _
theorem reD_ok {h : List (Pol × Pol)} (hv : ∀ x ∈ h, x.1.Valid ∧ x.2.Valid) : ∀ d ∈ reD h, okS d ∧ d.depth ≤ 60 := fun d hd => by
  obtain ⟨x, hx, rfl⟩ := List.mem_map.mp hd
  obtain ⟨h1, h2⟩ := hv x hx
  exact ⟨pair_okS h1 h2, Nat.le_trans (pair_dep h1 h2) (by decide)⟩
/-- all but the cells ks stay -/
structure Only (ks : List Nat) (st s : Sto) : Prop where
  ln : s.length = st.length
  at_ : ∀ k, k ∉ ks → s[k]? = st[k]?
theorem Only.refl {ks : List Nat} {st : Sto} : Only ks st st := ⟨rfl, fun _ _ => rfl⟩
theorem Only.set {ks : List Nat} {st s : Sto} (h : Only ks st s) {k : Nat} (hk : k ∈ ks) (c : Cl) : Only ks st (s.set k c) := ⟨by rw [List.length_set]; exact h.ln, fun j hj => by
  rw [List.getElem?_set_ne (fun e => hj (by rw [← e]; exact hk))]; exact h.at_ j hj⟩
section
variable {O O2 : List Ho} {st : Sto} {P : Rv → Sto → Prop} {E : Er → Sto → Prop} {j e j2 e2 : Nat} {p m q n : Pol} {xs ys : List PyData}
theorem w_eq (h : DkAt O st j e p.pd m.pd xs) (h2 : DkAt O2 st j2 e2 q.pd n.pd ys) (hp : p.Valid) (hm : m.Valid) (hq : q.Valid) (hn : n.Valid)
    (hP : P (.d (.bool (decide ((PyData.tuple [p.pd, m.pd]).shown = (PyData.tuple [q.pd, n.pd]).shown)))) st) : WVe noE (sem_Desk___eq__ [.o (.ob j), .o (.ob j2)] st) P := by
  unfold sem_Desk___eq__ sb_Desk___eq__
  rw [W_body]
  refine ⟨rfl, ?_⟩
  have ht : truD (.bool true) = some true := rfl
  simp [h.i, h2.i, gEq_pair hp hq hm hn, szl, ht]
  exact hP
theorem w_eqT {ds : List PyData} (h : DkAt O st j e p.pd m.pd xs) (hP : P (.d (.bool false)) st) : WVe noE (sem_Desk___eq__ [.o (.ob j), .d (.tuple ds)] st) P := by
  unfold sem_Desk___eq__ sb_Desk___eq__
  rw [W_body]
  refine ⟨rfl, ?_⟩
  have ht : truD (.bool false) = some false := rfl
  simp [ht]
  exact hP
theorem w_state (h : DkAt O st j e p.pd m.pd xs) (hP : P (.d (.tuple [p.pd, m.pd])) st) : WVe noE (sem__law_state [.o (.ob j)] st) P := by
  unfold sem__law_state sb__law_state
  rw [W_body]
  refine ⟨rfl, ?_⟩
  simp [h.i, -List.lookup_eq_none_iff]
  refine w_present h ?_
  simp [h.i, -List.lookup_eq_none_iff]
  refine w_marked h ?_
  simp [szl]
  exact hP
theorem w_und {h : List (Pol × Pol)} {pd md : PyData} {x : Vl} (hx0 : x = .d (.list (reD h)) ∨ ∃ k, x = .c k ∧ st[k]? = some (.l (reD h))) (hk : DkAt O st j e pd md (reD h)) (hv : ∀ x ∈ h, x.1.Valid ∧ x.2.Valid) (hl : h.length < 5000)
    (hP : ∀ s p m, Only [0] st s → DkAt O s j e p m [] → P (.d (.bool true)) s) : WVe noE (sem__law_is_undone [.o (.ob j), x] st) P := by
  unfold sem__law_is_undone sb__law_is_undone
  rw [W_body]
  refine ⟨rfl, ?_⟩
  have hp0 := hk.pos
  refine seq_cut (fun ρ s => (∃ x2, ρ = [some (.o (.ob j)), some x, x2]) ∧ Only [0] st s ∧ ∃ p m, DkAt O s j e p m []) ?_ ?_
  · rw [W_sFor]
    have hI : ∀ {Q : Src → Sto → Prop}, Q ((reD h).reverse, none) st → WVe noE (iOf (mTurnK (mN 1)) [some (.o (.ob j)), some x, none] st) Q := fun {Q} hQ => by
      rcases hx0 with rfl | ⟨k, rfl, hx0⟩
      · simp
        exact hQ
      · simp [hx0]
        exact hQ
    refine hI ?_
    refine forGo_by (I := fun k ρ s => (∃ x2, ρ = [some (.o (.ob j)), some x, x2]) ∧ Only [0] st s ∧ ∃ p m, DkAt O s j e p m (reD (h.take (h.length - k)))) _ 0 ⟨⟨_, rfl⟩, .refl, pd, md, by rw [Nat.sub_zero, List.take_length]; exact hk⟩ (fun _ _ _ _ => trivial) ?_ ?_
    · rintro k d ρ s hd ⟨⟨x2, rfl⟩, ho, p0, m0, hks⟩
      rw [Nat.zero_add] at hks ⊢
      have hk1 : k < h.length := by have := (List.getElem?_eq_some_iff.mp hd).1; rw [List.length_reverse, reD_len] at this; exact this
      obtain ⟨⟨a, b⟩, hx⟩ : ∃ x, h[h.length - 1 - k]? = some x := ⟨_, List.getElem?_eq_getElem (by omega)⟩
      rw [List.getElem?_reverse (by rw [reD_len]; exact hk1), reD_len] at hd
      have hd : d = .tuple [a.pd, b.pd] := by
        unfold reD at hd
        rw [List.getElem?_map, hx] at hd
        exact (Option.some.inj hd).symm
      subst hd
      have ht : h.take (h.length - k) = h.take (h.length - (k + 1)) ++ [(a, b)] := by
        rw [show h.length - k = (h.length - 1 - k) + 1 by omega, List.take_succ, hx, show h.length - 1 - k = h.length - (k + 1) by omega]
        all_goals rfl
      rw [ht, ← reD_app] at hks
      have hab := hv _ (List.mem_of_getElem? hx)
      have hok : ∀ d ∈ reD (h.take (h.length - (k + 1))) ++ [.tuple [a.pd, b.pd]], okS d ∧ d.depth ≤ 60 := by
        rw [reD_app, ← ht]
        exact reD_ok fun x hx => hv x (List.mem_of_mem_take hx)
      have hrp := rep_pair hab.1 hab.2
      have hgn : gNe (.str (PyData.tuple [a.pd, b.pd]).shown) (.str (PyData.tuple [a.pd, b.pd]).shown) = some false := gNe_same (shaped_ok (d := .str _) hrp.2 (Nat.zero_le _))
      rw [W_gNm]
      simp [hks.i, -List.lookup_eq_none_iff]
      refine w_undo hks hok fun c hc => ?_
      simp [List.take_of_length_le]
      refine w_state hc ?_
      simp [List.take_of_length_le, hrp.1, hgn]
      exact ⟨ho.set (by simp) c, _, _, hc⟩
    · rintro ρ s ⟨⟨x2, rfl⟩, ho, p0, m0, hks⟩
      rw [Nat.zero_add, List.length_reverse, reD_len, Nat.sub_self] at hks
      exact ⟨⟨_, rfl⟩, ho, _, _, hks⟩
  rintro ρ s ⟨⟨x2, rfl⟩, ho, p0, m0, hks⟩
  simp [hks.i, -List.lookup_eq_none_iff]
  refine w_changes hks (by decide) ?_
  simp [List.take_of_length_le]
  exact hP _ _ _ ho hks
end
end K61
namespace K61
open PySem L2 Cp Cp.Sh
/-- a desk's history and what it holds: the k-th has labels of the first k edits -/
structure Hk (h : List (Pol × Pol)) (p m : Pol) : Prop where
  p : Kt h.length p
  m : Kt h.length m
  h : ∀ k x, h[k]? = some x → Kt k x.1 ∧ Kt k x.2
theorem Hk.val {h : List (Pol × Pol)} {p m : Pol} (H : Hk h p m) (hl : h.length ≤ 12) : p.Valid ∧ m.Valid ∧ ∀ x ∈ h, x.1.Valid ∧ x.2.Valid :=
  ⟨H.p.valid hl, H.m.valid hl, fun x hx => by
    obtain ⟨k, hk, e⟩ := List.getElem_of_mem hx
    have := H.h k x (by rw [List.getElem?_eq_getElem hk, e])
    exact ⟨this.1.valid (by omega), this.2.valid (by omega)⟩⟩
theorem Hk.push {h : List (Pol × Pol)} {p m p' m' : Pol} (H : Hk h p m) (hp : Kt (h.length + 1) p') (hm : Kt (h.length + 1) m') : Hk (h ++ [(p, m)]) p' m' := by
  refine ⟨by simpa using hp, by simpa using hm, fun k x hx => ?_⟩
  by_cases hk : k < h.length
  · rw [List.getElem?_append_left hk] at hx
    exact H.h k x hx
  · rw [List.getElem?_append_right (by omega)] at hx
    have hk2 : k = h.length := by
      have := (List.getElem?_eq_some_iff.mp hx).1
      simp at this; omega
    subst hk2
    rw [Nat.sub_self] at hx
    cases hx
    exact ⟨H.p, H.m⟩
theorem Hk.pop {h : List (Pol × Pol)} {p m a b : Pol} (H : Hk (h ++ [(a, b)]) p m) : Hk h a b := by
  have hx := H.h h.length (a, b) (by rw [List.getElem?_append_right (Nat.le_refl _), Nat.sub_self]; all_goals rfl)
  exact ⟨hx.1, hx.2, fun k x hk => H.h k x (by rw [List.getElem?_append_left (List.getElem?_eq_some_iff.mp hk).1]; exact hk)⟩
section
variable {O : List Ho} {st : Sto} {P : Rv → Sto → Prop} {E : Er → Sto → Prop} {j e i : Nat} {p m : Pol} {u : Cl} {mm : Int}
/-- what a turn of _law_led keeps -/
structure Led (O : List Ho) (st : Sto) (i j e n : Nat) (h : List (Pol × Pol)) (mm : Int) (t : Nat) (g : List (Pol × Pol)) (p m : Pol) (s : Sto) : Prop where
  on : Only [0, i, n] (st ++ [.l []]) s
  past : s[n]? = some (.l (reD g))
  urn : ∃ u, s[i]? = some u ∧ Urn (mm + 40 * t) u
  dk : DkAt O s j e p.pd m.pd (reD (h ++ g))
  hk : Hk (h ++ g) p m
  gl : g.length ≤ t
theorem w_led {h : List (Pol × Pol)} {most : Nat} (hi0 : i ≠ 0) (hu : st[i]? = some u) (hU : Urn mm u) (hm : mm < 2 ^ 150) (hk : DkAt O st j e p.pd m.pd (reD h)) (hK : Hk h p m) (hl : h.length + most ≤ 12)
    (hP : ∀ s g p m u', Only [0, i, st.length] (st ++ [.l []]) s → s[st.length]? = some (.l (reD g)) → s[i]? = some u' → Urn (mm + 600) u' → DkAt O s j e p.pd m.pd (reD (h ++ g)) → Hk (h ++ g) p m → g.length ≤ most → P (.c st.length) s) :
    WVe noE (sem__law_led [.c i, .o (.ob j), .d (.int (most : Int))] st) P := by
  have hp0 := hk.pos
  have hil : i < st.length := (List.getElem?_eq_some_iff.mp hu).1
  unfold sem__law_led sb__law_led
  rw [W_body, eN]
  refine ⟨rfl, ?_⟩
  refine seq_cut (fun ρ s => ρ = [some (.c i), some (.o (.ob j)), some (.d (.int (most : Int))), some (.c st.length), none, none] ∧ s = st ++ [.l []]) (by simp) ?_
  rintro ρ s ⟨rfl, rfl⟩
  refine seq_cut (fun ρ s => ∃ t g p m x4 x5, t ≤ most ∧ ρ = [some (.c i), some (.o (.ob j)), some (.d (.int (most : Int))), some (.c st.length), x4, x5] ∧ Led O st i j e st.length h (mm + 1) t g p m s) ?_ ?_
  · have hiA : ∀ c : Cl, (st ++ [c])[i]? = some u := fun c => by rw [List.getElem?_append_left hil]; exact hu
    simp
    refine w_next (hiA _) hU (by omega) (by omega) (by omega) fun c u1 c0 c1 hU1 => ?_
    simp
    obtain ⟨c, rfl⟩ : ∃ k : Nat, c = (k : Int) := ⟨c.toNat, by omega⟩
    have e1 : List.take (st.length + 1) ((st ++ [Cl.l []]).set i u1) = (st ++ [Cl.l []]).set i u1 := List.take_of_length_le (by simp)
    rw [e1]
    have iA : i < (st ++ [Cl.l ([] : List PyData)]).length := by simp; omega
    refine ⟨rOk_of2 (by decide) (by decide) (by omega) (by omega), ?_⟩
    refine forGo_by (I := fun t ρ s => ∃ g p m x4 x5, ρ = [some (.c i), some (.o (.ob j)), some (.d (.int (most : Int))), some (.c st.length), x4, x5] ∧ Led O st i j e st.length h (mm + 1) t g p m s) _ 0
      ⟨[], p, m, none, none, rfl, Only.refl.set (by simp) _, ?_, ⟨u1, List.getElem?_set_self iA, hU1.mono (by omega)⟩, ?_, by rw [List.append_nil]; exact hK, Nat.le_refl _⟩ (fun _ _ _ _ => trivial) ?_ ?_
    · rw [List.getElem?_set_ne (by omega), List.getElem?_append_right (Nat.le_refl _), Nat.sub_self]; all_goals rfl
    · rw [List.append_nil]; exact (hk.app _).set hi0 _
    · rintro t d ρ s hd ⟨g, p, m, x4, x5, rfl, L⟩
      rw [Nat.zero_add] at L ⊢
      obtain ⟨rfl, htc⟩ := rngD_get hd
      rw [Int.zero_add]
      rw [W_gNm]
      simp only [List.set]
      obtain ⟨u, hu, hU⟩ := L.urn
      have hln : s.length = st.length + 1 := by rw [L.on.ln]; simp
      have his : i < s.length := by omega
      have hns : st.length < s.length := by omega
      have hni : st.length ≠ i := by omega
      have hn0 : st.length ≠ 0 := by omega
      have hhg : (h ++ g).length < 12 := by rw [List.length_append]; have := L.gl; omega
      refine seq_cut (fun ρ s' => ∃ (w : Int) (u' : Cl), 0 ≤ w ∧ Urn (mm + 1 + 40 * t + 1) u' ∧ s' = s.set i u' ∧ ρ = [some (.c i), some (.o (.ob j)), some (.d (.int (most : Int))), some (.c st.length), some (.d (.int (t : Int))), some (.d (.int w))]) ?_ ?_
      · simp
        refine w_next hu hU (by omega) (by decide) (by decide) fun w u2 w0 w1 hU2 => ?_
        simp
        exact ⟨w, w0, u2, hU2, rfl, rfl⟩
      rintro ρ s' ⟨w, u2, w0, hU2, rfl, rfl⟩
      have hdk := L.dk.set hi0 u2
      have hcc : (s.set i u2)[st.length]? = some (.l (reD g)) := by rw [List.getElem?_set_ne (Ne.symm hni)]; exact L.past
      have hon := L.on.set (k := i) (by simp) u2
      have hui : (s.set i u2)[i]? = some u2 := List.getElem?_set_self his
      have hl1 : (s.set i u2).length = st.length + 1 := by simp; exact hln
      have hval := L.hk.val (by omega)
      have hgv : ∀ x ∈ g, x.1.Valid ∧ x.2.Valid := fun x hx => hval.2.2 x (List.mem_append_right _ hx)
      have hK1 := L.hk
      have hgl := L.gl
      generalize s.set i u2 = s1 at hdk hcc hon hui hl1 ⊢
      have hi1 : i < s1.length := by omega
      have hn1 : st.length < s1.length := by omega
      have hne : cmp2 gNe s1 (.c st.length) (.d (.list [])) = some (!(reD g).isEmpty) := by
        rw [cmp2_of (a := .list (reD g)) (b := .list []) (by simp [hcc]) rfl]
        exact gNe_lnil (reD_ok hgv)
      have hle : (reD (h ++ g)).length < 5000 := by rw [reD_len]; omega
      have htk : ∀ d : Cl, List.take s1.length (s1.set 0 d) = s1.set 0 d := fun d => List.take_of_length_le (by simp)
      have htk2 : ∀ (a d : Cl), List.take s1.length ((s1.set st.length a).set 0 d) = (s1.set st.length a).set 0 d := fun a d => List.take_of_length_le (by simp)
      by_cases hw : w = 0 ∧ g ≠ []
      · obtain ⟨rfl, hh⟩ := hw
        obtain ⟨g0, ⟨a, b⟩, rfl⟩ : ∃ g0 x, g = g0 ++ [x] := by
          rcases List.eq_nil_or_concat g with e | ⟨ys, x, e⟩
          · exact absurd e hh
          · exact ⟨ys, x, by simpa using e⟩
        have hemp : (reD (g0 ++ [(a, b)])).isEmpty = false := by rw [← reD_app]; cases reD g0 <;> rfl
        have hdl : (reD (g0 ++ [(a, b)])).dropLast = reD g0 := by rw [← reD_app]; simp
        have hlast : (reD (g0 ++ [(a, b)]))[(reD (g0 ++ [(a, b)])).length - 1]? = some (.tuple [a.pd, b.pd]) := by rw [← reD_app]; simp
        rw [← List.append_assoc, ← reD_app] at hdk
        rw [← List.append_assoc] at hK1
        have hok : ∀ d ∈ reD (h ++ g0) ++ [.tuple [a.pd, b.pd]], okS d ∧ d.depth ≤ 60 := by
          rw [reD_app, List.append_assoc]; exact reD_ok hval.2.2
        simp [hne, hemp, hdk.i, -List.lookup_eq_none_iff]
        refine w_undo hdk hok fun d hd => ?_
        have hc0 : (s1.set 0 d)[st.length]? = some (.l (reD (g0 ++ [(a, b)]))) := by rw [List.getElem?_set_ne (Ne.symm hn0)]; exact hcc
        simp [htk, hc0, hlast, hdl]
        exact ⟨g0, a, b, (hon.set (by simp) d).set (by simp) _, List.getElem?_set_self (by simp; omega), ⟨u2, by rw [List.getElem?_set_ne hni, List.getElem?_set_ne (Ne.symm hi0)]; exact hui, hU2.mono (by omega)⟩, hd.set hn0 _, hK1.pop, by simp at hgl; omega⟩
      · have hls : lstAt s1 (.c st.length) = some (reD g) := by simp [lstAt, hcc]
        have hgl2 : (reD g).length < 16777216 := by rw [reD_len]; have := L.gl; omega
        have hdk2 := hdk.set hn0 (.l (reD g ++ [.tuple [p.pd, m.pd]]))
        have hon2 := hon.set (k := st.length) (by simp) (.l (reD g ++ [.tuple [p.pd, m.pd]]))
        have hcc2 : (s1.set st.length (.l (reD g ++ [.tuple [p.pd, m.pd]])))[st.length]? = some (.l (reD (g ++ [(p, m)]))) := by rw [List.getElem?_set_self hn1, reD_app]
        have hui2 : (s1.set st.length (.l (reD g ++ [.tuple [p.pd, m.pd]])))[i]? = some u2 := by rw [List.getElem?_set_ne hni]; exact hui
        have hl2 : (s1.set st.length (.l (reD g ++ [.tuple [p.pd, m.pd]]))).length = s1.length := List.length_set ..
        have fin : ∀ {s2 : Sto} {d : Cl} {p' m' : Pol} {u' : Cl}, Only [0, i, st.length] (st ++ [.l []]) s2 → s2[st.length]? = some (.l (reD (g ++ [(p, m)]))) → s2[i]? = some u' → Urn (mm + 1 + 40 * (t + 1 : Nat)) u' → DkAt O (s2.set 0 d) j e p'.pd m'.pd (reD (h ++ g) ++ [.tuple [p.pd, m.pd]]) → Kt ((h ++ g).length + 1) p' → Kt ((h ++ g).length + 1) m' →
            Led O st i j e st.length h (mm + 1) (t + 1) (g ++ [(p, m)]) p' m' (s2.set 0 d) := fun {s2 d p' m' u'} h1 h2 h3 h4 h5 h6 h7 =>
          ⟨h1.set (by simp) d, by rw [List.getElem?_set_ne (Ne.symm hn0)]; exact h2, ⟨u', by rw [List.getElem?_set_ne (Ne.symm hi0)]; exact h3, h4⟩, by rw [← List.append_assoc, ← reD_app]; exact h5, by rw [← List.append_assoc]; exact hK1.push h6 h7, by simp; exact hgl⟩
        have c1 : ∀ {Q : Bool → Sto → Prop}, Q false s1 → WVe noE (bAnd (mCmp gEq (mN 5) (mK (.int 0))) (mCmp gNe (mN 3) (mLst aNil)) [some (.c i), some (.o (.ob j)), some (.d (.int (most : Int))), some (.c st.length), some (.d (.int (t : Int))), some (.d (.int w))] s1) Q := fun {Q} hQ => by
          by_cases h0 : w = 0
          · have hg0 : g = [] := Decidable.byContradiction fun hh => hw ⟨h0, hh⟩
            subst hg0
            have hne2 : cmp2 gNe s1 (.c st.length) (.d (.list [])) = some false := hne
            simp [h0, hne2]
            exact hQ
          · simp [h0]
            exact hQ
        have c2 : ∀ {Q : Bool → Sto → Prop}, Q (decide (w = 1)) s1 → WVe noE (mCmp gEq (mN 5) (mK (.int 1)) [some (.c i), some (.o (.ob j)), some (.d (.int (most : Int))), some (.c st.length), some (.d (.int (t : Int))), some (.d (.int w))] s1) Q := fun {Q} hQ => by
          simp
          exact hQ
        rw [W_sIf]
        refine c1 ?_
        simp only [Bool.false_eq_true, if_false]
        rw [W_sIf]
        refine c2 ?_
        by_cases hw1 : w = 1
        · subst hw1
          simp [hdk.i, hcc, -List.lookup_eq_none_iff]
          refine w_state hdk ?_
          simp [hcc, szl, List.take_of_length_le, -List.lookup_eq_none_iff]
          refine ⟨hgl2, ?_⟩
          simp [hdk2.i, -List.lookup_eq_none_iff]
          refine w_mark hdk2 hle fun d hd => ?_
          simp [List.take_of_length_le]
          exact ⟨_, _, _, fin hon2 hcc2 hui2 (hU2.mono (by omega)) hd (hK1.p.up (by omega)) (hK1.p.up (by omega))⟩
        · rw [decide_eq_false hw1]
          simp only [Bool.false_eq_true, if_false]
          have hmade : ∀ {Q : Rv → Sto → Prop}, (∀ d p' u', Deed p d p' → Kt ((h ++ g).length + 1) p' → Urn (mm + 1 + 40 * t + 1 + 20) u' → Q (.d d) ((s1.set st.length (.l (reD g ++ [.tuple [p.pd, m.pd]]))).set i u')) → WVe noE (sem__law_made [.c i, .d p.pd, .d (.int ((h.length : Int) + (g.length : Int)))] (s1.set st.length (.l (reD g ++ [.tuple [p.pd, m.pd]])))) Q := fun {Q} hQ =>
            (by rw [show (h.length : Int) + (g.length : Int) = (((h ++ g).length : Nat) : Int) by simp]; exact w_made (by omega) hK1.p hui2 hU2 (by omega) hQ)
          have htk3 : ∀ (a c : Cl), List.take s1.length ((s1.set st.length a).set i c) = (s1.set st.length a).set i c := fun a c => List.take_of_length_le (by simp)
          have htk4 : ∀ (a c d : Cl), List.take s1.length (((s1.set st.length a).set i c).set 0 d) = ((s1.set st.length a).set i c).set 0 d := fun a c d => List.take_of_length_le (by simp)
          have go : ∀ {B' C' : En → Sto → Prop}, WSe noE ((sSeq (sExp (mApp (mN 3) (mCall sem__law_state (aCons (mV (mN 1)) aNil)))) (sExp (mCall sem__law_done (aCons (mV (mN 1)) (aCons (mV (mCall sem__law_made (aCons (mVc (mN 0)) (aCons (mV (mMeth "Desk" "present" sem_Desk_present (mN 1) aNil)) (aCons (mV (mMeth "Desk" "changes" sem_Desk_changes (mN 1) aNil)) aNil))))) aNil))))) [some (.c i), some (.o (.ob j)), some (.d (.int (most : Int))), some (.c st.length), some (.d (.int (t : Int))), some (.d (.int w))] s1)
              (fun ρ s => ∃ g p m x4 x5, ρ = [some (.c i), some (.o (.ob j)), some (.d (.int (most : Int))), some (.c st.length), x4, x5] ∧ Led O st i j e st.length h (mm + 1) (t + 1) g p m s) B' C' P := fun {B' C'} => by
            refine seq_cut (fun ρ s => ρ = [some (.c i), some (.o (.ob j)), some (.d (.int (most : Int))), some (.c st.length), some (.d (.int (t : Int))), some (.d (.int w))] ∧ s = s1.set st.length (.l (reD g ++ [.tuple [p.pd, m.pd]]))) ?_ ?_
            · simp [hcc]
              refine w_state hdk ?_
              simp [hcc, szl, List.take_of_length_le]
              exact hgl2
            rintro ρ s2 ⟨rfl, rfl⟩
            simp [hdk2.i, -List.lookup_eq_none_iff]
            refine w_present hdk2 ?_
            simp [hdk2.i, -List.lookup_eq_none_iff]
            refine w_changes hdk2 hle ?_
            simp only [reD_len]
            simp
            refine hmade fun d p' u3 hD hKp hU3 => ?_
            simp [htk3]
            have hdk3 := hdk2.set hi0 u3
            have hle3 := hle
            refine w_done hdk3 hle hD (hKp.valid (by omega)) fun d hd => ?_
            simp [htk4]
            exact ⟨_, _, _, fin (hon2.set (k := i) (by simp) u3) (by rw [List.getElem?_set_ne (Ne.symm hni)]; exact hcc2) (List.getElem?_set_self (by rw [hl2]; exact hi1)) (hU3.mono (by omega)) hd hKp (hK1.m.up (by omega))⟩
          exact go
    · rintro ρ s ⟨g, p, m, x4, x5, rfl, L⟩
      have e2 : 0 + (rngD 0 (c : Int)).length = c := by unfold rngD; simp
      rw [e2] at L
      exact ⟨c, by omega, ⟨_, _, rfl⟩, g, p, m, L⟩
  rintro ρ s ⟨t, g, p, m, x4, x5, ht, rfl, L⟩
  obtain ⟨u', hu', hU'⟩ := L.urn
  simp
  exact hP s g p m u' L.on L.past hu' (hU'.mono (by omega)) L.dk L.hk (by have := L.gl; omega)
end
end K61
namespace K61
open PySem L2 Cp Cp.Sh
def pT (k : Int) : Pol := .tmo (some k) (.wait 2)
theorem pT_valid {k : Int} (h : 0 ≤ k ∧ k ≤ 50) : (pT k).Valid := ⟨⟨⟨h.1, by omega⟩, ⟨by decide, by decide⟩⟩, by show 1 + 1 ≤ 40; decide, by show 1 + 1 ≤ 20; decide, by show ([] : List Str).Nodup; simp⟩
/-- policies of the long history -/
def IsT (p : Pol) : Prop := ∃ k : Int, p = pT k ∧ 0 ≤ k ∧ k ≤ 50
theorem IsT.valid {p : Pol} (h : IsT p) : p.Valid := by obtain ⟨k, rfl, hk⟩ := h; exact pT_valid hk
section
variable {O : List Ho} {st : Sto} {P : Rv → Sto → Prop} {j e i : Nat} {u : Cl} {mm : Int}
structure Mny (O : List Ho) (n i j e : Nat) (mm : Int) (t : Nat) (h : List (Pol × Pol)) (p m : Pol) (s : Sto) : Prop where
  ln : s.length = n + 1
  past : s[n]? = some (.l (reD h))
  urn : ∃ u, s[i]? = some u ∧ Urn (mm + 2 * t) u
  dk : DkAt O s j e p.pd m.pd (reD h)
  p : IsT p
  m : IsT m
  hh : ∀ x ∈ h, IsT x.1 ∧ IsT x.2
  hl : h.length ≤ 2 * t
theorem w_many (hi0 : i ≠ 0) (hu : st[i]? = some u) (hU : Urn mm u) (hm : mm < 2 ^ 150) (hP : ∀ s, st.length ≤ s.length → P (.d (.bool true)) s) : WVe noE (sem__law_many_right [.c i] st) P := by
  have hil : i < st.length := (List.getElem?_eq_some_iff.mp hu).1
  have hp0 : 0 < st.length := by omega
  unfold sem__law_many_right sb__law_many_right
  rw [W_body, eN]
  refine ⟨rfl, ?_⟩
  refine seq_cut (fun ρ s => ∃ O j e, Mny O st.length i j e mm 0 [] (pT 1) (pT 1) s ∧ ρ = [some (.c i), some (.o (.ob j)), some (.c st.length), none]) ?_ ?_
  · have hv := pT_valid (k := 1) (by decide)
    have epd : PyData.tuple [.str (Str.ofString "timeout"), .int 1, .tuple [.str (Str.ofString "wait"), .int 2]] = (pT 1).pd := rfl
    simp [szl]
    rw [epd]
    refine w_init (n := (objsOf st).length + 1) hv ?_ ?_ fun c hc hk hln => ?_
    · exact insAt_of (by rw [objsOf_new hp0, List.getElem?_append_right (Nat.le_refl _), Nat.sub_self]; all_goals rfl)
    · rw [objsOf_new hp0, List.length_append]; all_goals rfl
    have e1 : (newO st (.ins "Desk" [])).set 0 c = st.set 0 c := by unfold newO; rw [List.set_set]
    rw [e1] at hc ⊢
    have htk : List.take st.length (st.set 0 c) = st.set 0 c := List.take_of_length_le (by simp)
    simp [htk]
    refine ⟨_, _, by simp, ?_, ⟨u, ?_, hU.mono (by omega)⟩, hc.app _, ⟨1, rfl, by decide⟩, ⟨1, rfl, by decide⟩, fun x hx => (nomatch hx), Nat.le_refl _⟩
    · rw [List.getElem?_append_right (by simp)]; simp; all_goals rfl
    · rw [List.getElem?_append_left (by simpa using hil), List.getElem?_set_ne (Ne.symm hi0)]; exact hu
  rintro ρ s ⟨O, j, e, M0, rfl⟩
  refine seq_cut (fun ρ s => ∃ h p m x3, Mny O st.length i j e mm 1300 h p m s ∧ ρ = [some (.c i), some (.o (.ob j)), some (.c st.length), x3]) ?_ ?_
  · simp
    refine ⟨by decide +kernel, ?_⟩
    refine forGo_by (I := fun t ρ s => ∃ h p m x3, Mny O st.length i j e mm t h p m s ∧ ρ = [some (.c i), some (.o (.ob j)), some (.c st.length), x3]) _ 0 ⟨[], _, _, _, M0, rfl⟩ (fun _ _ _ _ => trivial) ?_ ?_
    · rintro t d ρ s hd ⟨h, p, m, x3, M, rfl⟩
      rw [Nat.zero_add] at M ⊢
      obtain ⟨rfl, htc⟩ := rngD_get hd
      rw [Int.zero_add]
      rw [W_gNm]
      simp only [List.set]
      obtain ⟨u, hu, hU⟩ := M.urn
      have hln := M.ln
      have hni : st.length ≠ i := by omega
      have hn0 : st.length ≠ 0 := by omega
      have hns : st.length < s.length := by omega
      have his : i < s.length := by omega
      have hgl2 : (reD h).length < 16777216 := by rw [reD_len]; have := M.hl; omega
      have hle : (reD h).length < 5000 := by rw [reD_len]; have := M.hl; omega
      obtain ⟨k0, rfl, hk0⟩ := id M.p
      -- the state is kept
      refine seq_cut (fun ρ s' => s' = s.set st.length (.l (reD (h ++ [(pT k0, m)]))) ∧ ρ = [some (.c i), some (.o (.ob j)), some (.c st.length), some (.d (.int (t : Int)))]) ?_ ?_
      · have hcc := M.past
        simp [hcc]
        refine w_state M.dk ?_
        simp [hcc, szl, List.take_of_length_le]
        rw [reD_app]
        exact ⟨hgl2, rfl⟩
      rintro ρ s1 ⟨rfl, rfl⟩
      have hdk1 := M.dk.set hn0 (.l (reD (h ++ [(pT k0, m)])))
      have hu1 : (s.set st.length (.l (reD (h ++ [(pT k0, m)]))))[i]? = some u := by rw [List.getElem?_set_ne hni]; exact hu
      have hc1 : (s.set st.length (.l (reD (h ++ [(pT k0, m)]))))[st.length]? = some (.l (reD (h ++ [(pT k0, m)]))) := List.getElem?_set_self hns
      have hl1 : (s.set st.length (.l (reD (h ++ [(pT k0, m)])))).length = st.length + 1 := by simp; exact hln
      generalize s.set st.length (.l (reD (h ++ [(pT k0, m)]))) = s1 at hdk1 hu1 hc1 hl1 ⊢
      have his1 : i < s1.length := by omega
      have hns1 : st.length < s1.length := by omega
      refine seq_cut (fun ρ s' => ∃ k u' c, (0 ≤ k ∧ k ≤ 50) ∧ Urn (mm + 2 * t + 1) u' ∧ s' = (s1.set i u').set 0 c ∧ DkAt O s' j e (pT k).pd m.pd (reD (h ++ [(pT k0, m)])) ∧ ρ = [some (.c i), some (.o (.ob j)), some (.c st.length), some (.d (.int (t : Int)))]) ?_ ?_
      · simp [hdk1.i, szl, -List.lookup_eq_none_iff]
        refine w_next hu1 hU (by omega) (by decide) (by decide) fun k u2 k0' k1 hU2 => ?_
        have htk : List.take s1.length (s1.set i u2) = s1.set i u2 := List.take_of_length_le (by simp)
        simp [htk]
        have hdk2 := hdk1.set hi0 u2
        refine w_set_number (x := pT k) (r := pT k0) (q := []) (d := .int k) hdk2 hle rfl (by decide) (.t _ (some k) _ ⟨k0', by omega⟩) (pT_valid ⟨k0', by omega⟩) fun c hc => ?_
        have htk2 : List.take s1.length ((s1.set i u2).set 0 c) = (s1.set i u2).set 0 c := List.take_of_length_le (by simp)
        simp [htk2]
        rw [reD_app] at hc
        exact ⟨k, ⟨k0', by omega⟩, u2, hU2, ⟨c, rfl⟩, hc⟩
      rintro ρ s2 ⟨k, u2, c, hk, hU2, rfl, hdk2, rfl⟩
      have hu2 : ((s1.set i u2).set 0 c)[i]? = some u2 := by rw [List.getElem?_set_ne (Ne.symm hi0)]; exact List.getElem?_set_self his1
      have hc2 : ((s1.set i u2).set 0 c)[st.length]? = some (.l (reD (h ++ [(pT k0, m)]))) := by rw [List.getElem?_set_ne (Ne.symm hn0), List.getElem?_set_ne (Ne.symm hni)]; exact hc1
      have hl2 : ((s1.set i u2).set 0 c).length = st.length + 1 := by simp; exact hl1
      generalize (s1.set i u2).set 0 c = s2 at hdk2 hu2 hc2 hl2 ⊢
      have his2 : i < s2.length := by omega
      have hns2 : st.length < s2.length := by omega
      have hhn : ∀ x ∈ h ++ [(pT k0, m)], IsT x.1 ∧ IsT x.2 := fun x hx => by
        rcases List.mem_append.mp hx with hx | hx
        · exact M.hh x hx
        · rw [List.mem_singleton.mp hx]; exact ⟨M.p, M.m⟩
      have hhl := M.hl
      simp [-List.lookup_eq_none_iff]
      refine w_next hu2 hU2 (by omega) (by decide) (by decide) fun w u3 w0 w1 hU3 => ?_
      have htk3 : List.take s2.length (s2.set i u3) = s2.set i u3 := List.take_of_length_le (by simp)
      simp [htk3, -List.lookup_eq_none_iff]
      have hdk3 := hdk2.set hi0 u3
      have hc3 : (s2.set i u3)[st.length]? = some (.l (reD (h ++ [(pT k0, m)]))) := by rw [List.getElem?_set_ne (Ne.symm hni)]; exact hc2
      have hu3 : (s2.set i u3)[i]? = some u3 := List.getElem?_set_self his2
      have hl3 : (s2.set i u3).length = st.length + 1 := by simp; exact hl2
      generalize s2.set i u3 = s3 at hdk3 hu3 hc3 hl3 ⊢
      have htk5 : List.take s2.length s3 = s3 := List.take_of_length_le (by omega)
      split
      · have hcl : (reD (h ++ [(pT k0, m)])).length < 16777216 := by rw [reD_len]; simp; omega
        have hcle : (reD (h ++ [(pT k0, m)])).length < 5000 := by rw [reD_len]; simp; omega
        have hl23 : s2.length = s3.length := by omega
        simp [hl23, hc3, -List.lookup_eq_none_iff]
        refine w_state hdk3 ?_
        simp [hl23, hc3, szl, List.take_length, -List.lookup_eq_none_iff]
        refine ⟨hcl, ?_⟩
        have hdk4 := hdk3.set hn0 (.l (reD (h ++ [(pT k0, m)]) ++ [.tuple [(pT k).pd, m.pd]]))
        simp [hdk4.i, -List.lookup_eq_none_iff]
        refine w_mark hdk4 hcle fun c hc => ?_
        rw [reD_app] at hc
        simp [List.take_of_length_le]
        rw [reD_app]
        have hns3 : st.length < s3.length := by omega
        exact ⟨h ++ [(pT k0, m)] ++ [(pT k, m)], pT k, pT k, ⟨by simp; exact hl3, by rw [List.getElem?_set_ne (Ne.symm hn0)]; exact List.getElem?_set_self hns3, ⟨u3, by rw [List.getElem?_set_ne (Ne.symm hi0), List.getElem?_set_ne hni]; exact hu3, hU3.mono (by omega)⟩, hc, ⟨k, rfl, hk⟩, ⟨k, rfl, hk⟩, fun x hx => by
          rcases List.mem_append.mp hx with hx | hx
          · exact hhn x hx
          · rw [List.mem_singleton.mp hx]; exact ⟨⟨k, rfl, hk⟩, M.m⟩, by simp; omega⟩⟩
      · exact ⟨h ++ [(pT k0, m)], pT k, m, ⟨hl3, hc3, ⟨u3, hu3, hU3.mono (by omega)⟩, hdk3, ⟨k, rfl, hk⟩, M.m, hhn, by simp; omega⟩⟩
    · rintro ρ s ⟨h, p, m, x3, M, rfl⟩
      have e2 : 0 + (rngD 0 1300).length = 1300 := by unfold rngD; simp
      rw [e2] at M
      exact ⟨⟨h, p, m, M⟩, x3, rfl⟩
  rintro ρ s ⟨h, p, m, x3, M, rfl⟩
  have hle : (reD h).length < 5000 := by rw [reD_len]; have := M.hl; omega
  have hcc := M.past
  simp [M.dk.i, -List.lookup_eq_none_iff]
  refine w_changes M.dk hle ?_
  simp [List.take_of_length_le, hcc]
  refine w_und (h := h) (x := .c st.length) (.inr ⟨_, rfl, hcc⟩) M.dk (fun x hx => ⟨(M.hh x hx).1.valid, (M.hh x hx).2.valid⟩) (by have := M.hl; omega) fun s' p' m' ho hd => ?_
  simp
  exact hP _ (by rw [List.length_take, ho.ln, M.ln]; omega)
end
end K61
namespace K61
open PySem L2 Cp Cp.Sh
theorem kt_drawn4 {p : Pol} {stem : Str} (hb : p.Bnd 4) (hs : p.size ≤ 6) (hl : p.Lab stem 0) (hst : stem ∈ stems) : Kt 0 p := by
  have hv := valid_drawn (by decide) hb (by omega) (by have := depth_size p; omega) hl hst
  refine ⟨hv.nd, by omega, hv.lb, fun l h k _ hk => ?_⟩
  have hn := labs_le p
  have hl : p.labs = (List.range p.labs.length).map fun x => labK stem (0 + x + 1) := hl
  rw [hl] at h
  obtain ⟨x, hx, rfl⟩ := List.mem_map.mp h
  rw [Nat.zero_add]
  exact of_decide_eq_true (List.all_eq_true.mp (List.all_eq_true.mp (List.all_eq_true.mp putL_new stem hst) x (List.mem_range.mpr (by have := List.mem_range.mp hx; omega))) k (List.mem_range.mpr hk))
/-- a desk with its history -/
structure Dsk (s : Sto) (j e : Nat) (g : List (Pol × Pol)) (p m : Pol) : Prop where
  d : Dk s j e p.pd m.pd (reD g)
  k : Hk g p m
  l : g.length ≤ 12
theorem Dsk.val {s : Sto} {j e : Nat} {g : List (Pol × Pol)} {p m : Pol} (D : Dsk s j e g p m) : p.Valid ∧ m.Valid ∧ ∀ x ∈ g, x.1.Valid ∧ x.2.Valid := D.k.val D.l
theorem Dsk.mov {s s' : Sto} {j e j2 e2 : Nat} {g : List (Pol × Pol)} {p m : Pol} {pd md : PyData} {xs : List PyData} (D : Dsk s j e g p m) (h : DkAt (objsOf s) s' j2 e2 pd md xs) (h1 : j ≠ j2) (h2 : j ≠ e2) (h3 : e ≠ j2) (h4 : e ≠ e2) : Dsk s' j e g p m :=
  ⟨D.d.kp (h.fr j h1 h2) (h.fr e h3 h4), D.k, D.l⟩
theorem Dsk.set {s : Sto} {j e i : Nat} {g : List (Pol × Pol)} {p m : Pol} (D : Dsk s j e g p m) (hi : i ≠ 0) (c : Cl) : Dsk (s.set i c) j e g p m := ⟨(D.d.set hi c).tt, D.k, D.l⟩
theorem Dsk.tk {s : Sto} {j e n : Nat} {g : List (Pol × Pol)} {p m : Pol} (D : Dsk s j e g p m) (hn : 0 < n) : Dsk (s.take n) j e g p m := ⟨(D.d.tk hn).tt, D.k, D.l⟩
section
variable {st : Sto} {P : Rv → Sto → Prop} {i : Nat} {u : Cl} {mm : Int}
/-- led, as a call: what is left behind it -/
theorem c_led {j e : Nat} {g : List (Pol × Pol)} {p m : Pol} {most : Nat} (hi0 : i ≠ 0) (hu : st[i]? = some u) (hU : Urn mm u) (hm : mm < 2 ^ 150) (D : Dsk st j e g p m) (hl : g.length + most ≤ 12)
    (hP : ∀ s g' p' m' u', s.length = st.length → s[i]? = some u' → Urn (mm + 600) u' → DkAt (objsOf st) s j e p'.pd m'.pd (reD (g ++ g')) → Dsk s j e (g ++ g') p' m' → g'.length ≤ most → P (.n (.l (reD g'))) s) :
    WVe noE (sem__law_led [.c i, .o (.ob j), .d (.int (most : Int))] st) fun r s' => back st.length r s' P := by
  have hil : i < st.length := (List.getElem?_eq_some_iff.mp hu).1
  refine w_led hi0 hu hU hm D.d D.k hl fun s g' p' m' u' ho hc hu' hU' hd hk hl' => ?_
  have hn : ¬ (st.length < st.length) := by omega
  rw [back_c, if_neg hn, hc]
  refine ⟨rfl, hP _ g' p' m' u' (by rw [List.length_take, ho.ln]; simp) ?_ hU' (hd.tk (by omega)) ⟨(hd.tk (by omega)).tt, hk, by rw [List.length_append]; omega⟩ hl'⟩
  rw [List.getElem?_take_of_lt hil]; exact hu'
theorem c_und {j e : Nat} {g : List (Pol × Pol)} {p m : Pol} (D : Dsk st j e g p m) (hP : ∀ s p' m', s.length = st.length → DkAt (objsOf st) s j e p' m' [] → P (.d (.bool true)) s) :
    WVe noE (sem__law_is_undone [.o (.ob j), .d (.list (reD g))] st) fun r s' => back st.length r s' P := by
  have hp := D.d.pos
  refine w_und (h := g) (.inl rfl) D.d D.val.2.2 (by have := D.l; omega) fun s p' m' ho hd => ?_
  rw [back_d]
  exact hP _ p' m' (by rw [List.length_take, ho.ln]; omega) (hd.tk hp)
structure Ap (j e j2 e2 : Nat) : Prop where
  a : j ≠ j2
  b : j ≠ e2
  c : e ≠ j2
  d : e ≠ e2
theorem Ap.symm {j e j2 e2 : Nat} (h : Ap j e j2 e2) : Ap j2 e2 j e := ⟨h.a.symm, h.c.symm, h.b.symm, h.d.symm⟩
theorem Dsk.by_ {s s' : Sto} {j e j2 e2 : Nat} {g : List (Pol × Pol)} {p m : Pol} {pd md : PyData} {xs : List PyData} (D : Dsk s j e g p m) (h : DkAt (objsOf s) s' j2 e2 pd md xs) (a : Ap j e j2 e2) : Dsk s' j e g p m := D.mov h a.a a.b a.c a.d
theorem c_clone {j e : Nat} {g : List (Pol × Pol)} {p m : Pol} (D : Dsk st j e g p m) (hP : ∀ s j2 e2, s.length = st.length → (∀ k, k ≠ 0 → s[k]? = st[k]?) → Dsk s j2 e2 g p m → (∀ j' e' g' p' m', Dsk st j' e' g' p' m' → Dsk s j' e' g' p' m' ∧ Ap j' e' j2 e2) → P (.o (.ob j2)) s) :
    WVe noE (sem_Desk_clone [.o (.ob j)] st) fun r s' => back st.length r s' P := by
  refine w_clone D.val.1 D.d fun c e2 h1 h2 h3 => ?_
  have htk : List.take st.length (st.set 0 c) = st.set 0 c := List.take_of_length_le (by simp)
  show P _ (List.take st.length (st.set 0 c))
  rw [htk]
  refine hP _ _ e2 (by simp) (fun k hk => by rw [List.getElem?_set_ne (Ne.symm hk)]) ⟨h1, D.k, D.l⟩ fun j' e' g' p' m' D' => ?_
  obtain ⟨l1, l2⟩ := D'.d.lt
  exact ⟨⟨D'.d.kp (h3 j' l1 (by simp)) (h3 e' l2 (by simp)), D'.k, D'.l⟩, ⟨by omega, by omega, by omega, by omega⟩⟩
/-- the law's look at two desks -/
theorem c_cmp {j1 e1 j2 e2 : Nat} {g1 g2 : List (Pol × Pol)} {p1 m1 p2 m2 : Pol} {N B C : En → Sto → Prop} {x0 x1 x2 x3 x4 x5 x6 x9 : Option Vl} (D1 : Dsk st j1 e1 g1 p1 m1) (D2 : Dsk st j2 e2 g2 p2 m2)
    (hN : N [x0, x1, x2, x3, x4, x5, x6, some (.o (.ob j1)), some (.o (.ob j2)), x9] st) :
    WSe noE ((sIf (mCmp gNe (mEqO "Desk" sem_Desk___eq__ (mN 7) (mN 8)) (bV (mCmp gEq (mCal (Cp.g1 fRepr) (aCons (mV (mCall sem__law_state (aCons (mV (mN 7)) aNil))) aNil)) (mCal (Cp.g1 fRepr) (aCons (mV (mCall sem__law_state (aCons (mV (mN 8)) aNil))) aNil))))) (sRet (mK (.bool false))) sNil) [x0, x1, x2, x3, x4, x5, x6, some (.o (.ob j1)), some (.o (.ob j2)), x9] st) N B C P := by
  have r1 := rep_pair D1.val.1 D1.val.2.1
  have r2 := rep_pair D2.val.1 D2.val.2.1
  have hq := gEq_str r1.2 r2.2
  have hnb : ∀ k : Bool, gNe (.bool k) (.bool k) = some false := fun k => by cases k <;> rfl
  simp [D1.d.i, eqR, D2.d.i]
  refine w_eq D1.d D2.d D1.val.1 D1.val.2.1 D2.val.1 D2.val.2.1 ?_
  generalize decide ((PyData.tuple [p1.pd, m1.pd]).shown = (PyData.tuple [p2.pd, m2.pd]).shown) = kb at hq ⊢
  have ht : List.take st.length st = st := List.take_length
  cases kb with
  | false =>
    refine .inl ⟨rfl, ?_⟩
    rw [ht]
    refine w_state D1.d ?_
    simp [List.take_of_length_le, r1.1]
    refine w_state D2.d ?_
    simp [List.take_of_length_le, r2.1, hq, hnb]
    exact hN
  | true =>
    refine .inr ⟨rfl, ?_⟩
    rw [ht]
    refine w_state D1.d ?_
    simp [List.take_of_length_le, r1.1]
    refine w_state D2.d ?_
    simp [List.take_of_length_le, r2.1, hq, hnb]
    exact hN
@[simp] theorem lm11 {p m : PyData} {e : Nat} : (dkF p m e).lookup (Str.ofString "clone") = none := rfl
def S3 (st : Sto) (i : Nat) (mm : Int) (f : Pol) (j1 e1 : Nat) (ρ : En) (s : Sto) : Prop := ∃ g p m u', s.length = st.length ∧ s[i]? = some u' ∧ Urn (mm + 700) u' ∧ Dsk s j1 e1 g p m ∧ g.length ≤ 8 ∧ ρ = [some (.c i), some (.d f.pd), some (.o (.ob j1)), some (.d (.list (reD g))), none, none, none, none, none, none]
def S4 (st : Sto) (i : Nat) (u3 : Cl) (f p m : Pol) (g : List (Pol × Pol)) (j1 e1 : Nat) (ρ : En) (s : Sto) : Prop := ∃ j2 e2, s.length = st.length ∧ s[i]? = some u3 ∧ Dsk s j1 e1 g p m ∧ Dsk s j2 e2 g p m ∧ Ap j1 e1 j2 e2 ∧ ρ = [some (.c i), some (.d f.pd), some (.o (.ob j1)), some (.d (.list (reD g))), some (.o (.ob j2)), none, none, none, none, none]
def S5 (st : Sto) (i : Nat) (u3 : Cl) (f p m : Pol) (g : List (Pol × Pol)) (j1 e1 j2 e2 : Nat) (ρ : En) (s : Sto) : Prop := ∃ j3 e3, s.length = st.length ∧ s[i]? = some u3 ∧ Dsk s j1 e1 g p m ∧ Dsk s j2 e2 g p m ∧ Dsk s j3 e3 g p m ∧ Ap j1 e1 j3 e3 ∧ Ap j2 e2 j3 e3 ∧ ρ = [some (.c i), some (.d f.pd), some (.o (.ob j1)), some (.d (.list (reD g))), some (.o (.ob j2)), some (.o (.ob j3)), none, none, none, none]
def S6 (st : Sto) (i : Nat) (f : Pol) (g : List (Pol × Pol)) (j1 e1 j2 e2 j3 e3 : Nat) (ρ : En) (s : Sto) : Prop := ∃ ga gb gc pa ma pb mb pc mc, s.length = st.length ∧ Dsk s j1 e1 (g ++ ga) pa ma ∧ Dsk s j2 e2 (g ++ gb) pb mb ∧ Dsk s j3 e3 (g ++ gc) pc mc ∧ ρ = [some (.c i), some (.d f.pd), some (.o (.ob j1)), some (.d (.list (reD g))), some (.o (.ob j2)), some (.o (.ob j3)), some (.d (.list [.list (reD (g ++ ga)), .list (reD (g ++ gb)), .list (reD (g ++ gc))])), none, none, none]
theorem w_right (hi0 : i ≠ 0) (hu : st[i]? = some u) (hU : Urn mm u) (hm : mm < 2 ^ 140) (hP : ∀ s, st.length ≤ s.length → P (.d (.bool true)) s) : WVe noE (sem__law_right [.c i] st) P := by
  have hil : i < st.length := (List.getElem?_eq_some_iff.mp hu).1
  have hp0 : 0 < st.length := by omega
  unfold sem__law_right sb__law_right
  rw [W_body, ePo]
  refine ⟨rfl, ?_⟩
  refine seq_cut (fun ρ s => ∃ (p : Pol) (u' : Cl), Kt 0 p ∧ Urn (mm + 50) u' ∧ s = st.set i u' ∧ ρ = [some (.c i), some (.d p.pd), none, none, none, none, none, none, none, none]) ?_ ?_
  · simp
    refine w_policy hu hU (by decide) (by decide) (by decide) (by decide) (by omega) fun p stem u' hb hs hd hl hst hU' => ?_
    have htk : List.take st.length (st.set i u') = st.set i u' := List.take_of_length_le (by simp)
    simp [htk]
    exact ⟨p, kt_drawn4 hb (by omega) hl hst, u', hU'.mono (by omega), rfl, rfl⟩
  rintro ρ s ⟨f, u1, hk, hU1, rfl, rfl⟩
  have hu1 : (st.set i u1)[i]? = some u1 := List.getElem?_set_self hil
  have hl1 : (st.set i u1).length = st.length := by simp
  generalize st.set i u1 = s1 at hu1 hl1 ⊢
  have hp1 : 0 < s1.length := by omega
  refine seq_cut (fun ρ s => ∃ j e, s.length = st.length ∧ s[i]? = some u1 ∧ Dsk s j e [] f f ∧ ρ = [some (.c i), some (.d f.pd), some (.o (.ob j)), none, none, none, none, none, none, none]) ?_ ?_
  · simp
    refine w_init (n := (objsOf s1).length + 1) (hk.valid (by decide)) ?_ ?_ fun c hc hkp hln => ?_
    · exact insAt_of (by rw [objsOf_new hp1, List.getElem?_append_right (Nat.le_refl _), Nat.sub_self]; all_goals rfl)
    · rw [objsOf_new hp1, List.length_append]; all_goals rfl
    have e1 : (newO s1 (.ins "Desk" [])).set 0 c = s1.set 0 c := by unfold newO; rw [List.set_set]
    rw [e1] at hc ⊢
    have htk : List.take s1.length (s1.set 0 c) = s1.set 0 c := List.take_of_length_le (by simp)
    simp [htk]
    exact ⟨hl1, by rw [List.getElem?_set_ne (Ne.symm hi0)]; exact hu1, _, ⟨hc, ⟨hk, hk, fun k x hx => by simp at hx⟩, by decide⟩⟩
  rintro ρ s2 ⟨j1, e1, hl2, hu2, D1, rfl⟩
  refine seq_cut (S3 st i mm f j1 e1) ?_ ?_
  · simp
    refine c_led (most := 8) hi0 hu2 hU1 (by omega) D1 (by decide) fun s g' p' m' u' hl hu' hU' hd hD hg => ?_
    simp
    unfold S3
    exact ⟨g', p', m', u', by omega, hu', hU'.mono (by omega), hD, hg, rfl⟩
  rintro ρ s3 ⟨g, p, m, u3, hl3, hu3, hU3, D1, hg8, rfl⟩
  refine seq_cut (S4 st i u3 f p m g j1 e1) ?_ ?_
  · simp [D1.d.i, -List.lookup_eq_none_iff]
    refine c_clone D1 fun s j2 e2 hl hs D2 hD => ?_
    obtain ⟨D1', a12⟩ := hD _ _ _ _ _ D1
    simp
    unfold S4
    exact ⟨j2, e2, by omega, by rw [hs i hi0]; exact hu3, D1', D2, a12, rfl⟩
  rintro ρ s4 ⟨j2, e2, hl4, hu4, D1, D2, a12, rfl⟩
  refine seq_cut (S5 st i u3 f p m g j1 e1 j2 e2) ?_ ?_
  · simp [D2.d.i, -List.lookup_eq_none_iff]
    refine c_clone D2 fun s j3 e3 hl hs D3 hD => ?_
    obtain ⟨D1', a13⟩ := hD _ _ _ _ _ D1
    obtain ⟨D2', a23⟩ := hD _ _ _ _ _ D2
    simp
    unfold S5
    exact ⟨j3, e3, by omega, by rw [hs i hi0]; exact hu4, D1', D2', D3, a13, a23, rfl⟩
  rintro ρ s5 ⟨j3, e3, hl5, hu5, D1, D2, D3, a13, a23, rfl⟩
  -- all three are equal
  refine seq_cut (fun ρ s => s = s5 ∧ ρ = [some (.c i), some (.d f.pd), some (.o (.ob j1)), some (.d (.list (reD g))), some (.o (.ob j2)), some (.o (.ob j3)), none, none, none, none]) ?_ ?_
  · have hle : (reD g).length < 5000 := by rw [reD_len]; omega
    simp [D1.d.i, D2.d.i, D3.d.i, eqR, -List.lookup_eq_none_iff]
    refine w_eq D1.d D2.d D1.val.1 D1.val.2.1 D2.val.1 D2.val.2.1 ?_
    simp [List.take_of_length_le, D2.d.i, D3.d.i, eqR, -List.lookup_eq_none_iff]
    refine w_eq D2.d D3.d D1.val.1 D1.val.2.1 D2.val.1 D2.val.2.1 ?_
    simp [List.take_of_length_le, D3.d.i, -List.lookup_eq_none_iff]
    refine w_changes D3.d hle ?_
    simp [List.take_of_length_le, D3.d.i]
    refine w_state D1.d ?_
    simp [List.take_of_length_le, D3.d.i]
    refine w_eqT D3.d ?_
    simp [List.take_of_length_le]
  rintro ρ s5' ⟨rfl, rfl⟩
  have hadd : ∀ x : List (Pol × Pol), x.length ≤ 4 → fAdd (.list (reD g)) (.list (reD x)) = some (.n (.l (reD (g ++ x)))) := fun x hx => by
    have e : reD (g ++ x) = reD g ++ reD x := List.map_append
    rw [e]
    have hl : (reD g ++ reD x).length ≤ sizeLine := by rw [List.length_append, reD_len, reD_len, szl]; omega
    simp [fAdd]
    simpa using hl
  refine seq_cut (S6 st i f g j1 e1 j2 e2 j3 e3) ?_ ?_
  · simp [vob, szl, wipeE]
    refine c_led (most := 4) hi0 hu5 hU3 (by omega) D1 (by omega) fun s ga pa ma ua hla hua hUa hda Da hga => ?_
    have D2a := D2.by_ hda a12.symm
    have D3a := D3.by_ hda a13.symm
    simp [hadd ga hga]
    refine c_led (most := 4) hi0 hua hUa (by omega) D2a (by omega) fun s' gb pb mb ub hlb hub hUb hdb Db hgb => ?_
    have D1b := Da.by_ hdb a12
    have D3b := D3a.by_ hdb a23.symm
    simp [hadd gb hgb]
    refine c_led (most := 4) hi0 hub hUb (by omega) D3b (by omega) fun s'' gc pc mc uc hlc huc hUc hdc Dc hgc => ?_
    have D1c := D1b.by_ hdc a13
    have D2c := Db.by_ hdc a23
    simp [hadd gc hgc]
    unfold S6
    exact ⟨ga, gb, gc, pa, ma, pb, mb, pc, mc, by omega, D1c, D2c, Dc, rfl⟩
  rintro ρ s6 ⟨ga, gb, gc, pa, ma, pb, mb, pc, mc, hl6, D1, D2, D3, rfl⟩
  refine seq_cut (fun ρ s => s = s6 ∧ ∃ x7 x8, ρ = [some (.c i), some (.d f.pd), some (.o (.ob j1)), some (.d (.list (reD g))), some (.o (.ob j2)), some (.o (.ob j3)), some (.d (.list [.list (reD (g ++ ga)), .list (reD (g ++ gb)), .list (reD (g ++ gc))])), x7, x8, none]) ?_ ?_
  · have k11 := fun {N B C : En → Sto → Prop} {x0 x1 x2 x3 x4 x5 x6 x9 : Option Vl} => @c_cmp s6 P j1 e1 j1 e1 _ _ _ _ _ _ N B C x0 x1 x2 x3 x4 x5 x6 x9 D1 D1
    have k12 := fun {N B C : En → Sto → Prop} {x0 x1 x2 x3 x4 x5 x6 x9 : Option Vl} => @c_cmp s6 P j1 e1 j2 e2 _ _ _ _ _ _ N B C x0 x1 x2 x3 x4 x5 x6 x9 D1 D2
    have k13 := fun {N B C : En → Sto → Prop} {x0 x1 x2 x3 x4 x5 x6 x9 : Option Vl} => @c_cmp s6 P j1 e1 j3 e3 _ _ _ _ _ _ N B C x0 x1 x2 x3 x4 x5 x6 x9 D1 D3
    have k21 := fun {N B C : En → Sto → Prop} {x0 x1 x2 x3 x4 x5 x6 x9 : Option Vl} => @c_cmp s6 P j2 e2 j1 e1 _ _ _ _ _ _ N B C x0 x1 x2 x3 x4 x5 x6 x9 D2 D1
    have k22 := fun {N B C : En → Sto → Prop} {x0 x1 x2 x3 x4 x5 x6 x9 : Option Vl} => @c_cmp s6 P j2 e2 j2 e2 _ _ _ _ _ _ N B C x0 x1 x2 x3 x4 x5 x6 x9 D2 D2
    have k23 := fun {N B C : En → Sto → Prop} {x0 x1 x2 x3 x4 x5 x6 x9 : Option Vl} => @c_cmp s6 P j2 e2 j3 e3 _ _ _ _ _ _ N B C x0 x1 x2 x3 x4 x5 x6 x9 D2 D3
    have k31 := fun {N B C : En → Sto → Prop} {x0 x1 x2 x3 x4 x5 x6 x9 : Option Vl} => @c_cmp s6 P j3 e3 j1 e1 _ _ _ _ _ _ N B C x0 x1 x2 x3 x4 x5 x6 x9 D3 D1
    have k32 := fun {N B C : En → Sto → Prop} {x0 x1 x2 x3 x4 x5 x6 x9 : Option Vl} => @c_cmp s6 P j3 e3 j2 e2 _ _ _ _ _ _ N B C x0 x1 x2 x3 x4 x5 x6 x9 D3 D2
    have k33 := fun {N B C : En → Sto → Prop} {x0 x1 x2 x3 x4 x5 x6 x9 : Option Vl} => @c_cmp s6 P j3 e3 j3 e3 _ _ _ _ _ _ N B C x0 x1 x2 x3 x4 x5 x6 x9 D3 D3
    generalize (sIf (mCmp gNe (mEqO "Desk" sem_Desk___eq__ (mN 7) (mN 8)) (bV (mCmp gEq (mCal (Cp.g1 fRepr) (aCons (mV (mCall sem__law_state (aCons (mV (mN 7)) aNil))) aNil)) (mCal (Cp.g1 fRepr) (aCons (mV (mCall sem__law_state (aCons (mV (mN 8)) aNil))) aNil))))) (sRet (mK (.bool false))) sNil) = V at k11 k12 k13 k21 k22 k23 k31 k32 k33 ⊢
    simp [vob, szl]
    refine k11 ?_
    simp
    refine k12 ?_
    simp
    refine k13 ?_
    simp [vob, szl]
    refine k21 ?_
    simp
    refine k22 ?_
    simp
    refine k23 ?_
    simp [vob, szl]
    refine k31 ?_
    simp
    refine k32 ?_
    simp
    refine k33 ?_
    simp
  rintro ρ s7 ⟨rfl, x7, x8, rfl⟩
  have hall : fAll (.list [.bool true, .bool true, .bool true]) = some (.d (.bool true)) := rfl
  simp [vob, szl, wipeE]
  refine c_und D1 fun sa p' m' hla hda => ?_
  have D2a := D2.by_ hda a12.symm
  have D3a := D3.by_ hda a13.symm
  simp
  refine c_und D2a fun sb p' m' hlb hdb => ?_
  have D3b := D3a.by_ hdb a23.symm
  simp
  refine c_und D3b fun sc p' m' hlc hdc => ?_
  simp [hall]
  exact hP _ (by omega)
end
end K61
namespace K61
open PySem L2 Cp
theorem w_law {ns : List Int} (hl : ns.length ≤ 63) : WVe noE (sem_law [.s ns] [heapC []]) fun r _ => r = .d (.bool true) := by
  have kR := @w_right
  have kM := @w_many
  unfold sem_law sb_law
  rw [W_body]
  refine ⟨rfl, ?_⟩
  refine seq_cut (fun ρ s => s.length = 1 ∧ ρ = [some (.s ns), none]) ?_ ?_
  · have ht : truD (.bool true) = some true := rfl
    simp [eU]
    refine w_urn (k := 0) (by decide) (by decide) fun u hU => ?_
    simp
    refine kM (u := u) (i := 1) (by decide) rfl hU (by decide) fun s hs => ?_
    simp [ht]
    simp at hs
    omega
  rintro ρ s ⟨hs1, rfl⟩
  simp
  have hn : ∃ n : Int, (if 1 < if (ns.length : Int) < 2 then (ns.length : Int) else 2 then if (ns.length : Int) < 2 then (ns.length : Int) else 2 else 1) = n ∧ 0 ≤ n ∧ n ≤ 2 := ⟨_, rfl, by split <;> split <;> omega, by split <;> split <;> omega⟩
  obtain ⟨n, e, n0, n2⟩ := hn
  rw [e]
  refine ⟨rOk_of2 (by decide) (by decide) (by omega) (by omega), ?_⟩
  refine lcGo_by (I := fun j s a => a = List.replicate j (.bool true) ∧ s.length = 1) _ 0 [] ⟨rfl, hs1⟩ (fun _ _ _ _ => trivial) ?_ ?_
  · rintro j d s acc hd ⟨rfl, hs⟩
    obtain ⟨rfl, hj⟩ := rngD_get hd
    rw [Nat.zero_add]
    simp [wipeE, eU]
    refine w_urn (by omega) (by omega) fun u hU => ?_
    simp
    refine kR (u := u) (by omega) (by simp) hU (by decide) fun s' hs' => ?_
    simp [szl]
    refine ⟨by omega, by rw [List.replicate_succ'], ?_⟩
    rw [List.length_append] at hs'
    omega
  · rintro s acc ⟨rfl, hs⟩
    have ha : ∀ k, fAll (.list (List.replicate k (PyData.bool true))) = some (.d (.bool true)) := fun k => by
      have h1 := fAll_trues (n := 0) (List.replicate k ())
      rw [List.map_replicate] at h1
      exact h1
    simp [ha]
theorem sem_true (ns : List Int) (hl : ns.length ≤ 63) : ∃ st, sem_law [.s ns] [heapC []] = .ok (.d (.bool true)) st := by
  obtain ⟨r, s, e, rfl⟩ := WV_ex (w_law hl)
  exact ⟨s, e⟩
end K61
theorem PySem.Challenge.cw_callpolicy_k61_copies_of_desks_holds : PySem.Challenge.rw_callpolicy_k61_copies_of_desks.Holds :=
  K61.holds_of K61.sem_true
